import PyProof.Rows.All
import Wide.All
import OpenK.AllK
import Wide.FinOn
import HandS.ForMost
import HandS.ForExc
import HandS.HotCalls
import HandS.ExcIs
import HandS.Comp
import HandS.Wide
import HandS.Defaults
import HandS.IsInst
import HandS.Ends
import HandS.Head0
import HandS.Head1
import HandS.Head2
import HandS.HeadEnd
import HandS.HeadHook1
import HandS.HeadHook2
import HandS.HeadHook3
import HandS.HeadHook4
import HandS.CallSlots
import HandS.Property
import HandS.FStr
import HandS.RaiseMore
import PyProof.Rows.StrOr
import PyProof.StrReplace2
import KE.KRevSl
import HandS.TupMul
import HandS.Deep
import HandS.TryOnly
import HandS.More
import HandS.Small
import KE.GoesMore
import PyProof.ListRange
import KE.KExcIs
import HandS.ExcField
import HandS.ExcInit
import HandS.HeadNt
import PySem.Challenge.RW_twothick_k03_catalogue_refusals
set_option Elab.async false
set_option linter.all false
set_option maxRecDepth 100000
set_option maxHeartbeats 4000000
/-! a layer of plain data over the hand layer -/
namespace DL
open PySem L2

/-! ### data -/
inductive D where
  | non | bl (b : Bool) | int (i : Int) | str (x : Str)
  | tup (l : List D) | lst (l : List D) | lsr (l : List D)
  | dK (ks : List Key) (l : List D) | dT (ks : List (List Key)) (l : List D)
  | ins (C : Addr) (fs : List Str) (l : List D)
  | exc (a : Addr) (d : Option Addr) (ks : List Str) (l : List D)
  | mut (a : Addr)
inductive MO where
  | lst (l : List D) | dK (kvs : List (Key × D)) | dT (kvs : List (List Key × D)) | ins (C : Addr) (fs : List (Str × D))
abbrev Mu := Addr → Option MO
abbrev En := List (Option D)
def um (μ : Mu) (a : Addr) (m : MO) : Mu := fun b => if b = a then some m else μ b
def rm (μ : Mu) (a : Addr) : Mu := fun b => if b = a then none else μ b
theorem um_same {μ : Mu} {a : Addr} {m : MO} : um μ a m a = some m := by unfold um; rw [if_pos rfl]
theorem um_ne {μ : Mu} {a b : Addr} {m : MO} (h : b ≠ a) : um μ a m b = μ b := by unfold um; rw [if_neg h]
theorem um_um {μ : Mu} {a : Addr} {m m' : MO} : um (um μ a m) a m' = um μ a m' := by
  funext b; unfold um; split <;> rfl
theorem rm_same {μ : Mu} {a : Addr} : rm μ a a = none := by unfold rm; rw [if_pos rfl]
theorem rm_ne {μ : Mu} {a b : Addr} (h : b ≠ a) : rm μ a b = μ b := by unfold rm; rw [if_neg h]
theorem rm_um {μ : Mu} {a : Addr} {m : MO} (h : μ a = none) : rm (um μ a m) a = μ := by
  funext b; unfold rm um; split
  · rename_i e; rw [e, h]
  · rfl
theorem um_id {μ : Mu} {a : Addr} {m : MO} (h : μ a = some m) : um μ a m = μ := by
  funext b; unfold um; split
  · rename_i e; rw [e, h]
  · rfl
theorem ne_nm {μ : Mu} {a b : Addr} {m : MO} (h : μ a = some m) (h' : μ b = none) : a ≠ b := by
  intro e; subst e; rw [h] at h'; cases h'
/-- less is known -/
def le (μ μ' : Mu) : Prop := ∀ a m, μ a = some m → μ' a = some m
theorem le.refl {μ : Mu} : le μ μ := fun _ _ h => h
theorem le.trans {a b c : Mu} (h : le a b) (h' : le b c) : le a c := fun x m e => h' x m (h x m e)
theorem le.um {μ : Mu} {a : Addr} {m : MO} (h : μ a = none) : le μ (um μ a m) := fun b n e => by
  rw [um_ne (ne_nm e h)]; exact e
theorem le.um2 {μ μ' : Mu} {a : Addr} {m : MO} (h : le μ μ') : le (DL.um μ a m) (DL.um μ' a m) := fun b n e => by
  unfold DL.um at *
  split
  · rename_i q; rw [if_pos q] at e; exact e
  · rename_i q; rw [if_neg q] at e; exact h b n e

mutual
/-- v is the data d, its parts standing in F for good -/
def DV (K : PySem.W.Frag) (F : Hp) : D → V → Prop
  | .non, v => v = .non
  | .bl b, v => v = .bl b
  | .int i, v => v = .int i
  | .str x, v => v = .str x
  | .tup l, v => ∃ a xs, v = .ref a ∧ F a = some (.tup xs) ∧ DVs K F l xs
  | .lst l, v => ∃ a xs, v = .ref a ∧ F a = some (.lst xs) ∧ DVs K F l xs
  | .lsr l, v => ∃ a xs, v = .ref a ∧ SqL K F a xs ∧ DVs K F l xs
  | .dK ks l, v => ∃ a kvs, v = .ref a ∧ F a = some (.dK kvs) ∧ kvs.map (·.1) = ks ∧ DVs K F l (kvs.map (·.2))
  | .dT ks l, v => ∃ a kvs, v = .ref a ∧ F a = some (.dT kvs) ∧ kvs.map (·.1) = ks ∧ DVs K F l (kvs.map (·.2))
  | .ins C fs l, v => ∃ a dx kvs, v = .ref a ∧ F a = some (.ins C dx kvs) ∧ kvs.map (·.1) = fs ∧ DVs K F l (kvs.map (·.2))
  | .exc a d ks l, v => v = .ref a ∧ ((d = none ∧ l = []) ∨ ∃ dd ys, d = some dd ∧ F dd = some (.xd ys) ∧ ys.map (·.1) = ks ∧ DVs K F l (ys.map (·.2)))
  | .mut a, v => v = .ref a
def DVs (K : PySem.W.Frag) (F : Hp) : List D → List V → Prop
  | [], xs => xs = []
  | d :: l, xs => ∃ v vs, xs = v :: vs ∧ DV K F d v ∧ DVs K F l vs
end
def Grow (F F' : Hp) : Prop := ∀ a o, F a = some o → F' a = some o
theorem Grow.refl {F : Hp} : Grow F F := fun _ _ h => h
theorem Grow.trans {F G H : Hp} (a : Grow F G) (b : Grow G H) : Grow F H := fun x o h => b x o (a x o h)
theorem Grow.new {F : Hp} {p : Addr} {o : HO} (h : F p = none) : Grow F (upd F p o) := fun a u e => by
  rw [upd_ne (ne_of_none e h)]; exact e
theorem Grow.rd {H H' : Hp} {a : Addr} {u : HO} (e : Grow H H') (h : Rd H a u) : Rd H' a u := by
  rcases h with h | ⟨o, h⟩
  · exact .inl (e a _ h)
  · exact .inr ⟨o, e a _ h⟩
theorem Grow.sl {K : PySem.W.Frag} {H H' : Hp} {a : Addr} {xs : List V} (e : Grow H H') (h : SqL K H a xs) : SqL K H' a xs := by
  rcases h with h | h
  · exact .inl (e.rd h)
  · exact .inr h
theorem Grow.st {K : PySem.W.Frag} {H H' : Hp} {a : Addr} {xs : List V} (e : Grow H H') (h : H a = some (.tup xs)) : SqT K H' a xs := SqT.of (e _ _ h)
section
variable {K : PySem.W.Frag} {F F' : Hp}
mutual
theorem DV.mono (g : Grow F F') : ∀ {d : D} {v : V}, DV K F d v → DV K F' d v
  | .non, _, h => h
  | .bl _, _, h => h
  | .int _, _, h => h
  | .str _, _, h => h
  | .mut _, _, h => h
  | .tup l, _, h => let ⟨a, xs, e, s, r⟩ := h; ⟨a, xs, e, g _ _ s, DVs.mono g r⟩
  | .lst l, _, h => let ⟨a, xs, e, s, r⟩ := h; ⟨a, xs, e, g _ _ s, DVs.mono g r⟩
  | .lsr l, _, h => let ⟨a, xs, e, s, r⟩ := h; ⟨a, xs, e, g.sl s, DVs.mono g r⟩
  | .dK _ _, _, h => let ⟨a, xs, e, s, k, r⟩ := h; ⟨a, xs, e, g _ _ s, k, DVs.mono g r⟩
  | .dT _ _, _, h => let ⟨a, xs, e, s, k, r⟩ := h; ⟨a, xs, e, g _ _ s, k, DVs.mono g r⟩
  | .ins _ _ _, _, h => let ⟨a, dx, xs, e, s, k, r⟩ := h; ⟨a, dx, xs, e, g _ _ s, k, DVs.mono g r⟩
  | .exc _ _ _ _, _, h => ⟨h.1, h.2.elim .inl fun ⟨dd, ys, e, s, k, r⟩ => .inr ⟨dd, ys, e, g _ _ s, k, DVs.mono g r⟩⟩
theorem DVs.mono (g : Grow F F') : ∀ {l : List D} {xs : List V}, DVs K F l xs → DVs K F' l xs
  | [], _, h => h
  | _ :: _, _, h => let ⟨v, vs, e, a, r⟩ := h; ⟨v, vs, e, DV.mono g a, DVs.mono g r⟩
end
theorem DVs.len : ∀ {l : List D} {xs : List V}, DVs K F l xs → xs.length = l.length
  | [], _, h => by rw [show _ = [] from h]; rfl
  | _ :: l, _, h => by
    obtain ⟨v, vs, rfl, a, r⟩ := h
    show vs.length + 1 = l.length + 1
    rw [DVs.len r]
theorem DVs.get : ∀ {l : List D} {xs : List V} {i : Nat} {d : D}, DVs K F l xs → l[i]? = some d → ∃ v, xs[i]? = some v ∧ DV K F d v
  | [], _, _, _, _, e => by simp at e
  | _ :: l, _, 0, _, h, e => by
    obtain ⟨v, vs, rfl, a, r⟩ := h
    simp at e; subst e
    exact ⟨v, rfl, a⟩
  | _ :: l, _, i + 1, d, h, e => by
    obtain ⟨v, vs, rfl, a, r⟩ := h
    obtain ⟨u, h1, h2⟩ := DVs.get (i := i) (d := d) r (by simpa using e)
    exact ⟨u, by simpa using h1, h2⟩
theorem DVs.back : ∀ {l : List D} {xs : List V} {i : Nat} {v : V}, DVs K F l xs → xs[i]? = some v → ∃ d, l[i]? = some d ∧ DV K F d v
  | [], _, _, _, h, e => by rw [show _ = [] from h] at e; simp at e
  | _ :: l, _, 0, _, h, e => by
    obtain ⟨v, vs, rfl, a, r⟩ := h
    simp at e; subst e
    exact ⟨_, rfl, a⟩
  | _ :: l, _, i + 1, d, h, e => by
    obtain ⟨v, vs, rfl, a, r⟩ := h
    obtain ⟨u, h1, h2⟩ := DVs.back (i := i) (v := d) r (by simpa using e)
    exact ⟨u, by simpa using h1, h2⟩
theorem DVs.nil : DVs K F [] [] := rfl
theorem DVs.cons {d : D} {v : V} {l : List D} {xs : List V} (h : DV K F d v) (r : DVs K F l xs) : DVs K F (d :: l) (v :: xs) := ⟨v, xs, rfl, h, r⟩
theorem DVs.append : ∀ {l m : List D} {xs ys : List V}, DVs K F l xs → DVs K F m ys → DVs K F (l ++ m) (xs ++ ys)
  | [], _, _, _, h, q => by rw [show _ = [] from h]; exact q
  | _ :: l, _, _, _, h, q => by
    obtain ⟨v, vs, rfl, a, r⟩ := h
    exact ⟨v, _, rfl, a, DVs.append r q⟩
theorem DVs.set : ∀ {l : List D} {xs : List V} (i : Nat) {d : D} {v : V}, DVs K F l xs → DV K F d v → DVs K F (l.set i d) (xs.set i v)
  | [], _, _, _, _, h, _ => by rw [show _ = [] from h]; exact rfl
  | _ :: l, _, 0, _, _, h, q => by
    obtain ⟨v, vs, rfl, a, r⟩ := h
    exact ⟨_, _, rfl, q, r⟩
  | _ :: l, _, i + 1, _, _, h, q => by
    obtain ⟨v, vs, rfl, a, r⟩ := h
    exact ⟨_, _, rfl, a, DVs.set i r q⟩
theorem DVs.take : ∀ {l : List D} {xs : List V} (n : Nat), DVs K F l xs → DVs K F (l.take n) (xs.take n)
  | _, _, 0, _ => by simp; exact rfl
  | [], _, _ + 1, h => by rw [show _ = [] from h]; exact rfl
  | _ :: l, _, n + 1, h => by
    obtain ⟨v, vs, rfl, a, r⟩ := h
    exact ⟨_, _, rfl, a, DVs.take n r⟩
theorem DVs.drop : ∀ {l : List D} {xs : List V} (n : Nat), DVs K F l xs → DVs K F (l.drop n) (xs.drop n)
  | _, _, 0, h => h
  | [], _, _ + 1, h => by rw [show _ = [] from h]; exact rfl
  | _ :: l, _, n + 1, h => by
    obtain ⟨v, vs, rfl, a, r⟩ := h
    exact DVs.drop n r
theorem DVs.dropLast {l : List D} {xs : List V} (h : DVs K F l xs) : DVs K F l.dropLast xs.dropLast := by
  rw [List.dropLast_eq_take, List.dropLast_eq_take, h.len]
  exact h.take _
theorem DVs.ints : ∀ {ns : List Int} {xs : List V}, DVs K F (ns.map D.int) xs → xs = ns.map V.int
  | [], _, h => h
  | n :: ns, _, h => by
    obtain ⟨v, vs, rfl, a, r⟩ := h
    rw [show v = V.int n from a, DVs.ints r]; rfl
theorem DVs.of_ints : ∀ {ns : List Int}, DVs K F (ns.map D.int) (ns.map V.int)
  | [] => rfl
  | n :: ns => ⟨_, _, rfl, rfl, DVs.of_ints⟩
theorem DVs.bls : ∀ {ns : List Bool} {xs : List V}, DVs K F (ns.map D.bl) xs → xs = ns.map V.bl
  | [], _, h => h
  | n :: ns, _, h => by
    obtain ⟨v, vs, rfl, a, r⟩ := h
    rw [show v = V.bl n from a, DVs.bls r]; rfl
end

/-! ### the state -/
def KD (K : PySem.W.Frag) (F : Hp) {κ : Type} (kvs : List (κ × D)) (ys : List (κ × V)) : Prop := ys.map (·.1) = kvs.map (·.1) ∧ DVs K F (kvs.map (·.2)) (ys.map (·.2))
theorem KD.mono {K : PySem.W.Frag} {F F' : Hp} {κ : Type} {kvs : List (κ × D)} {ys : List (κ × V)} (g : Grow F F') (h : KD K F kvs ys) : KD K F' kvs ys := ⟨h.1, h.2.mono g⟩
def MOk (K : PySem.W.Frag) (F H : Hp) (a : Addr) : MO → Prop
  | .lst l => ∃ xs, H a = some (.lst xs) ∧ DVs K F l xs
  | .dK kvs => ∃ ys, H a = some (.dK ys) ∧ KD K F kvs ys
  | .dT kvs => ∃ ys, H a = some (.dT ys) ∧ KD K F kvs ys
  | .ins C fs => ∃ dx ys, H a = some (.ins C dx ys) ∧ KD K F fs ys
structure Sok (K : PySem.W.Frag) (F : Hp) (μ : Mu) (H : Hp) : Prop where
  sub : ∀ a o, F a = some o → H a = some o
  cel : ∀ a m, μ a = some m → F a = none ∧ MOk K F H a m
def EnvOk (K : PySem.W.Frag) (F : Hp) (ρ : En) (σ : L2.St) : Prop := ρ.length = σ.length ∧ ∀ (i : Nat) (d : D), ρ[i]? = some (some d) → ∃ v, σ[i]? = some (some v) ∧ DV K F d v
/-- an exception's fields, in its own dict -/
def ExD (K : PySem.W.Frag) (F : Hp) (d : Option Addr) (fs : List (Str × D)) : Prop := (fs = [] ∧ d = none) ∨ fs ≠ [] ∧ ∃ dd ys, d = some dd ∧ F dd = some (.xd ys) ∧ KD K F fs ys
/-- what is wanted of an exception: its class, its fields, the slots and cells at its raise -/
abbrev EX := Addr → List (Str × D) → En → Mu → Prop
def WOk (K : PySem.W.Frag) (W : WX) (E : EX) (F : Hp) : Prop := ∀ (F' : Hp) (μ : Mu) (H : Hp) (ρ : En) (σ : L2.St) C d fs, Grow F F' → Sok K F' μ H → EnvOk K F' ρ σ → ExD K F' d fs → E C fs ρ μ → W (.ref C) d σ H
structure S0 (K : PySem.W.Frag) (W : WX) (E : EX) (F : Hp) (μ : Mu) (H : Hp) (ρ : En) (σ : L2.St) : Prop where
  ok : Sok K F μ H
  env : EnvOk K F ρ σ
  wok : WOk K W E F
section
variable {K : PySem.W.Frag} {W : WX} {E : EX} {F F' H H' : Hp} {μ μ' : Mu} {ρ ρ' : En} {σ σ' : L2.St} {p a : Addr} {o : HO} {m : MO} {d : D} {v : V}
theorem EnvOk.mono (g : Grow F F') (h : EnvOk K F ρ σ) : EnvOk K F' ρ σ := ⟨h.1, fun i d e => let ⟨v, a, b⟩ := h.2 i d e; ⟨v, a, b.mono g⟩⟩
theorem WOk.mono (g : Grow F F') (h : WOk K W E F) : WOk K W E F' := fun F1 μ H σ ρ C d fs g1 => h F1 μ H σ ρ C d fs (g.trans g1)
theorem MOk.mono (g : Grow F F') (hk : ∀ o, H a = some o → H' a = some o) (h : MOk K F H a m) : MOk K F' H' a m := by
  cases m with
  | lst l => obtain ⟨xs, e, r⟩ := h; exact ⟨xs, hk _ e, r.mono g⟩
  | dK l => obtain ⟨xs, e, r⟩ := h; exact ⟨xs, hk _ e, r.mono g⟩
  | dT l => obtain ⟨xs, e, r⟩ := h; exact ⟨xs, hk _ e, r.mono g⟩
  | ins C l => obtain ⟨dx, xs, e, r⟩ := h; exact ⟨dx, xs, hk _ e, r.mono g⟩
theorem MOk.some (h : MOk K F H a m) : ∃ o, H a = some o := by
  cases m with
  | lst l => obtain ⟨xs, e, r⟩ := h; exact ⟨_, e⟩
  | dK l => obtain ⟨xs, e, r⟩ := h; exact ⟨_, e⟩
  | dT l => obtain ⟨xs, e, r⟩ := h; exact ⟨_, e⟩
  | ins C l => obtain ⟨dx, xs, e, r⟩ := h; exact ⟨_, e⟩
theorem Sok.free (h : Sok K F μ H) (hp : H p = none) : F p = none ∧ μ p = none := by
  constructor
  · cases e : F p with
    | none => rfl
    | some o => rw [h.sub p o e] at hp; cases hp
  · cases e : μ p with
    | none => rfl
    | some m =>
      obtain ⟨o, q⟩ := (h.cel p m e).2.some
      rw [q] at hp; cases hp
/-- a new object for good -/
theorem Sok.put (h : Sok K F μ H) (hp : H p = none) : Sok K (upd F p o) μ (upd H p o) := by
  obtain ⟨f, m⟩ := h.free hp
  refine ⟨fun a u e => ?_, fun a u e => ?_⟩
  · by_cases q : a = p
    · subst q; rw [upd_same] at *; exact e
    · rw [upd_ne q] at *; exact h.sub a u e
  · obtain ⟨x, y⟩ := h.cel a u e
    have q : a ≠ p := ne_nm e m
    refine ⟨by rw [upd_ne q]; exact x, y.mono (Grow.new f) fun o' z => by rw [upd_ne q]; exact z⟩
/-- a new object, not of our world -/
theorem Sok.junk (h : Sok K F μ H) (hp : H p = none) : Sok K F μ (upd H p o) := by
  obtain ⟨f, m⟩ := h.free hp
  refine ⟨fun a u e => ?_, fun a u e => ?_⟩
  · rw [upd_ne (ne_of_none e f)]; exact h.sub a u e
  · obtain ⟨x, y⟩ := h.cel a u e
    have q : a ≠ p := ne_nm e m
    exact ⟨x, y.mono Grow.refl fun o' z => by rw [upd_ne q]; exact z⟩
/-- a new or changed cell -/
theorem Sok.cell (h : Sok K F μ H) (hp : F p = none) (hm : MOk K F (upd H p o) p m) : Sok K F (um μ p m) (upd H p o) := by
  refine ⟨fun a u e => ?_, fun a u e => ?_⟩
  · rw [upd_ne (ne_of_none e hp)]; exact h.sub a u e
  · by_cases q : a = p
    · subst q; rw [um_same] at e; cases e; exact ⟨hp, hm⟩
    · rw [um_ne q] at e
      obtain ⟨x, y⟩ := h.cel a u e
      exact ⟨x, y.mono Grow.refl fun o' z => by rw [upd_ne q]; exact z⟩
theorem Sok.weak (h : Sok K F μ H) (l : le μ' μ) : Sok K F μ' H := ⟨h.sub, fun a m e => h.cel a m (l a m e)⟩
/-- a cell is for good from now on -/
theorem Sok.frz (h : Sok K F μ H) (hp : F p = none) (ho : H p = some o) : Sok K (upd F p o) (rm μ p) H := by
  refine ⟨fun a u e => ?_, fun a u e => ?_⟩
  · by_cases q : a = p
    · subst q; rw [upd_same] at e; rw [ho]; exact e
    · rw [upd_ne q] at e; exact h.sub a u e
  · by_cases q : a = p
    · subst q; rw [rm_same] at e; cases e
    · rw [rm_ne q] at e
      obtain ⟨x, y⟩ := h.cel a u e
      exact ⟨by rw [upd_ne q]; exact x, y.mono (Grow.new hp) fun _ z => z⟩
theorem EnvOk.set {i : Nat} (h : EnvOk K F ρ σ) (hv : DV K F d v) : EnvOk K F (ρ.set i (some d)) (σ.set i (some v)) := by
  refine ⟨by rw [List.length_set, List.length_set]; exact h.1, fun j e q => ?_⟩
  by_cases hj : i = j
  · subst hj
    rw [List.getElem?_set] at q ⊢
    simp only [if_true] at q ⊢
    split at q
    · rename_i z
      rw [← h.1, if_pos z]
      simp only [Option.some.injEq] at q
      subst q
      exact ⟨v, rfl, hv⟩
    · cases q
  · rw [List.getElem?_set_ne hj] at q ⊢
    exact h.2 j e q
theorem EnvOk.le (h : EnvOk K F ρ σ) (hl : ρ'.length = ρ.length) (q : ∀ (i : Nat) (d : D), ρ'[i]? = some (some d) → ρ[i]? = some (some d)) : EnvOk K F ρ' σ := ⟨hl.trans h.1, fun i d e => h.2 i d (q i d e)⟩
theorem S0.mono (s : S0 K W E F μ H ρ σ) (g : Grow F F') (h : Sok K F' μ' H') : S0 K W E F' μ' H' ρ σ := ⟨h, s.env.mono g, s.wok.mono g⟩
theorem S0.set {i : Nat} (s : S0 K W E F μ H ρ σ) (hv : DV K F d v) : S0 K W E F μ H (ρ.set i (some d)) (σ.set i (some v)) := ⟨s.ok, s.env.set hv, s.wok⟩
theorem S0.weak (s : S0 K W E F μ H ρ σ) (l : le μ' μ) : S0 K W E F μ' H ρ σ := ⟨s.ok.weak l, s.env, s.wok⟩
end

/-! ### what readings give, over data -/
abbrev WEx := En → Mu → (D → Mu → Prop) → Prop
abbrev WT := En → Mu → (Bool → Mu → Prop) → Prop
abbrev WA := En → Mu → (List D → Mu → Prop) → Prop
structure DEnds where
  nx : En → Mu → Prop
  rt : D → Mu → Prop
  bk : En → Mu → Prop := fun _ _ => False
  ct : En → Mu → Prop := fun _ _ => False
abbrev WS := DEnds → En → Mu → Prop
section
variable (K : PySem.W.Frag) (W : WX) (E : EX)
/-- what is wanted of a value: of its data -/
def PQ (F : Hp) (ρ : En) (σ : L2.St) (Q0 : D → Mu → Prop) (Q : VK) : Prop := ∀ F' μ' H' d v, Grow F F' → S0 K W E F' μ' H' ρ σ → DV K F' d v → Q0 d μ' → Q v H'
def Dn (t : TE) (w : WEx) : Prop := ∀ F μ H ρ σ Q0 Q, S0 K W E F μ H ρ σ → w ρ μ Q0 → PQ K W E F ρ σ Q0 Q → t σ H Q
def DnT (t : TT) (w : WT) : Prop := ∀ F μ H ρ σ (Q0 : Bool → Mu → Prop) (Q : Bool → Hp → Prop), S0 K W E F μ H ρ σ → w ρ μ Q0 → (∀ F' μ' H' b, Grow F F' → S0 K W E F' μ' H' ρ σ → Q0 b μ' → Q b H') → t σ H Q
def DnA (t : TA) (w : WA) : Prop := ∀ F μ H ρ σ (Q0 : List D → Mu → Prop) (Q : List V → Hp → Prop), S0 K W E F μ H ρ σ → w ρ μ Q0 → (∀ F' μ' H' ds vs, Grow F F' → S0 K W E F' μ' H' ρ σ → DVs K F' ds vs → Q0 ds μ' → Q vs H') → t σ H Q
def PN (F : Hp) (N0 : En → Mu → Prop) (N : L2.St → Hp → Prop) : Prop := ∀ F' μ' H' ρ' σ', Grow F F' → S0 K W E F' μ' H' ρ' σ' → N0 ρ' μ' → N σ' H'
structure EndsOk (F : Hp) (D0 : DEnds) (Ds : Ends) : Prop where
  nx : PN K W E F D0.nx Ds.nx
  rt : ∀ F' μ' H' d v, Grow F F' → Sok K F' μ' H' → DV K F' d v → D0.rt d μ' → Ds.rt v H'
  bk : PN K W E F D0.bk Ds.bk
  ct : PN K W E F D0.ct Ds.ct
def DnS (t : TS) (w : WS) : Prop := ∀ F μ H ρ σ D0 Ds, S0 K W E F μ H ρ σ → w D0 ρ μ → EndsOk K W E F D0 Ds → t Ds σ H
/-- the same of values -/
def DOp (r : R2) (f : D → D → Mu → (D → Mu → Prop) → Prop) : Prop := ∀ F μ H x y dx dy Q0 (Q : VK), Sok K F μ H → DV K F dx x → DV K F dy y → f dx dy μ Q0 → (∀ F' μ' H' d v, Grow F F' → Sok K F' μ' H' → DV K F' d v → Q0 d μ' → Q v H') → r x y H Q
def DUn (r : V → Hp → VK → Prop) (f : D → Mu → (D → Mu → Prop) → Prop) : Prop := ∀ F μ H x dx Q0 (Q : VK), Sok K F μ H → DV K F dx x → f dx μ Q0 → (∀ F' μ' H' d v, Grow F F' → Sok K F' μ' H' → DV K F' d v → Q0 d μ' → Q v H') → r x H Q
def DCa (r : List V → Hp → VK → Prop) (f : List D → Mu → (D → Mu → Prop) → Prop) : Prop := ∀ F μ H vs ds Q0 (Q : VK), Sok K F μ H → DVs K F ds vs → f ds μ Q0 → (∀ F' μ' H' d v, Grow F F' → Sok K F' μ' H' → DV K F' d v → Q0 d μ' → Q v H') → r vs H Q
def DMe (r : V → List V → Hp → VK → Prop) (f : D → List D → Mu → (D → Mu → Prop) → Prop) : Prop := ∀ F μ H x vs dx ds Q0 (Q : VK), Sok K F μ H → DV K F dx x → DVs K F ds vs → f dx ds μ Q0 → (∀ F' μ' H' d v, Grow F F' → Sok K F' μ' H' → DV K F' d v → Q0 d μ' → Q v H') → r x vs H Q
end
section
variable {K : PySem.W.Frag} {W : WX} {E : EX}
theorem PQ.grow {F F' : Hp} {ρ : En} {σ : L2.St} {Q0 : D → Mu → Prop} {Q : VK} (g : Grow F F') (h : PQ K W E F ρ σ Q0 Q) : PQ K W E F' ρ σ Q0 Q := fun F1 μ1 H1 d v g1 => h F1 μ1 H1 d v (g.trans g1)
theorem PN.grow {F F' : Hp} {N0 : En → Mu → Prop} {N : L2.St → Hp → Prop} (g : Grow F F') (h : PN K W E F N0 N) : PN K W E F' N0 N := fun F1 μ1 H1 d v g1 => h F1 μ1 H1 d v (g.trans g1)
theorem EndsOk.grow {F F' : Hp} {D0 : DEnds} {Ds : Ends} (g : Grow F F') (h : EndsOk K W E F D0 Ds) : EndsOk K W E F' D0 Ds := ⟨h.nx.grow g, fun F1 μ1 H1 d v g1 => h.rt F1 μ1 H1 d v (g.trans g1), h.bk.grow g, h.ct.grow g⟩
end

/-! ### expressions -/
def wVar (i : Nat) : WEx := fun ρ μ Q => match ρ[i]? with
  | some (some d) => Q d μ
  | _ => False
def wC (d : D) : WEx := fun _ μ Q => Q d μ
def wOp (f : D → D → Mu → (D → Mu → Prop) → Prop) (a b : WEx) : WEx := fun ρ μ Q => a ρ μ fun x μ1 => b ρ μ1 fun y μ2 => f x y μ2 Q
def wUn (f : D → Mu → (D → Mu → Prop) → Prop) (a : WEx) : WEx := fun ρ μ Q => a ρ μ fun x μ1 => f x μ1 Q
def wNil : WA := fun _ μ Q => Q [] μ
def wCons (a : WEx) (r : WA) : WA := fun ρ μ Q => a ρ μ fun x μ1 => r ρ μ1 fun xs μ2 => Q (x :: xs) μ2
def wCB (f : List D → Mu → (D → Mu → Prop) → Prop) (a : WA) : WEx := fun ρ μ Q => a ρ μ fun ds μ1 => f ds μ1 Q
def wTup (a : WA) : WEx := fun ρ μ Q => a ρ μ fun ds μ1 => ds.length ≤ 100000 ∧ Q (.tup ds) μ1
def wLst (a : WA) : WEx := fun ρ μ Q => a ρ μ fun ds μ1 => ds.length ≤ 100000 ∧ ∀ p, μ1 p = none → Q (.mut p) (um μ1 p (.lst ds))
/-- a cell is read for good from here on -/
def fFrz (d : D) (μ : Mu) (Q : D → Mu → Prop) : Prop := match d with
  | .mut a => match μ a with
    | some (.lst l) => Q (.lst l) (rm μ a)
    | some (.dK kvs) => Q (.dK (kvs.map (·.1)) (kvs.map (·.2))) (rm μ a)
    | some (.dT kvs) => Q (.dT (kvs.map (·.1)) (kvs.map (·.2))) (rm μ a)
    | some (.ins C fs) => Q (.ins C (fs.map (·.1)) (fs.map (·.2))) (rm μ a)
    | none => False
  | d => Q d μ
def wFrz (a : WEx) : WEx := wUn fFrz a
/-- a new list for good -/
def wLstF (a : WA) : WEx := fun ρ μ Q => a ρ μ fun ds μ1 => ds.length ≤ 100000 ∧ Q (.lst ds) μ1
def tB0 (d : D) (μ : Mu) (Q : Bool → Mu → Prop) : Prop := match d with
  | .bl b => Q b μ
  | _ => False
def wTe (a : WEx) : WT := fun ρ μ Q => a ρ μ fun d μ1 => tB0 d μ1 Q
def wAnd (t u : WT) : WT := fun ρ μ Q => t ρ μ fun c μ1 => if c = true then u ρ μ1 Q else Q false μ1
def wOr (t u : WT) : WT := fun ρ μ Q => t ρ μ fun c μ1 => if c = true then Q true μ1 else u ρ μ1 Q
def wNot (t : WT) : WT := fun ρ μ Q => t ρ μ fun c μ1 => Q (!c) μ1
def wAndV (a b : WEx) : WEx := fun ρ μ Q => a ρ μ fun d μ1 => tB0 d μ1 fun c μ2 => if c = true then b ρ μ2 Q else Q (.bl false) μ2
def wOrV (a b : WEx) : WEx := fun ρ μ Q => a ρ μ fun d μ1 => tB0 d μ1 fun c μ2 => if c = true then Q (.bl true) μ2 else b ρ μ2 Q
def wNotV (a : WEx) : WEx := fun ρ μ Q => a ρ μ fun d μ1 => tB0 d μ1 fun c μ2 => Q (.bl (!c)) μ2
def wIfE (t : WT) (a b : WEx) : WEx := fun ρ μ Q => t ρ μ fun c μ1 => if c = true then a ρ μ1 Q else b ρ μ1 Q
theorem sz5 {n : Nat} (h : n ≤ 100000) : n ≤ sizeLine := Nat.le_trans h (by decide)
theorem sz5l {n : Nat} (h : n < 100000) : n < sizeLine := Nat.lt_of_lt_of_le h (by decide)
section
variable {K : PySem.W.Frag} {W : WX} {E : EX} {t ta tb te : TE} {w wa wb : WEx} {tt tu : TT} {wt wu : WT} {tas : TA} {was : WA} {r : R2}
theorem dn_var {i : Nat} : Dn K W E (tVar i) (wVar i) := by
  intro F μ H ρ σ Q0 Q s h q
  unfold wVar at h
  split at h
  · rename_i d e
    obtain ⟨v, e1, dv⟩ := s.env.2 i d e
    exact ⟨v, e1, q F μ H d v Grow.refl s dv h⟩
  · exact h.elim
theorem dn_int {i : Int} : Dn K W E (tC (.int i)) (wC (.int i)) := fun F μ H ρ σ Q0 Q s h q => q F μ H (.int i) (.int i) Grow.refl s rfl h
theorem dn_bl {i : Bool} : Dn K W E (tC (.bl i)) (wC (.bl i)) := fun F μ H ρ σ Q0 Q s h q => q F μ H (.bl i) (.bl i) Grow.refl s rfl h
theorem dn_non : Dn K W E (tC .non) (wC .non) := fun F μ H ρ σ Q0 Q s h q => q F μ H .non .non Grow.refl s rfl h
theorem dn_str {x : Str} : Dn K W E (tC (.str x)) (wC (.str x)) := fun F μ H ρ σ Q0 Q s h q => q F μ H (.str x) (.str x) Grow.refl s rfl h
theorem dn_op {f : D → D → Mu → (D → Mu → Prop) → Prop} (hf : DOp K r f) (ha : Dn K W E ta wa) (hb : Dn K W E tb wb) : Dn K W E (tOp r ta tb) (wOp f wa wb) := by
  intro F μ H ρ σ Q0 Q s h q
  refine ha F μ H ρ σ _ _ s h fun F1 μ1 H1 dx x g1 s1 dv1 h1 => ?_
  refine hb F1 μ1 H1 ρ σ _ _ s1 h1 fun F2 μ2 H2 dy y g2 s2 dv2 h2 => ?_
  refine hf F2 μ2 H2 x y dx dy Q0 Q s2.ok (dv1.mono g2) dv2 h2 fun F3 μ3 H3 d v g3 s3 dv h3 => ?_
  exact q F3 μ3 H3 d v (g1.trans (g2.trans g3)) (s2.mono g3 s3) dv h3
theorem dn_un {r : V → Hp → VK → Prop} {f : D → Mu → (D → Mu → Prop) → Prop} (hf : DUn K r f) (ha : Dn K W E ta wa) : Dn K W E (tUn r ta) (wUn f wa) := by
  intro F μ H ρ σ Q0 Q s h q
  refine ha F μ H ρ σ _ _ s h fun F1 μ1 H1 dx x g1 s1 dv1 h1 => ?_
  refine hf F1 μ1 H1 x dx Q0 Q s1.ok dv1 h1 fun F3 μ3 H3 d v g3 s3 dv h3 => ?_
  exact q F3 μ3 H3 d v (g1.trans g3) (s1.mono g3 s3) dv h3
theorem dn_nil : DnA K W E tNil wNil := fun F μ H ρ σ Q0 Q s h q => q F μ H [] [] Grow.refl s rfl h
theorem dn_cons (ha : Dn K W E ta wa) (hr : DnA K W E tas was) : DnA K W E (tCons ta tas) (wCons wa was) := by
  intro F μ H ρ σ Q0 Q s h q
  refine ha F μ H ρ σ _ _ s h fun F1 μ1 H1 dx x g1 s1 dv1 h1 => ?_
  refine hr F1 μ1 H1 ρ σ _ _ s1 h1 fun F2 μ2 H2 ds vs g2 s2 dv2 h2 => ?_
  exact q F2 μ2 H2 _ _ (g1.trans g2) s2 (DVs.cons (dv1.mono g2) dv2) h2
theorem dn_cb {r : List V → Hp → VK → Prop} {f : List D → Mu → (D → Mu → Prop) → Prop} (hf : DCa K r f) (ha : DnA K W E tas was) : Dn K W E (tCB r tas) (wCB f was) := by
  intro F μ H ρ σ Q0 Q s h q
  refine ha F μ H ρ σ _ _ s h fun F1 μ1 H1 ds vs g1 s1 dv1 h1 => ?_
  refine hf F1 μ1 H1 vs ds Q0 Q s1.ok dv1 h1 fun F3 μ3 H3 d v g3 s3 dv h3 => ?_
  exact q F3 μ3 H3 d v (g1.trans g3) (s1.mono g3 s3) dv h3
theorem dn_tup (ha : DnA K W E tas was) : Dn K W E (tTup tas) (wTup was) := by
  intro F μ H ρ σ Q0 Q s h q
  refine ha F μ H ρ σ _ _ s h fun F1 μ1 H1 ds vs g1 s1 dv1 ⟨hz, h1⟩ => ⟨sz5 (by rw [dv1.len]; exact hz), fun p hp => ?_⟩
  have f := s1.ok.free hp
  exact q (upd F1 p (.tup vs)) μ1 _ (.tup ds) _ (g1.trans (Grow.new f.1)) (s1.mono (Grow.new f.1) (s1.ok.put hp)) ⟨p, vs, rfl, upd_same, dv1.mono (Grow.new f.1)⟩ h1
theorem dn_lst (ha : DnA K W E tas was) : Dn K W E (tLst tas) (wLst was) := by
  intro F μ H ρ σ Q0 Q s h q
  refine ha F μ H ρ σ _ _ s h fun F1 μ1 H1 ds vs g1 s1 dv1 ⟨hz, h1⟩ => ⟨sz5 (by rw [dv1.len]; exact hz), fun p hp => ?_⟩
  have f := s1.ok.free hp
  exact q F1 _ _ (.mut p) _ g1 (s1.mono Grow.refl (s1.ok.cell (m := .lst ds) f.1 ⟨vs, upd_same, dv1⟩)) rfl (h1 p f.2)
theorem dn_lstF (ha : DnA K W E tas was) : Dn K W E (tLst tas) (wLstF was) := by
  intro F μ H ρ σ Q0 Q s h q
  refine ha F μ H ρ σ _ _ s h fun F1 μ1 H1 ds vs g1 s1 dv1 ⟨hz, h1⟩ => ⟨sz5 (by rw [dv1.len]; exact hz), fun p hp => ?_⟩
  have f := s1.ok.free hp
  exact q (upd F1 p (.lst vs)) μ1 _ (.lst ds) _ (g1.trans (Grow.new f.1)) (s1.mono (Grow.new f.1) (s1.ok.put hp)) ⟨p, vs, rfl, upd_same, dv1.mono (Grow.new f.1)⟩ h1
/-- a ghost step: a cell for good -/
theorem frz_ok {F H : Hp} {μ : Mu} {d : D} {v : V} {Q0 : D → Mu → Prop} {P : Prop} (s : Sok K F μ H) (dv : DV K F d v) (h : fFrz d μ Q0) (q : ∀ F' μ' d', Grow F F' → Sok K F' μ' H → DV K F' d' v → Q0 d' μ' → P) : P := by
  unfold fFrz at h
  split at h
  · rename_i a
    obtain rfl : v = V.ref a := dv
    split at h
    · rename_i l e
      obtain ⟨f, xs, ho, r⟩ := s.cel a _ e
      exact q _ _ (.lst l) (Grow.new f) (s.frz f ho) ⟨a, xs, rfl, upd_same, r.mono (Grow.new f)⟩ h
    · rename_i l e
      obtain ⟨f, xs, ho, r⟩ := s.cel a _ e
      exact q _ _ (.dK _ _) (Grow.new f) (s.frz f ho) ⟨a, xs, rfl, upd_same, r.1, r.2.mono (Grow.new f)⟩ h
    · rename_i l e
      obtain ⟨f, xs, ho, r⟩ := s.cel a _ e
      exact q _ _ (.dT _ _) (Grow.new f) (s.frz f ho) ⟨a, xs, rfl, upd_same, r.1, r.2.mono (Grow.new f)⟩ h
    · rename_i C l e
      obtain ⟨f, dx, xs, ho, r⟩ := s.cel a _ e
      exact q _ _ (.ins C _ _) (Grow.new f) (s.frz f ho) ⟨a, dx, xs, rfl, upd_same, r.1, r.2.mono (Grow.new f)⟩ h
    · exact h.elim
  · exact q F μ d Grow.refl s dv h
theorem dn_frz (ha : Dn K W E ta wa) : Dn K W E ta (wFrz wa) := by
  intro F μ H ρ σ Q0 Q s h q
  refine ha F μ H ρ σ _ _ s h fun F1 μ1 H1 dx x g1 s1 dv1 h1 => ?_
  refine frz_ok s1.ok dv1 h1 fun F2 μ2 d2 g2 s2 dv2 h2 => ?_
  exact q F2 μ2 H1 d2 x (g1.trans g2) (s1.mono g2 s2) dv2 h2
theorem tB0_ok {F : Hp} {μ : Mu} {d : D} {v : V} {Q : Bool → Mu → Prop} (dv : DV K F d v) (h : tB0 d μ Q) : ∃ b, v = .bl b ∧ Q b μ := by
  unfold tB0 at h
  split at h
  · exact ⟨_, dv, h⟩
  · exact h.elim
theorem dn_te (ha : Dn K W E ta wa) : DnT K W E (tTest ta) (wTe wa) := by
  intro F μ H ρ σ Q0 Q s h q
  refine ha F μ H ρ σ _ _ s h fun F1 μ1 H1 dx x g1 s1 dv1 h1 => ?_
  obtain ⟨b, rfl, h2⟩ := tB0_ok dv1 h1
  exact ⟨b, rfl, q F1 μ1 H1 b g1 s1 h2⟩
theorem dn_teB (ha : Dn K W E ta wa) : DnT K W E (tB ta) (wTe wa) := dn_te ha
theorem dn_and (h1 : DnT K W E tt wt) (h2 : DnT K W E tu wu) : DnT K W E (tAnd tt tu) (wAnd wt wu) := by
  intro F μ H ρ σ Q0 Q s h q
  refine h1 F μ H ρ σ _ _ s h fun F1 μ1 H1 b g1 s1 q1 => ?_
  cases b with
  | true => rw [if_pos rfl] at *; exact h2 F1 μ1 H1 ρ σ _ _ s1 q1 fun F2 μ2 H2 b g2 => q F2 μ2 H2 b (g1.trans g2)
  | false => rw [if_neg Bool.false_ne_true] at *; exact q F1 μ1 H1 false g1 s1 q1
theorem dn_or (h1 : DnT K W E tt wt) (h2 : DnT K W E tu wu) : DnT K W E (tOr tt tu) (wOr wt wu) := by
  intro F μ H ρ σ Q0 Q s h q
  refine h1 F μ H ρ σ _ _ s h fun F1 μ1 H1 b g1 s1 q1 => ?_
  cases b with
  | true => rw [if_pos rfl] at *; exact q F1 μ1 H1 true g1 s1 q1
  | false => rw [if_neg Bool.false_ne_true] at *; exact h2 F1 μ1 H1 ρ σ _ _ s1 q1 fun F2 μ2 H2 b g2 => q F2 μ2 H2 b (g1.trans g2)
theorem dn_not (h1 : DnT K W E tt wt) : DnT K W E (tNot tt) (wNot wt) := by
  intro F μ H ρ σ Q0 Q s h q
  exact h1 F μ H ρ σ _ _ s h fun F1 μ1 H1 b g1 s1 q1 => q F1 μ1 H1 _ g1 s1 q1
theorem dn_andV (ha : Dn K W E ta wa) (hb : Dn K W E tb wb) : Dn K W E (tAndV ta tb) (wAndV wa wb) := by
  intro F μ H ρ σ Q0 Q s h q
  refine ha F μ H ρ σ _ _ s h fun F1 μ1 H1 dx x g1 s1 dv1 h1 => ?_
  obtain ⟨b, rfl, h2⟩ := tB0_ok dv1 h1
  refine ⟨b, rfl, ?_⟩
  cases b with
  | true => rw [if_pos rfl] at *; exact hb F1 μ1 H1 ρ σ _ _ s1 h2 (q.grow g1)
  | false => rw [if_neg Bool.false_ne_true] at *; exact q F1 μ1 H1 (.bl false) _ g1 s1 rfl h2
theorem dn_orV (ha : Dn K W E ta wa) (hb : Dn K W E tb wb) : Dn K W E (tOrV ta tb) (wOrV wa wb) := by
  intro F μ H ρ σ Q0 Q s h q
  refine ha F μ H ρ σ _ _ s h fun F1 μ1 H1 dx x g1 s1 dv1 h1 => ?_
  obtain ⟨b, rfl, h2⟩ := tB0_ok dv1 h1
  refine ⟨b, rfl, ?_⟩
  cases b with
  | true => rw [if_pos rfl] at *; exact q F1 μ1 H1 (.bl true) _ g1 s1 rfl h2
  | false => rw [if_neg Bool.false_ne_true] at *; exact hb F1 μ1 H1 ρ σ _ _ s1 h2 (q.grow g1)
theorem dn_notV (ha : Dn K W E ta wa) : Dn K W E (tNotV ta) (wNotV wa) := by
  intro F μ H ρ σ Q0 Q s h q
  refine ha F μ H ρ σ _ _ s h fun F1 μ1 H1 dx x g1 s1 dv1 h1 => ?_
  obtain ⟨b, rfl, h2⟩ := tB0_ok dv1 h1
  exact ⟨b, rfl, q F1 μ1 H1 (.bl (!b)) _ g1 s1 rfl h2⟩
theorem dn_ifE (ht : DnT K W E tt wt) (ha : Dn K W E ta wa) (hb : Dn K W E tb wb) : Dn K W E (tIf tt ta tb) (wIfE wt wa wb) := by
  intro F μ H ρ σ Q0 Q s h q
  refine ht F μ H ρ σ _ _ s h fun F1 μ1 H1 b g1 s1 h1 => ?_
  cases b with
  | true => rw [if_pos rfl] at *; exact ha F1 μ1 H1 ρ σ _ _ s1 h1 (q.grow g1)
  | false => rw [if_neg Bool.false_ne_true] at *; exact hb F1 μ1 H1 ρ σ _ _ s1 h1 (q.grow g1)
end
end DL
set_option maxHeartbeats 4000000
namespace DL
open PySem L2

/-! ### statements -/
def wNext : WS := fun D ρ μ => D.nx ρ μ
def wSeq (t u : WS) : WS := fun D ρ μ => t { D with nx := u D } ρ μ
def wBrk : WS := fun D ρ μ => D.bk ρ μ
def wCnt : WS := fun D ρ μ => D.ct ρ μ
def wDrop (a : WEx) : WS := fun D ρ μ => a ρ μ fun _ μ1 => D.nx ρ μ1
def wRet (a : WEx) : WS := fun D ρ μ => a ρ μ D.rt
def wRetN : WS := fun D _ μ => D.rt .non μ
def wIf (c : WT) (t u : WS) : WS := fun D ρ μ => c ρ μ fun b μ1 => if b = true then t D ρ μ1 else u D ρ μ1
def wNever : WS := fun _ _ _ => False
abbrev WG := D → En → Mu → (En → Mu → Prop) → Prop
abbrev WGs := List D → En → Mu → (En → Mu → Prop) → Prop
def wAsg (a : WEx) (g : WG) : WS := fun D ρ μ => a ρ μ fun d μ1 => g d ρ μ1 D.nx
def gN (i : Nat) : WG := fun d ρ μ N => N (ρ.set i (some d)) μ
def gNl : WGs := fun ds ρ μ N => match ds with
  | [] => N ρ μ
  | _ => False
def gCn (g : WG) (gs : WGs) : WGs := fun ds ρ μ N => match ds with
  | d :: r => g d ρ μ fun ρ1 μ1 => gs r ρ1 μ1 N
  | _ => False
/-- a, b = e -/
def gTp (n : Nat) (gs : WGs) : WG := fun d ρ μ N => match d with
  | .tup l => l.length = n ∧ gs l ρ μ N
  | _ => False
/-- a[i] = e -/
def gSb (f : D → D → D → Mu → (Mu → Prop) → Prop) (o i : WEx) : WG := fun d ρ μ N => o ρ μ fun x μ1 => i ρ μ1 fun y μ2 => f x y d μ2 fun μ3 => N ρ μ3
def wPar (i j : Nat) (a : WA) : WS := fun D ρ μ => a ρ μ fun ds μ1 => match ds with
  | [x, y] => D.nx ((ρ.set i (some x)).set j (some y)) μ1
  | _ => False
def wAug (i : Nat) (a : WEx) (f : D → D → Mu → (D → Mu → Prop) → Prop) : WS := fun D ρ μ => wVar i ρ μ fun x μ0 => a ρ μ0 fun y μ1 => f x y μ1 fun z μ2 => D.nx (ρ.set i (some z)) μ2
section
variable (K : PySem.W.Frag) (W : WX) (E : EX)
def DnG (g : TG) (w : WG) : Prop := ∀ F μ H ρ σ d v N0 N, S0 K W E F μ H ρ σ → DV K F d v → w d ρ μ N0 → PN K W E F N0 N → g v σ H N
def DnGs (g : TGs) (w : WGs) : Prop := ∀ F μ H ρ σ ds vs N0 N, S0 K W E F μ H ρ σ → DVs K F ds vs → w ds ρ μ N0 → PN K W E F N0 N → g vs σ H N
def DSet (t : TSet) (f : D → D → D → Mu → (Mu → Prop) → Prop) : Prop := ∀ F μ H o i v do' di dv (N0 : Mu → Prop) (N : Hp → Prop), Sok K F μ H → DV K F do' o → DV K F di i → DV K F dv v → f do' di dv μ N0 → (∀ F' μ' H', Grow F F' → Sok K F' μ' H' → N0 μ' → N H') → t o i v H N
end
section
variable {K : PySem.W.Frag} {W : WX} {E : EX} {ta tb te : TE} {wa wb : WEx} {tt : TT} {wt : WT} {tas : TA} {was : WA} {ts tu : TS} {ws wu : WS} {g : TG} {wg : WG} {gs : TGs} {wgs : WGs}
theorem dn_next : DnS K W E tNext wNext := fun F μ H ρ σ D0 Ds s h e => e.nx F μ H ρ σ Grow.refl s h
theorem dn_brk : DnS K W E tBreak wBrk := fun F μ H ρ σ D0 Ds s h e => e.bk F μ H ρ σ Grow.refl s h
theorem dn_cnt : DnS K W E tCont wCnt := fun F μ H ρ σ D0 Ds s h e => e.ct F μ H ρ σ Grow.refl s h
theorem dn_never : DnS K W E tNever wNever := fun F μ H ρ σ D0 Ds s h e => h.elim
theorem dn_seq (h1 : DnS K W E ts ws) (h2 : DnS K W E tu wu) : DnS K W E (tSeq ts tu) (wSeq ws wu) := by
  intro F μ H ρ σ D0 Ds s h e
  refine h1 F μ H ρ σ _ _ s h ⟨fun F1 μ1 H1 ρ1 σ1 g1 s1 q1 => ?_, e.rt, e.bk, e.ct⟩
  exact h2 F1 μ1 H1 ρ1 σ1 D0 Ds s1 q1 (e.grow g1)
theorem dn_drop (ha : Dn K W E ta wa) : DnS K W E (tDrop ta) (wDrop wa) := by
  intro F μ H ρ σ D0 Ds s h e
  exact ha F μ H ρ σ _ _ s h fun F1 μ1 H1 d v g1 s1 dv h1 => e.nx F1 μ1 H1 ρ σ g1 s1 h1
theorem dn_ret (ha : Dn K W E ta wa) : DnS K W E (tRet ta) (wRet wa) := by
  intro F μ H ρ σ D0 Ds s h e
  exact ha F μ H ρ σ _ _ s h fun F1 μ1 H1 d v g1 s1 dv h1 => e.rt F1 μ1 H1 d v g1 s1.ok dv h1
theorem dn_retN : DnS K W E tRetN wRetN := fun F μ H ρ σ D0 Ds s h e => e.rt F μ H .non .non Grow.refl s.ok rfl h
theorem dn_if (hc : DnT K W E tt wt) (h1 : DnS K W E ts ws) (h2 : DnS K W E tu wu) : DnS K W E (tIfS tt ts tu) (wIf wt ws wu) := by
  intro F μ H ρ σ D0 Ds s h e
  refine hc F μ H ρ σ _ _ s h fun F1 μ1 H1 b g1 s1 q1 => ?_
  cases b with
  | true => rw [if_pos rfl] at *; exact h1 F1 μ1 H1 ρ σ D0 Ds s1 q1 (e.grow g1)
  | false => rw [if_neg Bool.false_ne_true] at *; exact h2 F1 μ1 H1 ρ σ D0 Ds s1 q1 (e.grow g1)
theorem dn_asg (ha : Dn K W E ta wa) (hg : DnG K W E g wg) : DnS K W E (tAsg ta g) (wAsg wa wg) := by
  intro F μ H ρ σ D0 Ds s h e
  exact ha F μ H ρ σ _ _ s h fun F1 μ1 H1 d v g1 s1 dv h1 => hg F1 μ1 H1 ρ σ d v _ _ s1 dv h1 (e.nx.grow g1)
theorem dg_name {i : Nat} : DnG K W E (gName i) (gN i) := fun F μ H ρ σ d v N0 N s dv h n => n F μ H _ _ Grow.refl (s.set dv) h
theorem dg_nil : DnGs K W E gNil gNl := by
  intro F μ H ρ σ ds vs N0 N s dv h n
  unfold gNl at h
  split at h
  · exact ⟨dv, n F μ H ρ σ Grow.refl s h⟩
  · exact h.elim
theorem dg_cons (h1 : DnG K W E g wg) (h2 : DnGs K W E gs wgs) : DnGs K W E (gCons g gs) (gCn wg wgs) := by
  intro F μ H ρ σ ds vs N0 N s dv h n
  unfold gCn at h
  split at h
  · obtain ⟨v, r, rfl, d1, d2⟩ := dv
    exact ⟨v, r, rfl, h1 F μ H ρ σ _ v _ _ s d1 h fun F1 μ1 H1 ρ1 σ1 g1 s1 q1 => h2 F1 μ1 H1 ρ1 σ1 _ r _ _ s1 (d2.mono g1) q1 (n.grow g1)⟩
  · exact h.elim
theorem dg_tup {n : Nat} (h1 : DnGs K W E gs wgs) : DnG K W E (gTup K n gs) (gTp n wgs) := by
  intro F μ H ρ σ d v N0 N s dv h q
  unfold gTp at h
  split at h
  · obtain ⟨a, xs, rfl, r, dl⟩ := dv
    exact ⟨a, xs, rfl, (show Grow F H from s.ok.sub).st r, by rw [dl.len]; exact h.1, h1 F μ H ρ σ _ xs _ _ s dl h.2 q⟩
  · exact h.elim
theorem dg_sub {t : TSet} {f : D → D → D → Mu → (Mu → Prop) → Prop} (hf : DSet K t f) (ho : Dn K W E ta wa) (hi : Dn K W E tb wb) : DnG K W E (gSub ta tb t) (gSb f wa wb) := by
  intro F μ H ρ σ d v N0 N s dv h q
  refine ho F μ H ρ σ _ _ s h fun F1 μ1 H1 d1 v1 g1 s1 dv1 h1 => ?_
  refine hi F1 μ1 H1 ρ σ _ _ s1 h1 fun F2 μ2 H2 d2 v2 g2 s2 dv2 h2 => ?_
  refine hf F2 μ2 H2 _ _ _ _ _ _ _ _ s2.ok (dv1.mono g2) dv2 (dv.mono (g1.trans g2)) h2 fun F3 μ3 H3 g3 s3 h3 => ?_
  exact q F3 μ3 H3 ρ σ (g1.trans (g2.trans g3)) (s2.mono g3 s3) h3
theorem dn_par {i j : Nat} (ha : DnA K W E tas was) : DnS K W E (tPar i j tas) (wPar i j was) := by
  intro F μ H ρ σ D0 Ds s h e
  refine ha F μ H ρ σ _ _ s h fun F1 μ1 H1 ds vs g1 s1 dv h1 => ?_
  split at h1
  · obtain ⟨x, r, rfl, dx, y, r2, rfl, dy, rfl⟩ := dv
    exact ⟨x, y, rfl, e.nx F1 μ1 H1 _ _ g1 ((s1.set dx).set dy) h1⟩
  · exact h1.elim
theorem dn_aug {i : Nat} {ti : TIp} {f : D → D → Mu → (D → Mu → Prop) → Prop} (hf : DOp K ti f) (ha : Dn K W E ta wa) : DnS K W E (tAug i ta ti) (wAug i wa f) := by
  intro F μ H ρ σ D0 Ds s h e
  unfold wAug wVar at h
  split at h
  · rename_i d q
    obtain ⟨v, e1, dv⟩ := s.env.2 i d q
    refine ⟨v, e1, ha F μ H ρ σ _ _ s h fun F1 μ1 H1 d1 v1 g1 s1 dv1 h1 => ?_⟩
    refine hf F1 μ1 H1 v v1 d d1 _ _ s1.ok (dv.mono g1) dv1 h1 fun F2 μ2 H2 d2 v2 g2 s2 dv2 h2 => ?_
    exact e.nx F2 μ2 H2 _ _ (g1.trans g2) ((s1.mono g2 s2).set dv2) h2
  · exact h.elim

/-! ### loops -/
/-- less is known of slots and cells -/
def leE (ρ ρ' : En) : Prop := ρ.length = ρ'.length ∧ ∀ (i : Nat) (d : D), ρ[i]? = some (some d) → ρ'[i]? = some (some d)
theorem leE.refl {ρ : En} : leE ρ ρ := ⟨rfl, fun _ _ h => h⟩
/-- N of less knowledge -/
def wk (N : En → Mu → Prop) : En → Mu → Prop := fun ρ μ => ∃ ρ' μ', leE ρ' ρ ∧ le μ' μ ∧ N ρ' μ'
theorem wk.of {N : En → Mu → Prop} {ρ : En} {μ : Mu} (h : N ρ μ) : wk N ρ μ := ⟨ρ, μ, leE.refl, le.refl, h⟩
theorem wk.mu {N : En → Mu → Prop} {ρ : En} {μ μ' : Mu} (l : le μ' μ) (h : N ρ μ') : wk N ρ μ := ⟨ρ, μ', leE.refl, l, h⟩
theorem S0.wk {F H : Hp} {μ μ' : Mu} {ρ ρ' : En} {σ : L2.St} (s : S0 K W E F μ H ρ σ) (h1 : leE ρ' ρ) (h2 : le μ' μ) : S0 K W E F μ' H ρ' σ := ⟨s.ok.weak h2, s.env.le h1.1 h1.2, s.wok⟩
/-- while c: b -/
def wWhile (c : WT) (b : WS) : WS := fun D ρ μ => ∃ I : Nat → En → Mu → Prop, (∃ m, I m ρ μ) ∧ ∀ m ρ μ, I m ρ μ → c ρ μ fun k μ1 =>
  if k = true then b { D with nx := wk fun ρ' μ' => ∃ m', m' < m ∧ I m' ρ' μ', ct := wk fun ρ' μ' => ∃ m', m' < m ∧ I m' ρ' μ', bk := D.nx } ρ μ1 else D.nx ρ μ1
theorem dn_while (hc : DnT K W E tt wt) (hb : DnS K W E ts ws) : DnS K W E (tWhile tt ts) (wWhile wt ws) := by
  intro F μ H ρ σ D0 Ds s h e
  obtain ⟨I, ⟨m0, i0⟩, turn⟩ := h
  refine ⟨fun m σ' H' => ∃ F' μ' ρ', Grow F F' ∧ S0 K W E F' μ' H' ρ' σ' ∧ I m ρ' μ', ⟨m0, F, μ, ρ, Grow.refl, s, i0⟩, ?_⟩
  rintro m σ1 H1 ⟨F1, μ1, ρ1, g1, s1, i1⟩
  refine hc F1 μ1 H1 ρ1 σ1 _ _ s1 (turn m ρ1 μ1 i1) fun F2 μ2 H2 b g2 s2 q2 => ?_
  have e2 := (e.grow g1).grow g2
  cases b with
  | true =>
    rw [if_pos rfl] at *
    have again : PN K W E F2 (wk fun ρ' μ' => ∃ m', m' < m ∧ I m' ρ' μ') (fun σ' H' => ∃ m', m' < m ∧ ∃ F' μ' ρ', Grow F F' ∧ S0 K W E F' μ' H' ρ' σ' ∧ I m' ρ' μ') := fun F3 μ3 H3 ρ3 σ3 g3 s3 ⟨ρ4, μ4, l1, l2, m', hm, i'⟩ =>
      ⟨m', hm, F3, μ4, ρ4, g1.trans (g2.trans g3), s3.wk l1 l2, i'⟩
    exact ⟨fun σ' H' => ∃ m', m' < m ∧ ∃ F' μ' ρ', Grow F F' ∧ S0 K W E F' μ' H' ρ' σ' ∧ I m' ρ' μ', fun σ' H' h => h, hb F2 μ2 H2 ρ1 σ1 _ _ s2 q2 ⟨again, e2.rt, e2.nx, again⟩⟩
  | false =>
    rw [if_neg Bool.false_ne_true] at *
    exact e2.nx F2 μ2 H2 ρ1 σ1 Grow.refl s2 q2
/-- what a for walks: a list of data that stands (a list for good, a tuple, a range, a cell that is not changed) -/
inductive Wk where
  | fix (l : List D)
  | cell (a : Addr) (l : List D)
abbrev WI := En → Mu → (Wk → Mu → Prop) → Prop
def Wk.items : Wk → List D
  | .fix l => l
  | .cell _ l => l
def Wk.ok (μ : Mu) : Wk → Prop
  | .fix _ => True
  | .cell a l => μ a = some (.lst l)
/-- the walk J yields the items of k -/
structure WkOk (K : PySem.W.Frag) (J : It) (k : Wk) (F : Hp) : Prop where
  go : ∀ F' μ H (i : Nat), Grow F F' → Sok K F' μ H → k.ok μ → i < k.items.length → J.go i H
  yld : ∀ F' μ H (i : Nat) x H', Grow F F' → Sok K F' μ H → k.ok μ → i < k.items.length → J.yld i H x H' → ∃ F2 d, Grow F' F2 ∧ Sok K F2 μ H' ∧ k.items[i]? = some d ∧ DV K F2 d x
  stop : ∀ F' μ H (i : Nat), Grow F F' → Sok K F' μ H → k.ok μ → k.items.length ≤ i → J.stop i H
def DnI (K : PySem.W.Frag) (W : WX) (E : EX) (ti : TI) (wi : WI) : Prop := ∀ F μ H ρ σ (Q0 : Wk → Mu → Prop) (R : It → Hp → Prop), S0 K W E F μ H ρ σ → wi ρ μ Q0 → (∀ F' μ' H' J k, Grow F F' → S0 K W E F' μ' H' ρ σ → WkOk K J k F' → Q0 k μ' → R J H') → ti σ H R
/-- for g in ..: b -/
def wFor (wi : WI) (g : WG) (b : WS) : WS := fun D ρ μ => wi ρ μ fun k μ1 => ∃ I : Nat → En → Mu → Prop, I 0 ρ μ1 ∧ (∀ i ρ μ, I i ρ μ → k.ok μ) ∧
  (∀ i d ρ μ, k.items[i]? = some d → I i ρ μ → g d ρ μ fun ρ2 μ2 => b { D with nx := wk (I (i + 1)), ct := wk (I (i + 1)), bk := D.nx } ρ2 μ2) ∧ ∀ ρ μ, I k.items.length ρ μ → D.nx ρ μ
theorem dn_for {ti : TI} {wi : WI} (hi : DnI K W E ti wi) (hg : DnG K W E g wg) (hb : DnS K W E ts ws) : DnS K W E (tFor ti g ts) (wFor wi wg ws) := by
  intro F μ H ρ σ D0 Ds s h e
  refine hi F μ H ρ σ _ _ s h fun F1 μ1 H1 J k g1 s1 kk ⟨I, i0, hok, step, done⟩ => ?_
  refine ⟨fun i m σ' H' => m = k.items.length - i ∧ i ≤ k.items.length ∧ ∃ F' μ' ρ', Grow F1 F' ∧ S0 K W E F' μ' H' ρ' σ' ∧ I i ρ' μ', ⟨_, rfl, Nat.zero_le _, F1, μ1, ρ, Grow.refl, s1, i0⟩, ?_⟩
  rintro i m σ2 H2 ⟨rfl, hl, F2, μ2, ρ2, g2, s2, i2⟩
  have e2 := (e.grow g1).grow g2
  by_cases hlt : i < k.items.length
  · refine .inr ⟨kk.go F2 μ2 H2 i g2 s2.ok (hok i ρ2 μ2 i2) hlt, fun σ' H' => i + 1 ≤ k.items.length ∧ ∃ F' μ' ρ', Grow F1 F' ∧ S0 K W E F' μ' H' ρ' σ' ∧ I (i + 1) ρ' μ', fun σ' H' hN => ⟨k.items.length - (i + 1), by omega, rfl, hN.1, hN.2⟩, fun x H3 y => ?_⟩
    obtain ⟨F3, d, g3, s3, ed, dv⟩ := kk.yld F2 μ2 H2 i x H3 g2 s2.ok (hok i ρ2 μ2 i2) hlt y
    refine hg F3 μ2 H3 ρ2 σ2 d x _ _ (s2.mono g3 s3) dv (step i d ρ2 μ2 ed i2) fun F4 μ4 H4 ρ4 σ4 g4 s4 h4 => ?_
    have again : PN K W E F4 (wk (I (i + 1))) (fun σ' H' => i + 1 ≤ k.items.length ∧ ∃ F' μ' ρ', Grow F1 F' ∧ S0 K W E F' μ' H' ρ' σ' ∧ I (i + 1) ρ' μ') := fun F5 μ5 H5 ρ5 σ5 g5 s5 ⟨ρ6, μ6, l1, l2, i6⟩ =>
      ⟨hlt, F5, μ6, ρ6, g2.trans (g3.trans (g4.trans g5)), s5.wk l1 l2, i6⟩
    have e4 := (e2.grow g3).grow g4
    exact hb F4 μ4 H4 ρ4 σ4 _ _ s4 h4 ⟨again, e4.rt, e4.nx, again⟩
  · have ei : i = k.items.length := by omega
    subst ei
    exact .inl ⟨kk.stop F2 μ2 H2 _ g2 s2.ok (hok _ ρ2 μ2 i2) (Nat.le_refl _), e2.nx F2 μ2 H2 ρ2 σ2 Grow.refl s2 (done ρ2 μ2 i2)⟩
/-- what lists and tuples are walked by -/
def lv (μ : Mu) : D → Option (List D)
  | .lst l => some l
  | .mut a => match μ a with
    | some (.lst l) => some l
    | _ => none
  | _ => none
def iLs (a : WEx) : WI := fun ρ μ Q => a ρ μ fun d μ1 => match d with
  | .lst l => Q (.fix l) μ1
  | .mut a => match μ1 a with
    | some (.lst l) => Q (.cell a l) μ1
    | _ => False
  | _ => False
theorem SqL.inj_of {H : Hp} {a : Addr} {xs ys : List V} (h : H a = some (.lst xs)) (h' : SqL K H a ys) (hk : K.lookup a = none) : ys = xs := by
  rcases h' with (h' | ⟨o, h'⟩) | ⟨o, its, n, h', _⟩
  · rw [h] at h'; cases h'; rfl
  · rw [h] at h'; cases h'
  · rw [hk] at h'; cases h'
theorem di_list (ha : Dn K W E ta wa) : DnI K W E (iList K ta) (iLs wa) := by
  intro F μ H ρ σ Q0 R s h q
  refine ha F μ H ρ σ _ _ s h fun F1 μ1 H1 d v g1 s1 dv h1 => ?_
  split at h1
  · rename_i l
    obtain ⟨a, xs, rfl, r, dl⟩ := dv
    have gH : ∀ {F' H' : Hp} {μ' : Mu}, Sok K F' μ' H' → Grow F' H' := fun s => s.sub
    refine ⟨a, rfl, ⟨xs, SqL.of (gH s1.ok _ _ r)⟩, q F1 μ1 H1 (Itl K a) (.fix l) g1 s1 ⟨fun F' μ' H' i g s' _ hi => ?_, fun F' μ' H' i x H2 g s' _ hi y => ?_, fun F' μ' H' i g s' _ hi => ?_⟩ h1⟩
    · have hi' : i < xs.length := by rw [dl.len]; exact hi
      exact ⟨xs, xs[i], SqL.of (gH s' _ _ (g _ _ r)), List.getElem?_eq_getElem hi'⟩
    · obtain ⟨rfl, y⟩ := y
      obtain ⟨d, e1, e2⟩ := dl.back (y xs (SqL.of (gH s' _ _ (g _ _ r))))
      exact ⟨F', d, Grow.refl, s', e1, e2.mono g⟩
    · exact ⟨xs, SqL.of (gH s' _ _ (g _ _ r)), by rw [dl.len]; exact hi⟩
  · rename_i a
    obtain rfl : v = V.ref a := dv
    split at h1
    · rename_i l e
      obtain ⟨_, xs, ho, dl⟩ := s1.ok.cel a _ e
      refine ⟨a, rfl, ⟨xs, SqL.of ho⟩, q F1 μ1 H1 (Itl K a) (.cell a l) g1 s1 ⟨fun F' μ' H' i g s' k hi => ?_, fun F' μ' H' i x H2 g s' k hi y => ?_, fun F' μ' H' i g s' k hi => ?_⟩ h1⟩
      all_goals
        obtain ⟨_, ys, ho', dl'⟩ := s'.cel a _ (show μ' a = some (.lst l) from k)
      · have hi' : i < ys.length := by rw [dl'.len]; exact hi
        exact ⟨ys, ys[i], SqL.of ho', List.getElem?_eq_getElem hi'⟩
      · obtain ⟨rfl, y⟩ := y
        obtain ⟨d, e1, e2⟩ := dl'.back (y ys (SqL.of ho'))
        exact ⟨F', d, Grow.refl, s', e1, e2⟩
      · exact ⟨ys, SqL.of ho', by rw [dl'.len]; exact hi⟩
    · exact h1.elim
  · exact h1.elim
def iTp (a : WEx) : WI := fun ρ μ Q => a ρ μ fun d μ1 => match d with
  | .tup l => Q (.fix l) μ1
  | _ => False
theorem di_tup (ha : Dn K W E ta wa) : DnI K W E (iTup K ta) (iTp wa) := by
  intro F μ H ρ σ Q0 R s h q
  refine ha F μ H ρ σ _ _ s h fun F1 μ1 H1 d v g1 s1 dv h1 => ?_
  split at h1
  · rename_i l
    obtain ⟨a, xs, rfl, r, dl⟩ := dv
    have gH : ∀ {F' H' : Hp} {μ' : Mu}, Sok K F' μ' H' → Grow F' H' := fun s => s.sub
    refine ⟨a, rfl, ⟨xs, (gH s1.ok).st r⟩, q F1 μ1 H1 (Itt K a) (.fix l) g1 s1 ⟨fun F' μ' H' i g s' _ hi => ?_, fun F' μ' H' i x H2 g s' _ hi y => ?_, fun F' μ' H' i g s' _ hi => ?_⟩ h1⟩
    · have hi' : i < xs.length := by rw [dl.len]; exact hi
      exact ⟨xs, xs[i], (gH s').st (g _ _ r), List.getElem?_eq_getElem hi'⟩
    · obtain ⟨rfl, y⟩ := y
      obtain ⟨d, e1, e2⟩ := dl.back (y xs ((gH s').st (g _ _ r)))
      exact ⟨F', d, Grow.refl, s', e1, e2.mono g⟩
    · exact ⟨xs, (gH s').st (g _ _ r), by rw [dl.len]; exact hi⟩
  · exact h1.elim
/-- lo, lo + 1, .., n of them -/
def rng (lo : Int) (n : Nat) : List D := (List.range n).map fun i => D.int (lo + (i : Nat))
theorem rng_len (lo : Int) (n : Nat) : (rng lo n).length = n := by unfold rng; rw [List.length_map, List.length_range]
theorem rng_get {lo : Int} {n i : Nat} (h : i < n) : (rng lo n)[i]? = some (D.int (lo + (i : Nat))) := by
  unfold rng; rw [List.getElem?_map, List.getElem?_range h]; rfl
theorem wk_rng {lo : Int} {n : Nat} {F : Hp} : WkOk K (Itr lo n) (.fix (rng lo n)) F := by
  refine ⟨fun F' μ' H' i g s' _ hi => ?_, fun F' μ' H' i x H2 g s' _ hi y => ?_, fun F' μ' H' i g s' _ hi => ?_⟩
  all_goals
    have hi' := hi
    rw [show (Wk.fix (rng lo n)).items = rng lo n from rfl, rng_len] at hi'
  · exact hi'
  · obtain ⟨rfl, rfl⟩ := y
    exact ⟨F', _, Grow.refl, s', rng_get hi', rfl⟩
  · exact hi'
def iR1 (a : WA) : WI := fun ρ μ Q => a ρ μ fun ds μ1 => match ds with
  | [.int j] => (-(2 ^ 62) ≤ j ∧ j < 2 ^ 62) ∧ Q (.fix (rng 0 j.toNat)) μ1
  | _ => False
def iR2 (a : WA) : WI := fun ρ μ Q => a ρ μ fun ds μ1 => match ds with
  | [.int i, .int j] => (-(2 ^ 62) ≤ i ∧ i < 2 ^ 62 ∧ -(2 ^ 62) ≤ j ∧ j < 2 ^ 62) ∧ Q (.fix (rng i (j - i).toNat)) μ1
  | _ => False
theorem di_r1 (ha : DnA K W E tas was) : DnI K W E (iRng1 tas) (iR1 was) := by
  intro F μ H ρ σ Q0 R s h q
  refine ha F μ H ρ σ _ _ s h fun F1 μ1 H1 ds vs g1 s1 dv h1 => ?_
  split at h1
  · rename_i j
    obtain ⟨x, r, rfl, dx, rfl⟩ := dv
    obtain rfl : x = V.int j := dx
    exact ⟨j, rfl, h1.1.1, h1.1.2, q F1 μ1 H1 _ _ g1 s1 wk_rng h1.2⟩
  · exact h1.elim
theorem di_r2 (ha : DnA K W E tas was) : DnI K W E (iRng2 tas) (iR2 was) := by
  intro F μ H ρ σ Q0 R s h q
  refine ha F μ H ρ σ _ _ s h fun F1 μ1 H1 ds vs g1 s1 dv h1 => ?_
  split at h1
  · rename_i i j
    obtain ⟨x, r, rfl, dx, y, r2, rfl, dy, rfl⟩ := dv
    obtain rfl : x = V.int i := dx
    obtain rfl : y = V.int j := dy
    exact ⟨i, j, rfl, h1.1, q F1 μ1 H1 _ _ g1 s1 wk_rng h1.2⟩
  · exact h1.elim
end

/-! ### operations on data -/
abbrev F2 := D → D → Mu → (D → Mu → Prop) → Prop
/-- on two ints -/
def fI (C : Int → Int → Prop) (g : Int → Int → D) : F2 := fun x y μ Q => match x, y with
  | .int i, .int j => C i j ∧ Q (g i j) μ
  | _, _ => False
def fI0 (g : Int → Int → D) : F2 := fun x y μ Q => match x, y with
  | .int i, .int j => Q (g i j) μ
  | _, _ => False
def toV : D → V
  | .non => .non | .bl b => .bl b | .int i => .int i | .str x => .str x | _ => .non
def flat : D → Bool
  | .non => true | .bl _ => true | .int _ => true | .str _ => true | _ => false
section
variable {K : PySem.W.Frag}
theorem dv_flat {F : Hp} {d : D} {v : V} (h : flat d = true) (dv : DV K F d v) : v = toV d := by
  cases d with
  | non => exact dv
  | bl b => exact dv
  | int i => exact dv
  | str x => exact dv
  | _ => cases h
theorem flat_dv {F : Hp} {d : D} (h : flat d = true) : DV K F d (toV d) := by
  cases d with
  | non => exact rfl
  | bl b => exact rfl
  | int i => exact rfl
  | str x => exact rfl
  | _ => cases h
theorem do_I {C : Int → Int → Prop} {g : Int → Int → D} (hg : ∀ i j, flat (g i j) = true) : DOp K (rI C fun i j => toV (g i j)) (fI C g) := by
  intro F μ H x y dx dy Q0 Q s d1 d2 h q
  unfold fI at h
  split at h
  · exact ⟨_, _, d1, d2, h.1, q F μ H _ _ Grow.refl s (flat_dv (hg _ _)) h.2⟩
  · exact h.elim
theorem do_I0 {g : Int → Int → D} (hg : ∀ i j, flat (g i j) = true) : DOp K (rI0 fun i j => toV (g i j)) (fI0 g) := by
  intro F μ H x y dx dy Q0 Q s d1 d2 h q
  unfold fI0 at h
  split at h
  · exact ⟨_, _, d1, d2, q F μ H _ _ Grow.refl s (flat_dv (hg _ _)) h⟩
  · exact h.elim
def fAdd : F2 := fI0 fun i j => .int (i + j)
def fSub : F2 := fI0 fun i j => .int (i - j)
/-- a product that the model makes -/
structure MulOk (i j : Int) : Prop where
  ok : IntMulOk i j
def fMul : F2 := fI MulOk fun i j => .int (i * j)
def fLt : F2 := fI0 fun i j => .bl (decide (i < j))
def fLe : F2 := fI0 fun i j => .bl (decide (i ≤ j))
def fGt : F2 := fI0 fun i j => .bl (decide (j < i))
def fGe : F2 := fI0 fun i j => .bl (decide (j ≤ i))
def fMod : F2 := fI (fun _ j => 0 < j) fun i j => .int (i % j)
def fModN : F2 := fI (fun _ j => j ≠ 0) fun i j => .int (i.fmod j)
def fPow : F2 := fI CPow fun i j => .int (i ^ j.toNat)
def fDiv : F2 := fI CDivW fun i j => .int (i / j)
theorem do_add : DOp K (rI0 fun i j => .int (i + j)) fAdd := do_I0 fun _ _ => rfl
theorem do_sub : DOp K (rI0 fun i j => .int (i - j)) fSub := do_I0 fun _ _ => rfl
theorem do_lt : DOp K (rI0 fun i j => .bl (decide (i < j))) fLt := do_I0 fun _ _ => rfl
theorem do_le : DOp K (rI0 fun i j => .bl (decide (i ≤ j))) fLe := do_I0 fun _ _ => rfl
theorem do_gt : DOp K (rI0 fun i j => .bl (decide (j < i))) fGt := do_I0 fun _ _ => rfl
theorem do_ge : DOp K (rI0 fun i j => .bl (decide (j ≤ i))) fGe := do_I0 fun _ _ => rfl
theorem do_mul : DOp K (rI MulOk fun i j => .int (i * j)) fMul := do_I fun _ _ => rfl
theorem op_mulA {X : Cx} : OpR X (binaryOp .Mult) (rI MulOk fun i j => .int (i * j)) := opI fun _ _ _ _ _ _ _ hc q => PyProof.Rows.mul_int q hc.ok
theorem do_mod : DOp K (rI (fun _ j => 0 < j) fun i j => .int (i % j)) fMod := do_I fun _ _ => rfl
theorem do_modN : DOp K (rI (fun _ j => j ≠ 0) fun i j => .int (i.fmod j)) fModN := do_I fun _ _ => rfl
theorem do_pow : DOp K (rI CPow fun i j => .int (i ^ j.toNat)) fPow := do_I fun _ _ => rfl
theorem do_div : DOp K (rI CDivW fun i j => .int (i / j)) fDiv := do_I fun _ _ => rfl
def fNeg (x : D) (μ : Mu) (Q : D → Mu → Prop) : Prop := match x with
  | .int i => Q (.int (-i)) μ
  | _ => False
theorem du_neg : DUn K (rU fun i => .int (-i)) fNeg := by
  intro F μ H x dx Q0 Q s d1 h q
  unfold fNeg at h
  split at h
  · exact ⟨_, d1, q F μ H (.int _) _ Grow.refl s rfl h⟩
  · exact h.elim
/-- == of two flat things of one kind -/
def scalD : D → D → Bool
  | .non, .non => true | .bl _, .bl _ => true | .int _, .int _ => true | .str _, .str _ => true | _, _ => false
def eqF : D → D → Bool
  | .non, .non => true | .bl a, .bl b => a == b | .int a, .int b => a == b | .str a, .str b => a == b | _, _ => false
def fEq : F2 := fun x y μ Q => scalD x y = true ∧ Q (.bl (eqF x y)) μ
def fNe : F2 := fun x y μ Q => scalD x y = true ∧ Q (.bl (!eqF x y)) μ
theorem scal_ok {F : Hp} {x y : D} {v u : V} (h : scalD x y = true) (d1 : DV K F x v) (d2 : DV K F y u) : scal v u = true ∧ decide (v = u) = eqF x y := by
  cases x <;> cases y <;> first | (cases h; done) | skip
  all_goals (obtain rfl : v = _ := d1; obtain rfl : u = _ := d2)
  all_goals first | exact ⟨rfl, dec_int⟩ | exact ⟨rfl, dec_bl⟩ | exact ⟨rfl, dec_str⟩ | exact ⟨rfl, by simp [eqF]⟩
theorem do_eq : DOp K rEq fEq := by
  intro F μ H x y dx dy Q0 Q s d1 d2 h q
  obtain ⟨e1, e2⟩ := scal_ok h.1 d1 d2
  exact ⟨e1, by rw [e2]; exact q F μ H (.bl _) _ Grow.refl s rfl h.2⟩
theorem do_ne : DOp K rNe fNe := by
  intro F μ H x y dx dy Q0 Q s d1 d2 h q
  obtain ⟨e1, e2⟩ := scal_ok h.1 d1 d2
  exact ⟨e1, by rw [e2]; exact q F μ H (.bl _) _ Grow.refl s rfl h.2⟩
/-- x is None -/
def isN : D → Bool
  | .non => true | _ => false
def fIsN : F2 := fun x y μ Q => match y with
  | .non => Q (.bl (isN x)) μ
  | _ => False
def fNotN : F2 := fun x y μ Q => match y with
  | .non => Q (.bl (!isN x)) μ
  | _ => False
theorem isN_ok {F : Hp} {d : D} {v : V} (dv : DV K F d v) : decide (v = .non) = isN d := by
  cases d with
  | non => rw [show v = V.non from dv]; rfl
  | bl b => rw [show v = V.bl b from dv]; rfl
  | int b => rw [show v = V.int b from dv]; rfl
  | str b => rw [show v = V.str b from dv]; rfl
  | «mut» b => rw [show v = V.ref b from dv]; rfl
  | tup l => obtain ⟨a, xs, rfl, _⟩ := dv; rfl
  | lst l => obtain ⟨a, xs, rfl, _⟩ := dv; rfl
  | lsr l => obtain ⟨a, xs, rfl, _⟩ := dv; rfl
  | dK k l => obtain ⟨a, xs, rfl, _⟩ := dv; rfl
  | dT k l => obtain ⟨a, xs, rfl, _⟩ := dv; rfl
  | ins C k l => obtain ⟨a, dx, xs, rfl, _⟩ := dv; rfl
  | exc a d ks l => rw [show v = V.ref a from dv.1]; rfl
theorem do_isN : DOp K (fun x y H Q => y = .non ∧ Q (.bl (decide (x = .non))) H) fIsN := by
  intro F μ H x y dx dy Q0 Q s d1 d2 h q
  unfold fIsN at h
  split at h
  · exact ⟨d2, by rw [isN_ok d1]; exact q F μ H (.bl _) _ Grow.refl s rfl h⟩
  · exact h.elim
theorem do_notN : DOp K (fun x y H Q => y = .non ∧ Q (.bl (!decide (x = .non))) H) fNotN := by
  intro F μ H x y dx dy Q0 Q s d1 d2 h q
  unfold fNotN at h
  split at h
  · exact ⟨d2, by rw [isN_ok d1]; exact q F μ H (.bl _) _ Grow.refl s rfl h⟩
  · exact h.elim
/-- xs[i] of a list, a tuple -/
def sv (μ : Mu) : D → Option (List D)
  | .tup l => some l
  | .lst l => some l
  | .mut a => match μ a with
    | some (.lst l) => some l
    | _ => none
  | _ => none
def fIx : F2 := fun x y μ Q => match y with
  | .int i => match sv μ x with
    | some l => match atI l i with
      | some d => Q d μ
      | none => False
    | none => False
  | _ => False
theorem atI_dv {F : Hp} {l : List D} {xs : List V} {i : Int} {d : D} (h : DVs K F l xs) (e : atI l i = some d) : ∃ v, atI xs i = some v ∧ DV K F d v := by
  unfold atI at *
  rw [h.len]
  cases q : ixN l.length i with
  | none => rw [q] at e; cases e
  | some j =>
    rw [q] at e
    exact h.get (i := j) e
theorem do_ix : DOp K (rIx K) fIx := by
  intro F μ H x y dx dy Q0 Q s d1 d2 h q
  unfold fIx at h
  split at h
  · rename_i i
    split at h
    · rename_i l el
      split at h
      · rename_i d ed
        have gH : Grow F H := s.sub
        obtain rfl : y = V.int i := d2
        unfold sv at el
        split at el
        · cases el
          obtain ⟨a, xs, rfl, r, dl⟩ := d1
          obtain ⟨v, e1, e2⟩ := atI_dv dl ed
          exact .inr (.inl ⟨a, xs, i, v, rfl, rfl, gH.st r, e1, q F μ H d v Grow.refl s e2 h⟩)
        · cases el
          obtain ⟨a, xs, rfl, r, dl⟩ := d1
          obtain ⟨v, e1, e2⟩ := atI_dv dl ed
          exact .inl ⟨a, xs, i, v, rfl, rfl, SqL.of (gH _ _ r), e1, q F μ H d v Grow.refl s e2 h⟩
        · rename_i a
          split at el
          · rename_i l' em
            cases el
            obtain rfl : x = V.ref a := d1
            obtain ⟨_, xs, ho, dl⟩ := s.cel a _ em
            obtain ⟨v, e1, e2⟩ := atI_dv dl ed
            exact .inl ⟨a, xs, i, v, rfl, rfl, SqL.of ho, e1, q F μ H d v Grow.refl s e2 h⟩
          · cases el
        · cases el
      · exact h.elim
    · exact h.elim
  · exact h.elim
/-- len of a list, a tuple -/
def fLen (ds : List D) (μ : Mu) (Q : D → Mu → Prop) : Prop := match ds with
  | [x] => match sv μ x with
    | some l => Q (.int (l.length : Nat)) μ
    | none => False
  | _ => False
theorem sv_ok {F H : Hp} {μ : Mu} {x : D} {v : V} {l : List D} (s : Sok K F μ H) (dv : DV K F x v) (e : sv μ x = some l) : ∃ a xs, v = .ref a ∧ (SqL K H a xs ∨ SqT K H a xs) ∧ DVs K F l xs := by
  have gH : Grow F H := s.sub
  unfold sv at e
  split at e
  · cases e
    obtain ⟨a, xs, rfl, r, dl⟩ := dv
    exact ⟨a, xs, rfl, .inr (gH.st r), dl⟩
  · cases e
    obtain ⟨a, xs, rfl, r, dl⟩ := dv
    exact ⟨a, xs, rfl, .inl (SqL.of (gH _ _ r)), dl⟩
  · rename_i a
    split at e
    · rename_i l' em
      cases e
      obtain rfl : v = V.ref a := dv
      obtain ⟨_, xs, ho, dl⟩ := s.cel a _ em
      exact ⟨a, xs, rfl, .inl (SqL.of ho), dl⟩
    · cases e
  · cases e
theorem dc_len : DCa K (fun xs H Q => ∃ p ys, xs = [.ref p] ∧ (SqL K H p ys ∨ SqT K H p ys) ∧ Q (.int ys.length) H) fLen := by
  intro F μ H vs ds Q0 Q s dv h q
  unfold fLen at h
  split at h
  · split at h
    · rename_i l el
      obtain ⟨v, r, rfl, d1, rfl⟩ := dv
      obtain ⟨a, xs, rfl, r, dl⟩ := sv_ok s d1 el
      exact ⟨a, xs, rfl, r, by rw [dl.len]; exact q F μ H (.int _) _ Grow.refl s rfl h⟩
    · exact h.elim
  · exact h.elim
/-- list(xs): a new cell -/
def fList (ds : List D) (μ : Mu) (Q : D → Mu → Prop) : Prop := match ds with
  | [x] => match sv μ x with
    | some l => ∀ p, μ p = none → Q (.mut p) (um μ p (.lst l))
    | none => False
  | _ => False
theorem dc_list : DCa K (fun xs H Q => ∃ p ys, xs = [.ref p] ∧ (SqL K H p ys ∨ SqT K H p ys) ∧ ∀ l, H l = none → Q (.ref l) (upd H l (.lst ys))) fList := by
  intro F μ H vs ds Q0 Q s dv h q
  unfold fList at h
  split at h
  · split at h
    · rename_i l el
      obtain ⟨v, r, rfl, d1, rfl⟩ := dv
      obtain ⟨a, xs, rfl, r, dl⟩ := sv_ok s d1 el
      refine ⟨a, xs, rfl, r, fun p hp => ?_⟩
      have f := s.free hp
      exact q F _ _ (.mut p) _ Grow.refl (s.cell (m := .lst l) f.1 ⟨xs, upd_same, dl⟩) rfl (h p f.2)
    · exact h.elim
  · exact h.elim
def fAbs (ds : List D) (μ : Mu) (Q : D → Mu → Prop) : Prop := match ds with
  | [.int i] => Q (.int (i.natAbs : Nat)) μ
  | _ => False
theorem dc_abs : DCa K (fun xs H Q => ∃ i, xs = [.int i] ∧ Q (.int (if i < 0 then -i else i)) H) fAbs := by
  intro F μ H vs ds Q0 Q s dv h q
  unfold fAbs at h
  split at h
  · rename_i i
    obtain ⟨v, r, rfl, d1, rfl⟩ := dv
    obtain rfl : v = V.int i := d1
    refine ⟨i, rfl, ?_⟩
    have e : (if i < 0 then -i else i) = (i.natAbs : Nat) := by split <;> omega
    rw [e]
    exact q F μ H (.int _) _ Grow.refl s rfl h
  · exact h.elim
def fInt (ds : List D) (μ : Mu) (Q : D → Mu → Prop) : Prop := match ds with
  | [.int i] => Q (.int i) μ
  | _ => False
theorem dc_int : DCa K (fun xs H Q => (∃ i, xs = [.int i] ∧ Q (.int i) H) ∨ ∃ k, xs = [.bl k] ∧ Q (.int (if k then 1 else 0)) H) fInt := by
  intro F μ H vs ds Q0 Q s dv h q
  unfold fInt at h
  split at h
  · rename_i i
    obtain ⟨v, r, rfl, d1, rfl⟩ := dv
    obtain rfl : v = V.int i := d1
    exact .inl ⟨i, rfl, q F μ H (.int _) _ Grow.refl s rfl h⟩
  · exact h.elim
/-- xs[i] = e of a cell -/
def fSetL (o i v : D) (μ : Mu) (N : Mu → Prop) : Prop := match o, i with
  | .mut a, .int k => match μ a with
    | some (.lst l) => match ixN l.length k with
      | some j => N (um μ a (.lst (l.set j v)))
      | none => False
    | _ => False
  | _, _ => False
theorem ds_setL : DSet K rSetL fSetL := by
  intro F μ H o i v do' di dv N0 N s d1 d2 d3 h q
  unfold fSetL at h
  split at h
  · rename_i a k
    split at h
    · rename_i l em
      split at h
      · rename_i j ej
        obtain rfl : o = V.ref a := d1
        obtain rfl : i = V.int k := d2
        obtain ⟨f, xs, ho, dl⟩ := s.cel a _ em
        refine ⟨a, xs, k, j, rfl, rfl, ho, by rw [dl.len]; exact ej, ?_⟩
        exact q F _ _ Grow.refl (s.cell (m := .lst _) f ⟨_, upd_same, dl.set j d3⟩) h
      · exact h.elim
    · exact h.elim
  · exact h.elim
/-- xs.append(e) -/
def fApp (o : D) (ds : List D) (μ : Mu) (Q : D → Mu → Prop) : Prop := match o, ds with
  | .mut a, [d] => match μ a with
    | some (.lst l) => l.length < 100000 ∧ Q .non (um μ a (.lst (l ++ [d])))
    | _ => False
  | _, _ => False
def fPop (o : D) (ds : List D) (μ : Mu) (Q : D → Mu → Prop) : Prop := match o, ds with
  | .mut a, [] => match μ a with
    | some (.lst l) => match l.getLast? with
      | some d => Q d (um μ a (.lst l.dropLast))
      | none => False
    | _ => False
  | _, _ => False
/-- a method of a cell that is a list -/
def wMeL (f : D → List D → Mu → (D → Mu → Prop) → Prop) (o : WEx) (a : WA) : WEx := fun ρ μ Q => o ρ μ fun x μ1 => (∃ p l, x = .mut p ∧ μ1 p = some (.lst l)) ∧ a ρ μ1 fun ds μ2 => f x ds μ2 Q
theorem ty_list {W : WX} {E : EX} {F H : Hp} {μ : Mu} {ρ : En} {σ : L2.St} {x : D} {v : V} (s : Sok K F μ H) (dv : DV K F x v) (h : ∃ p l, x = .mut p ∧ μ p = some (.lst l)) : tyV K "list" v H := by
  obtain ⟨p, l, rfl, e⟩ := h
  obtain rfl : v = V.ref p := dv
  obtain ⟨_, xs, ho, _⟩ := s.cel p _ e
  exact Or.inl ⟨rfl, xs, Or.inl (Or.inl ho)⟩
theorem dn_meL {W : WX} {E : EX} {r : V → List V → Hp → VK → Prop} {f : D → List D → Mu → (D → Mu → Prop) → Prop} {to : TE} {wo : WEx} {tas : TA} {was : WA} (hf : DMe K r f) (ho : Dn K W E to wo) (ha : DnA K W E tas was) : Dn K W E (tBM K "list" r to tas) (wMeL f wo was) := by
  intro F μ H ρ σ Q0 Q s h q
  refine ho F μ H ρ σ _ _ s h fun F1 μ1 H1 dx x g1 s1 dv1 ⟨hm, h1⟩ => ?_
  refine ⟨ty_list (W := W) (E := E) (ρ := ρ) (σ := σ) s1.ok dv1 hm, ha F1 μ1 H1 ρ σ _ _ s1 h1 fun F2 μ2 H2 ds vs g2 s2 dv2 h2 => ?_⟩
  refine hf F2 μ2 H2 x vs dx ds Q0 Q s2.ok (dv1.mono g2) dv2 h2 fun F3 μ3 H3 d v g3 s3 dv h3 => ?_
  exact q F3 μ3 H3 d v (g1.trans (g2.trans g3)) (s2.mono g3 s3) dv h3
theorem dn_meL0 {W : WX} {E : EX} {r : V → List V → Hp → VK → Prop} {f : D → List D → Mu → (D → Mu → Prop) → Prop} {to : TE} {wo : WEx} (hf : DMe K r f) (ho : Dn K W E to wo) : Dn K W E (tBM0 K "list" r to) (wMeL f wo wNil) := by
  intro F μ H ρ σ Q0 Q s h q
  refine ho F μ H ρ σ _ _ s h fun F1 μ1 H1 dx x g1 s1 dv1 ⟨hm, h1⟩ => ?_
  refine ⟨ty_list (W := W) (E := E) (ρ := ρ) (σ := σ) s1.ok dv1 hm, ?_⟩
  refine hf F1 μ1 H1 x [] dx [] Q0 Q s1.ok dv1 rfl h1 fun F3 μ3 H3 d v g3 s3 dv h3 => ?_
  exact q F3 μ3 H3 d v (g1.trans g3) (s1.mono g3 s3) dv h3
theorem dm_app : DMe K rAppend fApp := by
  intro F μ H x vs dx ds Q0 Q s d1 d2 h q
  unfold fApp at h
  split at h
  · rename_i a d
    split at h
    · rename_i l em
      obtain rfl : x = V.ref a := d1
      obtain ⟨y, r, rfl, dy, rfl⟩ := d2
      obtain ⟨f, xs, ho, dl⟩ := s.cel a _ em
      refine ⟨a, xs, y, rfl, rfl, ho, sz5l (by rw [dl.len]; exact h.1), ?_⟩
      exact q F _ _ .non _ Grow.refl (s.cell (m := .lst _) f ⟨_, upd_same, dl.append (DVs.cons dy DVs.nil)⟩) rfl h.2
    · exact h.elim
  · exact h.elim
theorem dm_pop : DMe K rPop fPop := by
  intro F μ H x vs dx ds Q0 Q s d1 d2 h q
  unfold fPop at h
  split at h
  · rename_i a
    split at h
    · rename_i l em
      split at h
      · rename_i d ed
        obtain rfl : x = V.ref a := d1
        obtain rfl : vs = [] := d2
        obtain ⟨f, xs, ho, dl⟩ := s.cel a _ em
        rw [List.getLast?_eq_getElem?] at ed
        obtain ⟨y, e1, dy⟩ := dl.get ed
        refine ⟨a, xs, y, rfl, rfl, ho, by rw [dl.len]; exact e1, ?_⟩
        exact q F _ _ d _ Grow.refl (s.cell (m := .lst _) f ⟨_, upd_same, dl.dropLast⟩) dy h
      · exact h.elim
    · exact h.elim
  · exact h.elim
end
end DL
set_option maxHeartbeats 4000000
namespace DL
open PySem L2 PySem.Spec PyProof.Rows

/-! ### syntax and what it does, over data -/
structure DE (X : Cx) (W : WX) (E : EX) (e : Expr) (t : TE) (w : WEx) : Prop where
  pe : PE X e t
  dn : Dn X.K W E t w
structure DT (X : Cx) (W : WX) (E : EX) (e : Expr) (t : TT) (w : WT) : Prop where
  pe : PT X e t
  dn : DnT X.K W E t w
structure DWt (X : Cx) (W : WX) (E : EX) (e : Expr) (t : TT) (w : WT) : Prop where
  pe : PW X e t
  dn : DnT X.K W E t w
structure DA (X : Cx) (W : WX) (E : EX) (es : List Expr) (t : TA) (w : WA) : Prop where
  pe : PA X es t
  dn : DnA X.K W E t w
structure DS (X : Cx) (W : WX) (E : EX) (st : Stmt) (t : TS) (w : WS) : Prop where
  pe : PS X st t
  dn : DnS X.K W E t w
structure DSs (X : Cx) (W : WX) (E : EX) (st : List Stmt) (t : TS) (w : WS) : Prop where
  pe : PSs X st t
  dn : DnS X.K W E t w
structure DGt (X : Cx) (W : WX) (E : EX) (e : Expr) (t : TG) (w : WG) : Prop where
  pe : PG X e t
  dn : DnG X.K W E t w
structure DGl (X : Cx) (W : WX) (E : EX) (es : List Expr) (t : TGs) (w : WGs) : Prop where
  pe : PGs X es t
  dn : DnGs X.K W E t w
structure DIt (X : Cx) (W : WX) (E : EX) (tg iter : Expr) (t : TI) (w : WI) : Prop where
  pe : PI X tg iter t
  dn : DnI X.K W E t w
section
variable {X : Cx} {W : WX} {E : EX} {a b c d e o i : Expr} {ta tb tc te td : TE} {wa wb wc we wd : WEx} {tt tu : TT} {wt wu : WT} {es : List Expr} {tas : TA} {was : WA} {ts tv : TS} {ws wv : WS} {g : TG} {wg : WG} {gs : TGs} {wgs : WGs} {pos : Pos} {st : Stmt} {p q r : List Stmt}
theorem ev (i : Nat) {x : Str} (hN : X.N[i]? = some x := by rfl) (hv : Vis X.env.scope x := by first | exact Or.inl rfl | exact Or.inr (Or.inl rfl) | exact Or.inr (Or.inr rfl)) (hd : (x == ("__debug__" : Str)) = false := by decide)
    (hcd : (x == ("__classdict__" : Str)) = false := by decide) : DE X W E (.Name x pos) (tVar i) (wVar i) := ⟨pe_var hN hv hd hcd, dn_var⟩
theorem ei {j : Int} {n} : DE X W E (.Constant (.int j) n pos) (tC (.int j)) (wC (.int j)) := ⟨pe_int, dn_int⟩
theorem eb {j : Bool} {n} : DE X W E (.Constant (.bool j) n pos) (tC (.bl j)) (wC (.bl j)) := ⟨pe_bl, dn_bl⟩
theorem en {n} : DE X W E (.Constant .none n pos) (tC .non) (wC .non) := ⟨pe_non, dn_non⟩
theorem es' {x : Str} {n} : DE X W E (.Constant (.str x) n pos) (tC (.str x)) (wC (.str x)) := ⟨pe_str, dn_str⟩
theorem eg {x : Str} {v : V} {u : Value} {dd : D} (hg : Gl X x) (hm : X.mg x = some u) (r : RelV v u) (hf : flat dd = true) (hv : toV dd = v) (hd : (x == ("__debug__" : Str)) = false := by decide) : DE X W E (.Name x pos) (tC v) (wC dd) :=
  ⟨pe_glob hg hm r hd, fun F μ H ρ σ Q0 Q s h q => q F μ H dd v Grow.refl s (by rw [← hv]; exact flat_dv hf) h⟩
theorem eo {op : Operator} {r : R2} {f : F2} (ho : OpR X (binaryOp op) r) (hf : DOp X.K r f) (ha : DE X W E a ta wa) (hb : DE X W E b tb wb) : DE X W E (.BinOp a op b pos) (tOp r ta tb) (wOp f wa wb) := ⟨pe_op ho ha.pe hb.pe, dn_op hf ha.dn hb.dn⟩
theorem eadd (ha : DE X W E a ta wa) (hb : DE X W E b tb wb) : DE X W E (.BinOp a .Add b pos) (tOp (rI0 fun i j => .int (i + j)) ta tb) (wOp fAdd wa wb) := eo op_add do_add ha hb
theorem esub (ha : DE X W E a ta wa) (hb : DE X W E b tb wb) : DE X W E (.BinOp a .Sub b pos) (tOp (rI0 fun i j => .int (i - j)) ta tb) (wOp fSub wa wb) := eo op_sub do_sub ha hb
theorem emul (ha : DE X W E a ta wa) (hb : DE X W E b tb wb) : DE X W E (.BinOp a .Mult b pos) (tOp (rI MulOk fun i j => .int (i * j)) ta tb) (wOp fMul wa wb) := eo op_mulA do_mul ha hb
theorem emod (ha : DE X W E a ta wa) (hb : DE X W E b tb wb) : DE X W E (.BinOp a .Mod b pos) (tOp (rI (fun _ j => 0 < j) fun i j => .int (i % j)) ta tb) (wOp fMod wa wb) := eo op_mod do_mod ha hb
theorem emodN (ha : DE X W E a ta wa) (hb : DE X W E b tb wb) : DE X W E (.BinOp a .Mod b pos) (tOp (rI (fun _ j => j ≠ 0) fun i j => .int (i.fmod j)) ta tb) (wOp fModN wa wb) := eo op_modN do_modN ha hb
theorem epow (ha : DE X W E a ta wa) (hb : DE X W E b tb wb) : DE X W E (.BinOp a .Pow b pos) (tOp (rI CPow fun i j => .int (i ^ j.toNat)) ta tb) (wOp fPow wa wb) := eo op_pow do_pow ha hb
theorem ediv (ha : DE X W E a ta wa) (hb : DE X W E b tb wb) : DE X W E (.BinOp a .FloorDiv b pos) (tOp (rI CDivW fun i j => .int (i / j)) ta tb) (wOp fDiv wa wb) := eo op_fdivW do_div ha hb
theorem eneg (ha : DE X W E a ta wa) : DE X W E (.UnaryOp .USub a pos) (tUn (rU fun i => .int (-i)) ta) (wUn fNeg wa) := ⟨pe_un un_neg ha.pe, dn_un du_neg ha.dn⟩
theorem ec {op : CmpOp} {r : R2} {f : F2} (ho : OpR X (compareOp op) r) (hf : DOp X.K r f) (ha : DE X W E a ta wa) (hb : DE X W E b tb wb) (hm : behindInMarks op b = false := by exact nomark _) : DE X W E (.Compare a [op] [b] pos) (tOp r ta tb) (wOp f wa wb) := ⟨pe_cmpR ho ha.pe hb.pe hm, dn_op hf ha.dn hb.dn⟩
theorem tc' {op : CmpOp} {r : R2} {f : F2} (ho : OpR X (compareOp op) r) (hf : DOp X.K r f) (ha : DE X W E a ta wa) (hb : DE X W E b tb wb) (hm : behindInMarks op b = false := by exact nomark _) : DT X W E (.Compare a [op] [b] pos) (tTest (tOp r ta tb)) (wTe (wOp f wa wb)) := ⟨pt_cmpR ho ha.pe hb.pe hm, dn_te (dn_op hf ha.dn hb.dn)⟩
theorem tval (h : DE X W E a ta wa) (he : ∀ whole, isTrue a X.env whole = (do let v ← whole; standAt a.pos; holding [v] (truthy v)) := by intro _; rfl) : DT X W E a (tB ta) (wTe wa) := ⟨pt_val h.pe he, dn_teB h.dn⟩
theorem tand1 (h : DT X W E a tt wt) : DWt X W E (.BoolOp .And [a] pos) tt wt := ⟨pw_and1 h.pe, h.dn⟩
theorem tor1 (h : DT X W E a tt wt) : DWt X W E (.BoolOp .Or [a] pos) tt wt := ⟨pw_or1 h.pe, h.dn⟩
theorem tand (h : DT X W E a tt wt) (h2 : DWt X W E (.BoolOp .And (b :: es) pos) tu wu) : DWt X W E (.BoolOp .And (a :: b :: es) pos) (tAnd tt tu) (wAnd wt wu) := ⟨pw_and h.pe h2.pe, dn_and h.dn h2.dn⟩
theorem tor (h : DT X W E a tt wt) (h2 : DWt X W E (.BoolOp .Or (b :: es) pos) tu wu) : DWt X W E (.BoolOp .Or (a :: b :: es) pos) (tOr tt tu) (wOr wt wu) := ⟨pw_or h.pe h2.pe, dn_or h.dn h2.dn⟩
theorem tbo (h : DWt X W E a tt wt) : DT X W E a tt wt := ⟨h.pe.pt, h.dn⟩
theorem tnot (h : DT X W E a tt wt) : DT X W E (.UnaryOp .Not a pos) (tNot tt) (wNot wt) := ⟨pt_not h.pe, dn_not h.dn⟩
theorem eone {op} (h : DE X W E a ta wa) : DE X W E (.BoolOp op [a] pos) ta wa := ⟨pe_one h.pe, h.dn⟩
theorem eand (h : DE X W E a ta wa) (h2 : DE X W E (.BoolOp .And (b :: es) pos) tb wb) : DE X W E (.BoolOp .And (a :: b :: es) pos) (tAndV ta tb) (wAndV wa wb) := ⟨pe_and h.pe h2.pe, dn_andV h.dn h2.dn⟩
theorem eor (h : DE X W E a ta wa) (h2 : DE X W E (.BoolOp .Or (b :: es) pos) tb wb) : DE X W E (.BoolOp .Or (a :: b :: es) pos) (tOrV ta tb) (wOrV wa wb) := ⟨pe_or h.pe h2.pe, dn_orV h.dn h2.dn⟩
theorem enot (h : DE X W E a ta wa) : DE X W E (.UnaryOp .Not a pos) (tNotV ta) (wNotV wa) := ⟨pe_not h.pe, dn_notV h.dn⟩
theorem eif (hc : DT X W E c tt wt) (ha : DE X W E a ta wa) (hb : DE X W E b tb wb) : DE X W E (.IfExp c a b pos) (tIf tt ta tb) (wIfE wt wa wb) := ⟨pe_ifExp hc.pe ha.pe hb.pe, dn_ifE hc.dn ha.dn hb.dn⟩
theorem anil : DA X W E [] tNil wNil := ⟨pa_nil, dn_nil⟩
theorem acons (ha : DE X W E e te we) (hr : DA X W E es tas was) (hs : starEach (e :: es) X.env = (false, eval e X.env) :: starEach es X.env := by rfl) : DA X W E (e :: es) (tCons te tas) (wCons we was) := ⟨pa_cons ha.pe hr.pe hs, dn_cons ha.dn hr.dn⟩
theorem etup {x1} (h : DA X W E es tas was) : DE X W E (.Tuple es x1 pos) (tTup tas) (wTup was) := ⟨pe_tup h.pe, dn_tup h.dn⟩
theorem elst (h : DA X W E es tas was) : DE X W E (.List es pos) (tLst tas) (wLst was) := ⟨pe_lst h.pe, dn_lst h.dn⟩
theorem elstF (h : DA X W E es tas was) : DE X W E (.List es pos) (tLst tas) (wLstF was) := ⟨pe_lst h.pe, dn_lstF h.dn⟩
theorem efrz (h : DE X W E a ta wa) : DE X W E a ta (wFrz wa) := ⟨h.pe, dn_frz h.dn⟩
theorem eix (ha : DE X W E a ta wa) (hb : DE X W E b tb wb) (hs : PlainIx b := by exact fun _ _ => rfl) : DE X W E (.Subscript a b pos) (tOp (rIx X.K) ta tb) (wOp fIx wa wb) := ⟨pe_ix ix_seq ha.pe hb.pe hs, dn_op do_ix ha.dn hb.dn⟩
theorem ecb {id : String} {x : Str} {r : List V → Hp → VK → Prop} {f : List D → Mu → (D → Mu → Prop) → Prop} {p : Pos} (hc : CallR X (.builtin id) r) (hf : DCa X.K r f) (hm : X.mg x = none) (ha : DA X W E (e :: es) tas was) (hg : Gl X x := by rfl) (hv : bootBuiltins x = some (.builtin id) := by decide +kernel) (hn : x ≠ "__name__" := by decide) (hdb : (x == ("__debug__" : Str)) = false := by decide)
    (hs : starEach (e :: es) X.env = (false, eval e X.env) :: starEach es X.env := by rfl) (hpl : (backTo pos (starEach es X.env)).any (·.1) = false := by rfl) :
    DE X W E (.Call (.Name x p) (e :: es) [] pos) (tCB r tas) (wCB f was) := ⟨pe_callB hc hg hm hv ha.pe hn hdb hs hpl, dn_cb hf ha.dn⟩
theorem ecty {T : String} {x : Str} {r : List V → Hp → VK → Prop} {f : List D → Mu → (D → Mu → Prop) → Prop} {p : Pos} (hc : CallR X (.type T) r) (hf : DCa X.K r f) (hm : X.mg x = none) (ha : DA X W E (e :: es) tas was) (hg : Gl X x := by rfl) (hv : bootBuiltins x = some (.type T) := by decide +kernel) (hn : x ≠ "__name__" := by decide) (hdb : (x == ("__debug__" : Str)) = false := by decide)
    (hs : starEach (e :: es) X.env = (false, eval e X.env) :: starEach es X.env := by rfl) (hpl : (backTo pos (starEach es X.env)).any (·.1) = false := by rfl) :
    DE X W E (.Call (.Name x p) (e :: es) [] pos) (tCB r tas) (wCB f was) := ⟨pe_callTy hc hg hm hv ha.pe hn hdb hs hpl, dn_cb hf ha.dn⟩
/-! ### statements -/
theorem snil : DSs X W E [] tNext wNext := ⟨pss_nil, dn_next⟩
theorem scons (h1 : DS X W E st ts ws) (h2 : DSs X W E p tv wv) : DSs X W E (st :: p) (tSeq ts tv) (wSeq ws wv) := ⟨pss_cons h1.pe h2.pe, dn_seq h1.dn h2.dn⟩
theorem sone (h1 : DS X W E st ts ws) : DSs X W E [st] ts ws := ⟨pss_one h1.pe, h1.dn⟩
theorem spass : DS X W E (.Pass pos) tNext wNext := ⟨ps_pass, dn_next⟩
theorem sbrk : DS X W E (.Break pos) tBreak wBrk := ⟨ps_break, dn_brk⟩
theorem scnt : DS X W E (.Continue pos) tCont wCnt := ⟨ps_continue, dn_cnt⟩
theorem sret (h : DE X W E a ta wa) : DS X W E (.Return (some a) pos) (tRet ta) (wRet wa) := ⟨ps_ret h.pe, dn_ret h.dn⟩
theorem sretN : DS X W E (.Return none pos) tRetN wRetN := ⟨ps_retN, dn_retN⟩
theorem sexpr (h : DE X W E a ta wa) (hs : swapsWith a none pos.line X.env = pure false := by rfl) : DS X W E (.Expr a pos) (tDrop ta) (wDrop wa) := ⟨ps_expr h.pe hs, dn_drop h.dn⟩
theorem sif (hc : DT X W E c tt wt) (h1 : DSs X W E p ts ws) (h2 : DSs X W E q tv wv) : DS X W E (.If c p q pos) (tIfS tt ts tv) (wIf wt ws wv) := ⟨ps_if hc.pe h1.pe h2.pe, dn_if hc.dn h1.dn h2.dn⟩
theorem sset {i : Nat} {x : Str} {pos' : Pos} (h : DE X W E a ta wa) (hN : X.N.Nodup) (hi : X.N[i]? = some x := by rfl) (hx : Loc X.env.scope x := by first | exact Or.inl rfl | exact Or.inr rfl) (hs : swapsWith a (some (.Name x pos')) pos.line X.env = pure false := by rfl) (hf : X.fn x = true ∨ X.env.scope.names.lookup x = some .local := by first | exact .inl rfl | exact .inr rfl) :
    DS X W E (.Assign [.Name x pos'] a pos) (tAsg ta (gName i)) (wAsg wa (gN i)) := ⟨ps_set hN hi hx h.pe hs hf, dn_asg h.dn dg_name⟩
theorem sasg {tg : Expr} (h : DE X W E a ta wa) (hg : DGt X W E tg g wg) (hs : swapsWithSole [tg] a pos.line X.env = pure false := by rfl) (hw : swappedStores [tg] a X.env = pure none := by rfl) (h1 : (assignEach [tg] X.env).map (·.2) = [assign tg X.env] := by rfl) : DS X W E (.Assign [tg] a pos) (tAsg ta g) (wAsg wa wg) := ⟨ps_asg h.pe hg.pe hs hw h1, dn_asg h.dn hg.dn⟩
theorem gnm (i : Nat) {x : Str} (hN : X.N.Nodup) (hi : X.N[i]? = some x := by rfl) (hx : Loc X.env.scope x := by first | exact Or.inl rfl | exact Or.inr rfl) (hf : X.fn x = true ∨ X.env.scope.names.lookup x = some .local := by first | exact .inl rfl | exact .inr rfl) : DGt X W E (.Name x pos) (gName i) (gN i) := ⟨pg_name hN hi hx hf, dg_name⟩
theorem gnl : DGl X W E [] gNil gNl := ⟨pgs_nil, dg_nil⟩
theorem gcn (h1 : DGt X W E e g wg) (h2 : DGl X W E es gs wgs) (hs : (assignEach (e :: es) X.env).map (·.2) = assign e X.env :: (assignEach es X.env).map (·.2) := by rfl) : DGl X W E (e :: es) (gCons g gs) (gCn wg wgs) := ⟨pgs_cons h1.pe h2.pe hs, dg_cons h1.dn h2.dn⟩
theorem gsl (ho : DE X W E o ta wa) (hi : DE X W E i tb wb) (hp : PE X o ta → PE X i tb → PG X (.Subscript o i pos) (gSub ta tb rSetL) := by exact fun x y => pg_sub x y set_list) : DGt X W E (.Subscript o i pos) (gSub ta tb rSetL) (gSb fSetL wa wb) := ⟨hp ho.pe hi.pe, dg_sub ds_setL ho.dn hi.dn⟩
theorem gtp {n k : Nat} (h : DGl X W E es gs wgs) (hc : X.calm = true := by rfl) (hn : (assignEach es X.env).length = n := by rfl) (hst : (assignEach es X.env).findIdx? (·.1) = none := by rfl) : DGt X W E (.Tuple es k pos) (gTup X.K n gs) (gTp n wgs) := ⟨pg_tup hc h.pe hn hst, dg_tup h.dn⟩
theorem spar {i j : Nat} {x y : Str} {px py pt : Pos} {kt k2 pt2} (ha : DA X W E [a, b] tas was) (hN : X.N.Nodup) (hi : X.N[i]? = some x := by rfl) (hj : X.N[j]? = some y := by rfl) (hij : i ≠ j := by decide)
    (hx : X.env.scope.names.lookup x = some .local := by rfl) (hy : X.env.scope.names.lookup y = some .local := by rfl) (hc : X.calm = true := by rfl)
    (hw : swappedStores [.Tuple [.Name x px, .Name y py] kt pt] (.Tuple [a, b] k2 pt2) X.env = pure (some [x, y]) := by rfl)
    (hs : swapsWithSole [.Tuple [.Name x px, .Name y py] kt pt] (.Tuple [a, b] k2 pt2) pos.line X.env = pure false := by rfl) :
    DS X W E (.Assign [.Tuple [.Name x px, .Name y py] kt pt] (.Tuple [a, b] k2 pt2) pos) (tPar i j tas) (wPar i j was) := ⟨ps_par hc hN hi hj hij hx hy ha.pe hw hs, dn_par ha.dn⟩
theorem swhile (hp : PassesOwn (model X.prog X.w) X.A X.env X.xe) (hc : DT X W E c tt wt) (hb : DSs X W E p ts ws) : DS X W E (.While c p [] pos) (tWhile tt ts) (wWhile wt ws) := ⟨ps_while hp hc.pe hb.pe, dn_while hc.dn hb.dn⟩
theorem sfor {ti : TI} {wi : WI} {tg it : Expr} (hp : PassesOwn (model X.prog X.w) X.A X.env X.xe) (hi : DIt X W E tg it ti wi) (hg : DGt X W E tg g wg) (hb : DSs X W E p ts ws) (hc : X.calm = true := by rfl) (hs : ∀ x, foldedSetIterable it X.env x = pure x := by intro _; rfl) :
    DS X W E (.For tg it p [] pos) (tFor ti g ts) (wFor wi wg ws) := ⟨ps_for hp hc hi.pe hg.pe hb.pe hs, dn_for hi.dn hg.dn hb.dn⟩
theorem il {tg : Expr} (h : DE X W E a ta wa) : DIt X W E tg a (iList X.K ta) (iLs wa) := ⟨pi_list h.pe, di_list h.dn⟩
theorem it {tg : Expr} (h : DE X W E a ta wa) : DIt X W E tg a (iTup X.K ta) (iTp wa) := ⟨pi_tup h.pe, di_tup h.dn⟩
theorem ir1 {tg : Expr} {p' : Pos} (hm : X.mg "range" = none) (h : DA X W E [a] tas was) (hg : Gl X "range" := by rfl) (hs : starEach [a] X.env = [(false, eval a X.env)] := by rfl) : DIt X W E tg (.Call (.Name "range" p') [a] [] pos) (iRng1 tas) (iR1 was) := ⟨pi_range1 hg hm h.pe hs, di_r1 h.dn⟩
theorem ir2 {tg : Expr} {p' : Pos} (hm : X.mg "range" = none) (h : DA X W E [a, b] tas was) (hg : Gl X "range" := by rfl) (hs : starEach [a, b] X.env = [(false, eval a X.env), (false, eval b X.env)] := by rfl) (hs2 : starEach [b] X.env = [(false, eval b X.env)] := by rfl) : DIt X W E tg (.Call (.Name "range" p') [a, b] [] pos) (iRng2 tas) (iR2 was) := ⟨pi_range2 hg hm h.pe hs hs2, di_r2 h.dn⟩
theorem emeL {id m : String} {name : Str} {r : V → List V → Hp → VK → Prop} {f : D → List D → Mu → (D → Mu → Prop) → Prop} {apos : Pos} (slot : Slot "list" name id) (hty : typeOf (.builtin id) = pure (.type "method_descriptor")) (hm : MtR X id r) (hf : DMe X.K r f) (ho : DE X W E o ta wa) (ha : DA X W E (e :: es) tas was)
    (hp : PlainAttrs "list" → Slot "list" name id → typeOf (.builtin id) = pure (.type "method_descriptor") → MtR X id r → PE X o ta → PA X (e :: es) tas → PE X (.Call (.Attribute o name apos) (e :: es) [] pos) (tBM X.K "list" r ta tas) := by exact fun a b c d e f => pe_bm a b c d e f) :
    DE X W E (.Call (.Attribute o name apos) (e :: es) [] pos) (tBM X.K "list" r ta tas) (wMeL f wa was) := ⟨hp PySem.F.plainAttrs_list slot hty hm ho.pe ha.pe, dn_meL hf ho.dn ha.dn⟩
theorem eapp {apos : Pos} (ho : DE X W E o ta wa) (ha : DA X W E (e :: es) tas was)
    (hp : PlainAttrs "list" → Slot "list" "append" "list.append" → typeOf (.builtin "list.append") = pure (.type "method_descriptor") → MtR X "list.append" rAppend → PE X o ta → PA X (e :: es) tas → PE X (.Call (.Attribute o "append" apos) (e :: es) [] pos) (tBM X.K "list" rAppend ta tas) := by exact fun a b c d e f => pe_bm a b c d e f) :
    DE X W E (.Call (.Attribute o "append" apos) (e :: es) [] pos) (tBM X.K "list" rAppend ta tas) (wMeL fApp wa was) := ⟨hp PySem.F.plainAttrs_list PySem.F.slot_list_append PySem.F.type_list_append mt_append ho.pe ha.pe, dn_meL dm_app ho.dn ha.dn⟩
theorem epop {apos : Pos} (ho : DE X W E o ta wa)
    (hp : PlainAttrs "list" → Slot "list" "pop" "list.pop" → typeOf (.builtin "list.pop") = pure (.type "method_descriptor") → MtR X "list.pop" rPop → PE X o ta → PE X (.Call (.Attribute o "pop" apos) [] [] pos) (tBM0 X.K "list" rPop ta) := by exact fun a b c d e => pe_bm0 a b c d e) :
    DE X W E (.Call (.Attribute o "pop" apos) [] [] pos) (tBM0 X.K "list" rPop ta) (wMeL fPop wa wNil) := ⟨hp PySem.F.plainAttrs_list PySem.F.slot_list_pop PySem.F.type_list_pop mt_pop ho.pe, dn_meL0 dm_pop ho.dn⟩
end

/-! ### truth of values -/
/-- the truth of data -/
def truD (μ : Mu) : D → Option Bool
  | .non => some false
  | .bl b => some b
  | .int i => some (i != 0)
  | .tup l => some (!l.isEmpty)
  | .lst l => some (!l.isEmpty)
  | .mut a => match μ a with
    | some (.lst l) => some (!l.isEmpty)
    | some (.dK l) => some (!l.isEmpty)
    | _ => none
  | _ => none
def wTr (a : WEx) : WT := fun ρ μ Q => a ρ μ fun d μ1 => match truD μ1 d with
  | some b => Q b μ1
  | none => False
theorem isE_dvs {K : PySem.W.Frag} {F : Hp} {l : List D} {xs : List V} (h : DVs K F l xs) : xs.isEmpty = l.isEmpty := by
  cases l with
  | nil => rw [show xs = [] from h]; rfl
  | cons d l => obtain ⟨v, vs, rfl, _⟩ := h; rfl
theorem tru_ok' {K : PySem.W.Frag} {F H : Hp} {μ : Mu} {d : D} {v : V} {b : Bool} (s : Sok K F μ H) (dv : DV K F d v) (h : truD μ d = some b) : TruV K v H b := by
  have gH : Grow F H := s.sub
  cases d with
  | non => rw [show v = V.non from dv]; cases h; rfl
  | bl x => rw [show v = V.bl x from dv]; cases h; rfl
  | int x => rw [show v = V.int x from dv]; cases h; rfl
  | str x => cases h
  | tup l => obtain ⟨a, xs, rfl, r, dl⟩ := dv; cases h; exact .inr (.inl ⟨xs, gH.st r, by rw [isE_dvs dl]⟩)
  | lst l => obtain ⟨a, xs, rfl, r, dl⟩ := dv; cases h; exact .inl ⟨xs, SqL.of (gH _ _ r), by rw [isE_dvs dl]⟩
  | lsr l => cases h
  | dK k l => cases h
  | dT k l => cases h
  | ins C k l => cases h
  | exc a d k l => cases h
  | «mut» a =>
    obtain rfl : v = V.ref a := dv
    have h : (match μ a with
      | some (.lst l) => some (!l.isEmpty)
      | some (.dK l) => some (!l.isEmpty)
      | _ => none) = some b := h
    split at h
    · rename_i l e
      obtain ⟨_, xs, ho, dl⟩ := s.cel a _ e
      cases h
      exact .inl ⟨xs, SqL.of ho, by rw [isE_dvs dl]⟩
    · rename_i l e
      obtain ⟨_, xs, ho, dl⟩ := s.cel a _ e
      cases h
      refine .inr (.inr ⟨xs, ho, ?_⟩)
      have hl : xs.length = l.length := by have := congrArg List.length dl.1; simpa using this
      cases xs <;> cases l <;> first | rfl | (simp at hl)
    · cases h
theorem dn_tru {K : PySem.W.Frag} {W : WX} {E : EX} {ta : TE} {wa : WEx} (ha : Dn K W E ta wa) : DnT K W E (fun σ H Q => ta σ H fun x H' => ∃ k, TruV K x H' k ∧ Q k H') (wTr wa) := by
  intro F μ H ρ σ Q0 Q s h q
  refine ha F μ H ρ σ _ _ s h fun F1 μ1 H1 dx x g1 s1 dv1 h1 => ?_
  split at h1
  · rename_i b e
    exact ⟨b, tru_ok' s1.ok dv1 e, q F1 μ1 H1 b g1 s1 h1⟩
  · exact h1.elim
theorem ttru {X : Cx} {W : WX} {E : EX} {a : Expr} {ta : TE} {wa : WEx} (h : DE X W E a ta wa) (he : ∀ whole, isTrue a X.env whole = (do let v ← whole; standAt a.pos; holding [v] (truthy v)) := by intro _; rfl) : DT X W E a (fun σ H Q => ta σ H fun x H' => ∃ k, TruV X.K x H' k ∧ Q k H') (wTr wa) := ⟨pt_truth h.pe he, dn_tru h.dn⟩

/-! ### what a def promises, over data -/
/-- arguments, cells, what is wanted of the answer, of an exception (its class, its fields) -/
abbrev Ct := List D → Mu → (D → Mu → Prop) → (Addr → List (Str × D) → Mu → Prop) → Prop
def dwn (Q : D → Mu → Prop) (d : D) (μ : Mu) : Prop := ∃ μ', le μ' μ ∧ Q d μ'
def dwx (E : Addr → List (Str × D) → Mu → Prop) (C : Addr) (fs : List (Str × D)) (μ : Mu) : Prop := ∃ μ', le μ' μ ∧ E C fs μ'
theorem dwn.of {Q : D → Mu → Prop} {d : D} {μ : Mu} (h : Q d μ) : dwn Q d μ := ⟨μ, le.refl, h⟩
theorem dwx.of {E : Addr → List (Str × D) → Mu → Prop} {C : Addr} {fs : List (Str × D)} {μ : Mu} (h : E C fs μ) : dwx E C fs μ := ⟨μ, le.refl, h⟩
def spD (K : PySem.W.Frag) (c : Ct) : Sp := fun vs H Q Ex => ∃ F μ ds Q0 E0, Sok K F μ H ∧ DVs K F ds vs ∧ c ds μ Q0 E0 ∧
  (∀ F' μ' H' d v, Grow F F' → Sok K F' μ' H' → DV K F' d v → dwn Q0 d μ' → Q v H') ∧ ∀ F' μ' H' C dd fs, Grow F F' → Sok K F' μ' H' → ExD K F' dd fs → dwx E0 C fs μ' → Ex (.ref C) dd H'
/-- a call -/
def wCall (c : Ct) (E : EX) (a : WA) : WEx := fun ρ μ Q => a ρ μ fun ds μ1 => c ds μ1 Q fun C fs μ2 => E C fs ρ μ2
section
variable {X : Cx} {W : WX} {E : EX} {k : Nat} {f : Addr} {fd : FuncData} {ps : List Str} {c : Ct} {x : Str} {p pos : Pos} {e : Expr} {es : List Expr} {tas : TA} {was : WA}
theorem dn_call {K : PySem.W.Frag} (ha : DnA K W E tas was) : Dn K W E (tCallS (spD K c) (WE W) tas) (wCall c E was) := by
  intro F μ H ρ σ Q0 Q s h q
  refine ha F μ H ρ σ _ _ s h fun F1 μ1 H1 ds vs g1 s1 dv h1 => ?_
  refine ⟨F1, μ1, ds, _, _, s1.ok, dv, h1, fun F2 μ2 H2 d v g2 s2 dv2 ⟨μ3, l, h2⟩ => ?_, fun F2 μ2 H2 C dd fs g2 s2 ex ⟨μ3, l, h2⟩ => ?_⟩
  · exact q F2 μ3 H2 d v (g1.trans g2) ((s1.mono g2 s2).weak l) dv2 h2
  · exact s1.wok F2 μ3 H2 ρ σ C dd fs g2 (s2.weak l) (s1.env.mono g2) ex h2
theorem ecall (tk : L2N.Takes X W) (F : FnOk X.prog X.w X.K X.mg X.base (L2N.CX X.prog X.w) k f fd ps (spD X.K c)) (hr : Room k X.A) (hm : X.mg x = some (.ref f)) (hk : PySem.W.keepIn X.K (.ref f) = true) (hb : Binds X.K fd ps []) (ha : DA X W E (e :: es) tas was)
    (hg : Gl X x := by rfl) (hdb : (x == ("__debug__" : Str)) = false := by decide) (he : starEach (e :: es) X.env = (false, eval e X.env) :: starEach es X.env := by rfl) (hpl : (backTo pos (starEach es X.env)).any (·.1) = false := by rfl) :
    DE X W E (.Call (.Name x p) (e :: es) [] pos) (tCallS (spD X.K c) (WE W) tas) (wCall c E was) := ⟨pe_callS F hr hg hm hk hb (fun σ => L2N.passAt tk σ) ha.pe hdb he hpl, dn_call ha.dn⟩
end
/-- the slots at a def's entry -/
def st0 (n : Nat) (ds : List D) : En := ds.map some ++ List.replicate (n - ds.length) none
theorem env_start {K : PySem.W.Frag} {F : Hp} {N : List Str} {ds : List D} {vs : List V} (h : DVs K F ds vs) (hl : ds.length ≤ N.length) : EnvOk K F (st0 N.length ds) (L2.start N vs) := by
  have el := h.len
  refine ⟨?_, fun i d e => ?_⟩
  · unfold st0 L2.start
    rw [List.length_append, List.length_append, List.length_map, List.length_map, List.length_replicate, List.length_replicate, el]
  · unfold st0 at e
    by_cases hi : i < ds.length
    · rw [List.getElem?_append_left (by simpa using hi), List.getElem?_map] at e
      cases q : ds[i]? with
      | none => rw [q] at e; cases e
      | some d' =>
        rw [q] at e; cases e
        obtain ⟨v, e1, dv⟩ := h.get q
        refine ⟨v, ?_, dv⟩
        unfold L2.start
        rw [List.getElem?_append_left (by simp [el, hi]), List.getElem?_map, e1]
        rfl
    · rw [List.getElem?_append_right (by simpa using hi), List.getElem?_replicate] at e
      split at e <;> cases e
def rets (Q : D → Mu → Prop) : DEnds := { nx := fun _ μ => dwn Q .non μ, rt := fun d μ => dwn Q d μ }
section
variable {P : Program} {w : World} {K : PySem.W.Frag} {mg : Str → Option Value} {base : Heap}
/-- THE RULE for a def -/
theorem okD {x qual : Str} {st : Stmt} {f : Addr} {fd : FuncData} {N ps : List Str} {k : Nat} {c : Ct} (F : Fun K x qual st f fd) (S : FnScope N ps (defScope st)) (hn : ps.length ≤ N.length) (hl : ∀ ds μ Q E, c ds μ Q E → ds.length = ps.length)
    (hb : ∀ (X : Cx) (W : WX) (E : EX) (cdv : Value) (A : Around) (outer : List Env) (s : Shared) (H : Hp) (Ex : XK), X = cxOf (L2N.CX P w) P w K mg base N qual (defScope st) f cdv A outer s H Ex → L2N.Takes X W → PassesOwn (model X.prog X.w) X.A X.env X.xe → Room k X.A →
      ∃ t ws, DSs X W E (defBody st) t ws ∧ ∀ ds μ Q E0, c ds μ Q E0 → E = (fun C fs _ μ => dwx E0 C fs μ) → ws (rets Q) (st0 N.length ds) μ) : FnOk P w K mg base (L2N.CX P w) (k + 1) f fd ps (spD K c) := by
  obtain ⟨oc, od, kV, dc, pm, an, cdv, ct, sl, rfl, lk, hcd⟩ := F.ex
  refine fn_of lk hcd S (fun vs H Q E h => ?_) (fun A outer s H vs Q Ex hr h => ?_)
  · obtain ⟨F, μ, ds, Q0, E0, _, dv, hc, _⟩ := h
    rw [dv.len]; exact hl _ _ _ _ hc
  · obtain ⟨F0, μ, ds, Q0, E0, sk, dv, hc, hq, he⟩ := h
    obtain ⟨t, ws, hd, hw⟩ := hb _ (fun cls d _ H => Ex cls d H) (fun C fs _ μ => dwx E0 C fs μ) cdv A outer s H Ex rfl (L2N.takes_of rfl rfl rfl rfl) (passes_of rfl) hr
    refine ⟨t, hd.pe, hd.dn F0 μ H _ _ (rets Q0) _ ⟨sk, env_start dv (by rw [hl _ _ _ _ hc]; exact hn), fun F' μ' H' ρ σ C d fs g s' _ ex h' => he F' μ' H' C d fs g s' ex h'⟩ (hw ds μ Q0 E0 hc rfl) ⟨fun F' μ' H' ρ' σ' g s' h' => ?_, fun F' μ' H' d v g s' dv' h' => ?_, fun F' μ' H' ρ' σ' g s' h' => ?_, fun F' μ' H' ρ' σ' g s' h' => ?_⟩⟩
    · exact hq F' μ' H' .non .non g s'.ok rfl h'
    · exact hq F' μ' H' d v g s' dv' h'
    · exact h'.elim
    · exact h'.elim
end

/-! ### raise, try -/
/-- raise C() -/
def wRaise (C : Addr) (E : EX) : WS := fun _ ρ μ => E C [] ρ μ
theorem sraise0 {X : Cx} {W : WX} {E : EX} {C : Addr} {e : Expr} {pos : Pos} (tk : L2N.Takes X W) (hp : L2N.PMk X e (fun _ H Q => Q (.ref C) none H)) (hc : X.calm = true := by rfl) : DS X W E (.Raise (some e) none pos) (fun _ σ H => W (.ref C) none σ H) (wRaise C E) :=
  ⟨L2N.ps_raise hc tk hp, fun F μ H ρ σ D0 Ds s h e => s.wok F μ H ρ σ C none [] Grow.refl s.ok s.env (.inl ⟨rfl, rfl⟩) h⟩
end DL
set_option maxHeartbeats 4000000
namespace DL
open PySem L2 PySem.Spec PyProof.Rows

/-! ### defs by their names -/
structure DfOk (P : Program) (w : World) (K : PySem.W.Frag) (mg : Str → Option Value) (base : Heap) (x : Str) (k : Nat) (ps : List Str) (c : Ct) : Prop where
  ex : ∃ f fd, FnOk P w K mg base (L2N.CX P w) k f fd ps (spD K c) ∧ mg x = some (.ref f) ∧ PySem.W.keepIn K (.ref f) = true ∧ Binds K fd ps []
structure Dfn (K : PySem.W.Frag) (mg : Str → Option Value) (x qual : Str) (st : Stmt) (ps : List Str) : Prop where
  ex : ∃ f fd, Fun K x qual st f fd ∧ mg x = some (.ref f) ∧ Binds K fd ps []
section
variable {X : Cx} {W : WX} {E : EX} {k : Nat} {ps : List Str} {c : Ct} {x : Str} {p pos : Pos} {e : Expr} {es : List Expr} {tas : TA} {was : WA}
theorem ecall2 (tk : L2N.Takes X W) (h : DfOk X.prog X.w X.K X.mg X.base x k ps c) (hr : Room k X.A) (ha : DA X W E (e :: es) tas was)
    (hg : Gl X x := by rfl) (hdb : (x == ("__debug__" : Str)) = false := by decide) (he : starEach (e :: es) X.env = (false, eval e X.env) :: starEach es X.env := by rfl) (hpl : (backTo pos (starEach es X.env)).any (·.1) = false := by rfl) :
    DE X W E (.Call (.Name x p) (e :: es) [] pos) (tCallS (spD X.K c) (WE W) tas) (wCall c E was) := by
  obtain ⟨f, fd, G, hm, hk, hb⟩ := h.ex
  exact ecall tk G hr hm hk hb ha hg hdb he hpl
end

/-! ### an own exception class without __init__ -/
structure Xc (K : PySem.W.Frag) (mg : Str → Option Value) (x : Str) (C : Addr) : Prop where
  g : mg x = some (.ref C)
  k : PySem.W.keepIn K (.ref C) = true
  q : PySem.W.excIn K C [.type "ValueError", .type "Exception", .type "BaseException", .type "object"] "ValueError.__new__" = true
  b : PySem.W.subIn K (.ref C) (.type "BaseException") = some true
  t : PySem.W.typeIn K (.ref C) = some (.type "type")
theorem pmk_own0 {X : Cx} {C : Addr} {x : Str} {p pos : Pos} (T : Xc X.K X.mg x C) (hg : Gl X x := by rfl) (hdb : (x == ("__debug__" : Str)) = false := by decide) : L2N.PMk X (.Call (.Name x p) [] [] pos) (fun _ H Q => Q (.ref C) none H) := by
  intro pins s σ H Q I h
  refine wpAny_Call_Name_kw (ld_glob I hg T.g ?_ hdb)
  refine PySem.W.callWith_K0 I.kIn T.k ?_
  obtain ⟨bm, N, nm, qn, bs, hdct, sn, sub, ab, col, dd, k0, k1, k2, k3, k5, mN, hC, hN, hni, U⟩ := exc_obj I.kIn T.q
  obtain ⟨hp1, g1, d1, tk1, os1⟩ := s
  show wpAny _ _ (call (.ref C) []) _ _ _
  exact wpAny_call_exc_subT PySem.F.excBase_ValueError U hC hN hni (fun h' e' hm => L2N.mk_of I hm (raises_own T.b T.t) h (I.hok.gone hm.new)) (Nat.zero_le _)
end DL
set_option maxHeartbeats 4000000
namespace DL
open PySem L2 PySem.Spec PyProof.Rows
/-! ### words for the pure part -/
theorem if_dec {p : Prop} [Decidable p] {a b : Prop} : (if decide p = true then a else b) = (if p then a else b) := by simp only [decide_eq_true_eq]
theorem atI_0 {α : Type} {l : List α} {i : Nat} : atI l (i : Int) = l[i]? := by
  unfold atI ixN
  rw [if_pos (by omega)]
  by_cases h : (i : Int) < l.length
  · rw [if_pos h]; simp
  · rw [if_neg h, List.getElem?_eq_none (by omega)]; rfl
theorem atI_c0 {α : Type} {a : α} {l : List α} : atI (a :: l) 0 = some a := atI_0 (i := 0)
theorem atI_c1 {α : Type} {a b : α} {l : List α} : atI (a :: b :: l) 1 = some b := atI_0 (i := 1)
theorem atI_c2 {α : Type} {a b c : α} {l : List α} : atI (a :: b :: c :: l) 2 = some c := atI_0 (i := 2)
theorem atI_c3 {α : Type} {a b c d : α} {l : List α} : atI (a :: b :: c :: d :: l) 3 = some d := atI_0 (i := 3)
theorem atI_c4 {α : Type} {a b c d e : α} {l : List α} : atI (a :: b :: c :: d :: e :: l) 4 = some e := atI_0 (i := 4)
theorem atI_c5 {α : Type} {a b c d e f : α} {l : List α} : atI (a :: b :: c :: d :: e :: f :: l) 5 = some f := atI_0 (i := 5)
theorem atI_c6 {α : Type} {a b c d e f g : α} {l : List α} : atI (a :: b :: c :: d :: e :: f :: g :: l) 6 = some g := atI_0 (i := 6)
theorem ixN_70 : ixN 7 0 = some 0 := rfl
theorem ixN_71 : ixN 7 1 = some 1 := rfl
theorem ixN_72 : ixN 7 2 = some 2 := rfl
theorem ixN_73 : ixN 7 3 = some 3 := rfl
theorem ixN_74 : ixN 7 4 = some 4 := rfl
theorem ixN_75 : ixN 7 5 = some 5 := rfl
theorem ixN_76 : ixN 7 6 = some 6 := rfl
theorem ite_T {a b : Prop} : (if true = true then a else b) = a := by simp
theorem ite_F {a b : Prop} : (if false = true then a else b) = b := by simp
theorem eqF_int {a b : Int} : eqF (.int a) (.int b) = decide (a = b) := by show (a == b) = _; by_cases h : a = b <;> simp [h]
theorem eqF_bl {a b : Bool} : eqF (.bl a) (.bl b) = (a == b) := rfl
theorem eqF_str {a b : Str} : eqF (.str a) (.str b) = decide (a = b) := by show (a == b) = _; by_cases h : a = b <;> simp [h]
theorem scal_int {a b : Int} : scalD (.int a) (.int b) = true := rfl
theorem scal_bl {a b : Bool} : scalD (.bl a) (.bl b) = true := rfl
theorem scal_str {a b : Str} : scalD (.str a) (.str b) = true := rfl
theorem if_ndec {p : Prop} [Decidable p] {a b : Prop} : (if (!decide p) = true then a else b) = (if p then b else a) := by by_cases h : p <;> simp [h]
theorem if_nb {p : Bool} {a b : Prop} : (if (!p) = true then a else b) = (if p = true then b else a) := by cases p <;> simp

/-! ### division of any size -/
theorem op_fdivG {X : Cx} (PR : ∀ pins σ H s, Inv X pins σ H s → PylongRoom (model X.prog X.w) X.A s) : OpR X (binaryOp .FloorDiv) (rI (fun _ j => j ≠ 0) fun i j => .int (i.fdiv j)) := by
  intro pins s σ H x y v u Q I rx ry h
  obtain ⟨i, j, rfl, rfl, hj, q⟩ := h
  obtain ⟨t, rfl⟩ := rx
  obtain ⟨t', rfl⟩ := ry
  exact PyProof.Rows.floordiv_int hj ⟨.int _, H, I.tok _, ⟨_, rfl⟩, q⟩ (.inr (PR pins σ H s I))
def fDivG : F2 := fI (fun _ j => j ≠ 0) fun i j => .int (i.fdiv j)
theorem do_divG {K : PySem.W.Frag} : DOp K (rI (fun _ j => j ≠ 0) fun i j => .int (i.fdiv j)) fDivG := do_I fun _ _ => rfl
theorem pyroom {X : Cx} (hS : X.base.NoSeer) (ht : X.prog.given.tree = none) (hst : X.stack = X.env :: X.outer) (hgen : X.env.scope.isGenerator = false) (hco : X.env.scope.isCoroutine = false) (hr : Room 35 X.A) :
    ∀ pins σ H s, Inv X pins σ H s → PylongRoom (model X.prog X.w) X.A s := fun pins σ H s I => by
  have hd : X.A.depth + Builtin.pylongFrames < recursionLimit := by
    have := hr.dp
    have e : Builtin.pylongFrames = 100 := rfl
    omega
  exact PylongRoom.of I.nolimit hd (SeerAt.of (hS.keeps I.bk) ht (by rw [I.ok.frames, hst]) hgen hco I.ok.blt I.ok.glob)
section
variable {X : Cx} {W : WX} {E : EX} {a b : Expr} {ta tb : TE} {wa wb : WEx} {pos : Pos}
theorem edivG (PR : ∀ pins σ H s, Inv X pins σ H s → PylongRoom (model X.prog X.w) X.A s) (ha : DE X W E a ta wa) (hb : DE X W E b tb wb) : DE X W E (.BinOp a .FloorDiv b pos) (tOp (rI (fun _ j => j ≠ 0) fun i j => .int (i.fdiv j)) ta tb) (wOp fDivG wa wb) := eo (op_fdivG PR) do_divG ha hb
end
/-! ### sizes -/
def Bd (n : Nat) (x : Int) : Prop := x.natAbs < 2 ^ n
theorem Bd.mono {n m : Nat} {x : Int} (h : Bd n x) (l : n ≤ m) : Bd m x := Nat.lt_of_lt_of_le h (Nat.pow_le_pow_right (by decide) l)
theorem Bd.mul {n m : Nat} {x y : Int} (h : Bd n x) (h' : Bd m y) : Bd (n + m) (x * y) := wide_lt h h'
theorem Bd.add {n : Nat} {x y : Int} (h : Bd n x) (h' : Bd n y) : Bd (n + 1) (x + y) := by
  unfold Bd at *
  rw [Nat.pow_succ]
  omega
theorem Bd.sub {n : Nat} {x y : Int} (h : Bd n x) (h' : Bd n y) : Bd (n + 1) (x - y) := by
  unfold Bd at *
  rw [Nat.pow_succ]
  omega
theorem Bd.le {n : Nat} {x y : Int} (h : Bd n x) (l : y.natAbs ≤ x.natAbs) : Bd n y := Nat.lt_of_le_of_lt l h
theorem mulOk {n m : Nat} {x y : Int} (h : Bd n x) (h' : Bd m y) (l : n + m ≤ 999998) : MulOk x y :=
  ⟨(wide_mul (Bd.mono h (Nat.le_succ n)) (Bd.mono h' (Nat.le_succ m)) (Nat.succ_pos _) (Nat.succ_pos _) (by omega)).ok⟩
theorem mulL {x y : Int} (h : -(2 ^ 64) < x ∧ x < 2 ^ 64) : MulOk x y := ⟨CMul.ok (.inl h)⟩
theorem mulR {x y : Int} (h : -(2 ^ 64) < y ∧ y < 2 ^ 64) : MulOk x y := ⟨CMul.ok (.inr h)⟩
theorem atI_in {α : Type} {l : List α} {i : Int} (h0 : 0 ≤ i) (h1 : i < l.length) : ∃ d, atI l i = some d ∧ d ∈ l ∧ l[i.toNat]? = some d := by
  have e : atI l i = l[i.toNat]? := by
    have := atI_0 (l := l) (i := i.toNat)
    rw [Int.toNat_of_nonneg h0] at this
    exact this
  have h2 : i.toNat < l.length := by omega
  exact ⟨l[i.toNat], by rw [e]; exact List.getElem?_eq_getElem h2, List.getElem_mem h2, List.getElem?_eq_getElem h2⟩
end DL
set_option maxHeartbeats 4000000
namespace DL
open PySem L2 PySem.Spec PyProof.Rows
/-! ### calls with defaults and keywords -/
structure CB (K : PySem.W.Frag) (fd : FuncData) (ps : List Str) (n : Nat) (ks : List Str) (gV : List V → List V → List V) : Prop where
  ex : ∃ g : List Value → List Value → List Value, (∀ (s : Shared) (us ws : List Value), K.In s.heap → us.length = n → ws.length = ks.length → BindsTo s fd ⟨us, ks.zip ws⟩ (ps.zip (g us ws))) ∧
    ∀ {vs : List V} {us : List Value} {zs : List V} {ws : List Value}, vs.length = n → zs.length = ks.length → Vals vs us → Vals zs ws → Vals (gV vs zs) (g us ws)
structure DfG (P : Program) (w : World) (K : PySem.W.Frag) (mg : Str → Option Value) (base : Heap) (x : Str) (k : Nat) (ps : List Str) (n : Nat) (ks : List Str) (gV : List V → List V → List V) (c : Ct) : Prop where
  ex : ∃ f fd, FnOk P w K mg base (L2N.CX P w) k f fd ps (spD K c) ∧ mg x = some (.ref f) ∧ PySem.W.keepIn K (.ref f) = true ∧ CB K fd ps n ks gV
def tCallG (n m : Nat) (sp : Sp) (gV : List V → List V → List V) (E : L2.St → XK) (t tk : TA) : TE := fun σ H Q => t σ H fun vs H1 => tk σ H1 fun zs H2 => vs.length = n ∧ zs.length = m ∧ sp (gV vs zs) H2 Q (E σ)
section
variable {X : Cx} {CX : CXT} {k n : Nat} {f : Addr} {fd : FuncData} {ps ks : List Str} {sp : Sp} {E : L2.St → XK} {x : Str} {p pos : Pos} {e : Expr} {es : List Expr} {kws : List Keyword} {t tk : TA} {gV : List V → List V → List V}
theorem run_cb {pins : List (Addr × Obj)} {σ : L2.St} {H : Hp} {s : Shared} {Q : VK} {us ws : List Value} {vs zs : List V} (F : FnOk X.prog X.w X.K X.mg X.base CX k f fd ps sp) (hr : Room k X.A) (hb : CB X.K fd ps n ks gV) (hx : PassesAt CX X σ (E σ))
    (I : Inv X pins σ H s) (r : Vals vs us) (rz : Vals zs ws) (l1 : vs.length = n) (l2 : zs.length = ks.length) (h : sp (gV vs zs) H Q (E σ)) : wpAny (model X.prog X.w) X.A (call (.ref f) us (ks.zip ws)) (EP X pins σ Q) X.xe s := by
  obtain ⟨g, b1, b2⟩ := hb.ex
  have run := F.run X.A X.stack s H ⟨us, ks.zip ws⟩ (g us ws) (gV vs zs) Q (E σ) hr I.env0 (b1 s us ws I.kIn (by rw [← r.length]; exact l1) (by rw [← rz.length]; exact l2)) (b2 l1 l2 r rz) h
  refine wpAny_call (codeAny_mono run fun res s' hq => ?_)
  match res, hq with
  | .error er, hq => exact hx pins H s er s' I hq
  | .ok (.ret u), hq => exact I.after hq
theorem pe_cb (F : FnOk X.prog X.w X.K X.mg X.base CX k f fd ps sp) (hr : Room k X.A) (hg : Gl X x) (hm : X.mg x = some (.ref f)) (hk : PySem.W.keepIn X.K (.ref f) = true) (hb : CB X.K fd ps n [] gV) (hx : ∀ σ, PassesAt CX X σ (E σ))
    (ha : PA X (e :: es) t) (hdb : (x == ("__debug__" : Str)) = false := by decide) (he : starEach (e :: es) X.env = (false, eval e X.env) :: starEach es X.env := by rfl) (hpl : (backTo pos (starEach es X.env)).any (·.1) = false := by rfl) :
    PE X (.Call (.Name x p) (e :: es) [] pos) (tCallG n 0 sp gV E t tNil) := by
  refine ⟨fun pins s σ H Q I h => wpAny_Call_Name_kw (ld_glob I hg hm ?_ hdb)⟩
  refine PySem.W.callWith_K (h₀ := X.base) I.ok.mod.kin hk (thn (ha.run pos pins s σ H _ I h) fun us s1 hh => ?_) he hpl
  obtain ⟨vs, H1, I1, r, l1, _, q⟩ := hh
  exact ⟨I1.kIn, run_cb (ks := []) (ws := []) (zs := []) F hr hb (hx σ) I1 r .nil l1 rfl q⟩
theorem pe_cbK (F : FnOk X.prog X.w X.K X.mg X.base CX k f fd ps sp) (hr : Room k X.A) (hg : Gl X x) (hm : X.mg x = some (.ref f)) (hk : PySem.W.keepIn X.K (.ref f) = true) (hb : CB X.K fd ps n ks gV) (hx : ∀ σ, PassesAt CX X σ (E σ))
    (ha : PA X (e :: es) t) (hkw : PK X kws tk) (hks : (backToKw pos (keywordEach kws X.env)).filterMap (·.1) = ks := by rfl) (hall : (backToKw pos (keywordEach kws X.env)).all (·.1.isSome) = true := by rfl)
    (hdb : (x == ("__debug__" : Str)) = false := by decide) (he : starEach (e :: es) X.env = (false, eval e X.env) :: starEach es X.env := by rfl)
    (hpl : ((backTo pos (starEach (e :: es) X.env)).any (·.1) || (backToKw pos (keywordEach kws X.env)).any (·.1.isNone)) = false := by rfl) :
    PE X (.Call (.Name x p) (e :: es) kws pos) (tCallG n ks.length sp gV E t tk) := by
  refine ⟨fun pins s σ H Q I h => wpAny_Call_Name_kw (ld_glob I hg hm ?_ hdb)⟩
  refine PySem.W.callWith_KW (h₀ := X.base) I.ok.mod.kin hk hall (thn (ha.run pos pins s σ H _ I h) fun us s1 hh => ?_) hpl he
  obtain ⟨vs, H1, I1, r, q⟩ := hh
  refine thn (hkw.run pos pins s1 σ H1 _ I1 q) fun ws s2 hh2 => ?_
  obtain ⟨zs, H2, I2, rz, l1, l2, q2⟩ := hh2
  refine ⟨I2.kIn, ?_⟩
  rw [hks]
  exact run_cb F hr hb (hx σ) I2 r rz l1 l2 q2
theorem pe_cbK0 (F : FnOk X.prog X.w X.K X.mg X.base CX k f fd ps sp) (hr : Room k X.A) (hg : Gl X x) (hm : X.mg x = some (.ref f)) (hk : PySem.W.keepIn X.K (.ref f) = true) (hb : CB X.K fd ps 0 ks gV) (hx : ∀ σ, PassesAt CX X σ (E σ))
    (hkw : PK X kws tk) (hks : (backToKw pos (keywordEach kws X.env)).filterMap (·.1) = ks := by rfl) (hall : (backToKw pos (keywordEach kws X.env)).all (·.1.isSome) = true := by rfl)
    (hdb : (x == ("__debug__" : Str)) = false := by decide)
    (hpl : ((backTo pos (starEach [] X.env)).any (·.1) || (backToKw pos (keywordEach kws X.env)).any (·.1.isNone)) = false := by rfl) :
    PE X (.Call (.Name x p) [] kws pos) (tCallG 0 ks.length sp gV E tNil tk) := by
  refine ⟨fun pins s σ H Q I h => wpAny_Call_Name_kw (ld_glob I hg hm ?_ hdb)⟩
  refine PySem.W.callWith_KW0 (h₀ := X.base) I.ok.mod.kin hk hall (thn (hkw.run pos pins s σ H _ I h) fun ws s2 hh2 => ?_) hpl
  obtain ⟨zs, H2, I2, rz, l1, l2, q2⟩ := hh2
  refine ⟨I2.kIn, ?_⟩
  rw [hks]
  exact run_cb F hr hb (hx σ) I2 .nil rz l1 l2 q2
end
structure DK (X : Cx) (W : WX) (E : EX) (kws : List Keyword) (t : TA) (w : WA) : Prop where
  pe : PK X kws t
  dn : DnA X.K W E t w
def wCallG (n m : Nat) (c : Ct) (gD : List D → List D → List D) (E : EX) (a k : WA) : WEx := fun ρ μ Q => a ρ μ fun ds μ1 => k ρ μ1 fun es μ2 => ds.length = n ∧ es.length = m ∧ c (gD ds es) μ2 Q fun C fs μ3 => E C fs ρ μ3
/-- how data follow values -/
def GD (K : PySem.W.Frag) (n m : Nat) (gV : List V → List V → List V) (gD : List D → List D → List D) : Prop := ∀ F ds es vs zs, ds.length = n → es.length = m → DVs K F ds vs → DVs K F es zs → DVs K F (gD ds es) (gV vs zs)
section
variable {X : Cx} {W : WX} {E : EX} {k n : Nat} {ps ks : List Str} {c : Ct} {x nm : Str} {p pos kpos : Pos} {e : Expr} {es : List Expr} {kws : List Keyword} {ta : TE} {wa : WEx} {tas tks : TA} {was wks : WA} {gV : List V → List V → List V} {gD : List D → List D → List D}
theorem knil : DK X W E [] tNil wNil := ⟨pk_nil, dn_nil⟩
theorem kcons (ha : DE X W E e ta wa) (hr : DK X W E kws tks wks) (hp : PE X e ta → PK X kws tks → PK X (⟨nm, e, kpos⟩ :: kws) (tCons ta tks) := by exact fun a b => pk_cons a b) : DK X W E (⟨nm, e, kpos⟩ :: kws) (tCons ta tks) (wCons wa wks) := ⟨hp ha.pe hr.pe, dn_cons ha.dn hr.dn⟩
theorem dn_callG {K : PySem.W.Frag} {n m : Nat} (hG : GD K n m gV gD) (ha : DnA K W E tas was) (hk : DnA K W E tks wks) : Dn K W E (tCallG n m (spD K c) gV (WE W) tas tks) (wCallG n m c gD E was wks) := by
  intro F μ H ρ σ Q0 Q s h q
  refine ha F μ H ρ σ _ _ s h fun F1 μ1 H1 ds vs g1 s1 dv h1 => ?_
  refine hk F1 μ1 H1 ρ σ _ _ s1 h1 fun F2 μ2 H2 es zs g2 s2 dz h2 => ?_
  obtain ⟨l1, l2, h3⟩ := h2
  refine ⟨by rw [dv.len]; exact l1, by rw [dz.len]; exact l2, F2, μ2, gD ds es, _, _, s2.ok, hG F2 ds es vs zs l1 l2 (dv.mono g2) dz, h3, fun F3 μ3 H3 d v g3 s3 dv2 hd => ?_, fun F3 μ3 H3 C dd fs g3 s3 ex hd => ?_⟩
  · obtain ⟨μ4, l, h4⟩ := hd
    exact q F3 μ4 H3 d v (g1.trans (g2.trans g3)) ((s2.mono g3 s3).weak l) dv2 h4
  · obtain ⟨μ4, l, h4⟩ := hd
    exact s2.wok F3 μ4 H3 ρ σ C dd fs g3 (s3.weak l) (s2.env.mono g3) ex h4
theorem ecallD (tk : L2N.Takes X W) (h : DfG X.prog X.w X.K X.mg X.base x k ps n [] gV c) (hG : GD X.K n 0 gV gD) (hr : Room k X.A) (ha : DA X W E (e :: es) tas was)
    (hg : Gl X x := by rfl) (hdb : (x == ("__debug__" : Str)) = false := by decide) (he : starEach (e :: es) X.env = (false, eval e X.env) :: starEach es X.env := by rfl) (hpl : (backTo pos (starEach es X.env)).any (·.1) = false := by rfl) :
    DE X W E (.Call (.Name x p) (e :: es) [] pos) (tCallG n 0 (spD X.K c) gV (WE W) tas tNil) (wCallG n 0 c gD E was wNil) := by
  obtain ⟨f, fd, G, hm, hk, hb⟩ := h.ex
  exact ⟨pe_cb G hr hg hm hk hb (fun σ => L2N.passAt tk σ) ha.pe hdb he hpl, dn_callG hG ha.dn dn_nil⟩
theorem ecallK (tk : L2N.Takes X W) (h : DfG X.prog X.w X.K X.mg X.base x k ps n ks gV c) (hG : GD X.K n ks.length gV gD) (hr : Room k X.A) (ha : DA X W E (e :: es) tas was) (hkw : DK X W E kws tks wks)
    (hg : Gl X x := by rfl) (hks : (backToKw pos (keywordEach kws X.env)).filterMap (·.1) = ks := by rfl) (hall : (backToKw pos (keywordEach kws X.env)).all (·.1.isSome) = true := by rfl) (hdb : (x == ("__debug__" : Str)) = false := by decide) (he : starEach (e :: es) X.env = (false, eval e X.env) :: starEach es X.env := by rfl)
    (hpl : ((backTo pos (starEach (e :: es) X.env)).any (·.1) || (backToKw pos (keywordEach kws X.env)).any (·.1.isNone)) = false := by rfl) :
    DE X W E (.Call (.Name x p) (e :: es) kws pos) (tCallG n ks.length (spD X.K c) gV (WE W) tas tks) (wCallG n ks.length c gD E was wks) := by
  obtain ⟨f, fd, G, hm, hk, hb⟩ := h.ex
  exact ⟨pe_cbK G hr hg hm hk hb (fun σ => L2N.passAt tk σ) ha.pe hkw.pe hks hall hdb he hpl, dn_callG hG ha.dn hkw.dn⟩
theorem ecallK0 (tk : L2N.Takes X W) (h : DfG X.prog X.w X.K X.mg X.base x k ps 0 ks gV c) (hG : GD X.K 0 ks.length gV gD) (hr : Room k X.A) (hkw : DK X W E kws tks wks)
    (hg : Gl X x := by rfl) (hks : (backToKw pos (keywordEach kws X.env)).filterMap (·.1) = ks := by rfl) (hall : (backToKw pos (keywordEach kws X.env)).all (·.1.isSome) = true := by rfl) (hdb : (x == ("__debug__" : Str)) = false := by decide)
    (hpl : ((backTo pos (starEach [] X.env)).any (·.1) || (backToKw pos (keywordEach kws X.env)).any (·.1.isNone)) = false := by rfl) :
    DE X W E (.Call (.Name x p) [] kws pos) (tCallG 0 ks.length (spD X.K c) gV (WE W) tNil tks) (wCallG 0 ks.length c gD E wNil wks) := by
  obtain ⟨f, fd, G, hm, hk, hb⟩ := h.ex
  exact ⟨pe_cbK0 G hr hg hm hk hb (fun σ => L2N.passAt tk σ) hkw.pe hks hall hdb hpl, dn_callG hG dn_nil hkw.dn⟩
end
section
variable {P : Program} {w : World} {K : PySem.W.Frag} {mg : Str → Option Value} {base : Heap}
/-- the rule for a def with defaults -/
theorem okDD {x qual : Str} {st : Stmt} {f : Addr} {fd : FuncData} {dvs : List V} {kwd : List (Str × V)} {N ps : List Str} {k : Nat} {c : Ct} (F : FunD K x qual (defArgs st) (defBody st) (defScope st) dvs kwd f fd) (S : FnScope N ps (defScope st)) (hn : ps.length ≤ N.length) (hl : ∀ ds μ Q E, c ds μ Q E → ds.length = ps.length)
    (hb : ∀ (X : Cx) (W : WX) (E : EX) (cdv : Value) (A : Around) (outer : List Env) (s : Shared) (H : Hp) (Ex : XK), X = cxOf (L2N.CX P w) P w K mg base N qual (defScope st) f cdv A outer s H Ex → L2N.Takes X W → PassesOwn (model X.prog X.w) X.A X.env X.xe → Room k X.A →
      ∃ t ws, DSs X W E (defBody st) t ws ∧ ∀ ds μ Q E0, c ds μ Q E0 → E = (fun C fs _ μ => dwx E0 C fs μ) → ws (rets Q) (st0 N.length ds) μ) : FnOk P w K mg base (L2N.CX P w) (k + 1) f fd ps (spD K c) := by
  refine F.ok S (fun vs H Q E h => ?_) (fun cdv A outer s H vs Q Ex hr h => ?_)
  · obtain ⟨F, μ, ds, Q0, E0, _, dv, hc, _⟩ := h
    rw [dv.len]; exact hl _ _ _ _ hc
  · obtain ⟨F0, μ, ds, Q0, E0, sk, dv, hc, hq, he⟩ := h
    obtain ⟨t, ws, hd, hw⟩ := hb _ (fun cls d _ H => Ex cls d H) (fun C fs _ μ => dwx E0 C fs μ) cdv A outer s H Ex rfl (L2N.takes_of rfl rfl rfl rfl) (passes_of rfl) hr
    refine ⟨t, hd.pe, hd.dn F0 μ H _ _ (rets Q0) _ ⟨sk, env_start dv (by rw [hl _ _ _ _ hc]; exact hn), fun F' μ' H' ρ σ C d fs g s' _ ex h' => he F' μ' H' C d fs g s' ex h'⟩ (hw ds μ Q0 E0 hc rfl) ⟨fun F' μ' H' ρ' σ' g s' h' => ?_, fun F' μ' H' d v g s' dv' h' => ?_, fun F' μ' H' ρ' σ' g s' h' => h'.elim, fun F' μ' H' ρ' σ' g s' h' => h'.elim⟩⟩
    · exact hq F' μ' H' .non .non g s'.ok rfl h'
    · exact hq F' μ' H' d v g s' dv' h'
end
end DL
set_option maxHeartbeats 4000000
namespace DL
open PySem L2 PySem.Spec PyProof.Rows
/-! ### never reached -/
theorem snever {X : Cx} {W : WX} {E : EX} {sts : List Stmt} : DSs X W E sts tNever wNever := ⟨pss_never, dn_never⟩
/-! ### slices -/
abbrev WO := En → Mu → (Option Int → Mu → Prop) → Prop
def oNo : WO := fun _ μ Q => Q none μ
def oSo (a : WEx) : WO := fun ρ μ Q => a ρ μ fun d μ1 => match d with
  | .int i => Q (some i) μ1
  | _ => False
def DnO (K : PySem.W.Frag) (W : WX) (E : EX) (t : TO) (w : WO) : Prop := ∀ F μ H ρ σ (Q0 : Option Int → Mu → Prop) (Q : Option Int → Hp → Prop), S0 K W E F μ H ρ σ → w ρ μ Q0 → (∀ F' μ' H' o, Grow F F' → S0 K W E F' μ' H' ρ σ → Q0 o μ' → Q o H') → t σ H Q
structure DO (X : Cx) (W : WX) (E : EX) (e : Option Expr) (t : TO) (w : WO) : Prop where
  pe : PO X e t
  dn : DnO X.K W E t w
def cutD (xs : List D) (lo hi : Option Int) : List D := (xs.drop (HT.sIx xs.length 0 lo)).take (HT.sIx xs.length xs.length hi - HT.sIx xs.length 0 lo)
def wSl (f : D → Option Int → Option Int → Mu → (D → Mu → Prop) → Prop) (a : WEx) (l u : WO) : WEx := fun ρ μ Q => a ρ μ fun d μ1 => l ρ μ1 fun i μ2 => u ρ μ2 fun j μ3 => f d i j μ3 Q
/-- of a list: a new list for good -/
def lvr (μ : Mu) : D → Option (List D)
  | .lst l => some l
  | .lsr l => some l
  | .mut a => match μ a with
    | some (.lst l) => some l
    | _ => none
  | _ => none
def fSlL (d : D) (i j : Option Int) (μ : Mu) (Q : D → Mu → Prop) : Prop := match lvr μ d with
  | some l => Q (.lst (cutD l i j)) μ
  | none => False
def fSlT (d : D) (i j : Option Int) (μ : Mu) (Q : D → Mu → Prop) : Prop := match d with
  | .tup l => ¬ (HT.sIx l.length 0 i = 0 ∧ HT.sIx l.length l.length j = l.length) ∧ Q (.tup (cutD l i j)) μ
  | _ => False
section
variable {X : Cx} {W : WX} {E : EX} {K : PySem.W.Frag} {e : Expr} {te : TE} {we : WEx} {lo hi : Option Expr} {tl th : TO} {wl wh : WO} {pos p2 : Pos}
theorem onone : DO X W E none tNoPart oNo := ⟨po_none, fun F μ H ρ σ Q0 Q s h q => q F μ H none Grow.refl s h⟩
theorem osome (h : DE X W E e te we) : DO X W E (some e) (tPart te) (oSo we) := ⟨po_some h.pe, by
  intro F μ H ρ σ Q0 Q s hh q
  refine h.dn F μ H ρ σ _ _ s hh fun F1 μ1 H1 d v g1 s1 dv h1 => ?_
  split at h1
  · exact ⟨_, dv, q F1 μ1 H1 _ g1 s1 h1⟩
  · exact h1.elim⟩
theorem lvr_ok {F H : Hp} {μ : Mu} {x : D} {v : V} {l : List D} (s : Sok K F μ H) (dv : DV K F x v) (e : lvr μ x = some l) : ∃ a xs, v = .ref a ∧ SqL K H a xs ∧ DVs K F l xs := by
  have gH : Grow F H := s.sub
  unfold lvr at e
  split at e
  · cases e
    obtain ⟨a, xs, rfl, r, dl⟩ := dv
    exact ⟨a, xs, rfl, SqL.of (gH _ _ r), dl⟩
  · cases e
    obtain ⟨a, xs, rfl, r, dl⟩ := dv
    exact ⟨a, xs, rfl, gH.sl r, dl⟩
  · rename_i a
    split at e
    · rename_i l' em
      cases e
      obtain rfl : v = V.ref a := dv
      obtain ⟨_, xs, ho, dl⟩ := s.cel a _ em
      exact ⟨a, xs, rfl, SqL.of ho, dl⟩
    · cases e
  · cases e
theorem cut_dvs {F : Hp} {l : List D} {xs : List V} (h : DVs K F l xs) (i j : Option Int) : DVs K F (cutD l i j) (cutV xs i j) := by
  unfold cutD cutV
  rw [h.len]
  exact (h.drop _).take _
theorem dn_sl {r : V → Option Int → Option Int → Hp → VK → Prop} {f : D → Option Int → Option Int → Mu → (D → Mu → Prop) → Prop}
    (hf : ∀ F μ H x dx i j Q0 (Q : VK), Sok K F μ H → DV K F dx x → f dx i j μ Q0 → (∀ F' μ' H' d v, Grow F F' → Sok K F' μ' H' → DV K F' d v → Q0 d μ' → Q v H') → r x i j H Q)
    (he : Dn K W E te we) (hl : DnO K W E tl wl) (hh : DnO K W E th wh) : Dn K W E (tSl r te tl th) (wSl f we wl wh) := by
  intro F μ H ρ σ Q0 Q s h q
  refine he F μ H ρ σ _ _ s h fun F1 μ1 H1 d v g1 s1 dv h1 => ?_
  refine hl F1 μ1 H1 ρ σ _ _ s1 h1 fun F2 μ2 H2 i g2 s2 h2 => ?_
  refine hh F2 μ2 H2 ρ σ _ _ s2 h2 fun F3 μ3 H3 j g3 s3 h3 => ?_
  refine hf F3 μ3 H3 v d i j Q0 Q s3.ok (dv.mono (g2.trans g3)) h3 fun F4 μ4 H4 d4 v4 g4 s4 dv4 h4 => ?_
  exact q F4 μ4 H4 d4 v4 (g1.trans (g2.trans (g3.trans g4))) (s3.mono g4 s4) dv4 h4
theorem eslL (he : DE X W E e te we) (hl : DO X W E lo tl wl) (hh : DO X W E hi th wh) : DE X W E (.Subscript e (.Slice lo hi none p2) pos) (tSl (rSlL X.K) te tl th) (wSl fSlL we wl wh) :=
  ⟨pe_slice sl_list he.pe hl.pe hh.pe, dn_sl (fun F μ H x dx i j Q0 Q s dv h q => by
    unfold fSlL at h
    split at h
    · rename_i l el
      obtain ⟨a, xs, rfl, r, dl⟩ := lvr_ok s dv el
      refine ⟨a, xs, rfl, r, fun p hp => ?_⟩
      have f := s.free hp
      exact q _ μ _ (.lst _) _ (Grow.new f.1) (s.put hp) ⟨p, _, rfl, upd_same, (cut_dvs dl i j).mono (Grow.new f.1)⟩ h
    · exact h.elim) he.dn hl.dn hh.dn⟩
theorem eslT (he : DE X W E e te we) (hl : DO X W E lo tl wl) (hh : DO X W E hi th wh) : DE X W E (.Subscript e (.Slice lo hi none p2) pos) (tSl (rSlT X.K) te tl th) (wSl fSlT we wl wh) :=
  ⟨pe_slice sl_tup he.pe hl.pe hh.pe, dn_sl (fun F μ H x dx i j Q0 Q s dv h q => by
    unfold fSlT at h
    split at h
    · rename_i l
      obtain ⟨a, xs, rfl, r, dl⟩ := dv
      have gH : Grow F H := s.sub
      refine ⟨a, xs, rfl, gH.st r, by rw [dl.len]; exact h.1, fun p hp => ?_⟩
      have f := s.free hp
      exact q _ μ _ (.tup _) _ (Grow.new f.1) (s.put hp) ⟨p, _, rfl, upd_same, (cut_dvs dl i j).mono (Grow.new f.1)⟩ h.2
    · exact h.elim) he.dn hl.dn hh.dn⟩
end
/-! ### xs + ys -/
/-- of two lists: a new one for good -/
def fCat : F2 := fun x y μ Q => match lv μ x, lv μ y with
  | some l, some m => l.length + m.length ≤ 100000 ∧ Q (.lst (l ++ m)) μ
  | _, _ => False
theorem lv_ok {K : PySem.W.Frag} {F H : Hp} {μ : Mu} {x : D} {v : V} {l : List D} (s : Sok K F μ H) (dv : DV K F x v) (e : lv μ x = some l) : ∃ a xs, v = .ref a ∧ H a = some (.lst xs) ∧ DVs K F l xs := by
  unfold lv at e
  split at e
  · cases e
    obtain ⟨a, xs, rfl, r, dl⟩ := dv
    exact ⟨a, xs, rfl, s.sub _ _ r, dl⟩
  · rename_i a
    split at e
    · rename_i l' em
      cases e
      obtain rfl : v = V.ref a := dv
      obtain ⟨_, xs, ho, dl⟩ := s.cel a _ em
      exact ⟨a, xs, rfl, ho, dl⟩
    · cases e
  · cases e
theorem do_cat {K : PySem.W.Frag} : DOp K rCat fCat := by
  intro F μ H x y dx dy Q0 Q s d1 d2 h q
  unfold fCat at h
  split at h
  · rename_i l m el em
    obtain ⟨a, xs, rfl, ha, dl⟩ := lv_ok s d1 el
    obtain ⟨b, ys, rfl, hb, dm⟩ := lv_ok s d2 em
    refine ⟨a, b, xs, ys, rfl, rfl, ha, hb, sz5 (by rw [dl.len, dm.len]; exact h.1), fun p hp => ?_⟩
    have f := s.free hp
    exact q _ μ _ (.lst _) _ (Grow.new f.1) (s.put hp) ⟨p, _, rfl, upd_same, (dl.append dm).mono (Grow.new f.1)⟩ h.2
  · exact h.elim
theorem ecat {X : Cx} {W : WX} {E : EX} {a b : Expr} {ta tb : TE} {wa wb : WEx} {pos : Pos} (ha : DE X W E a ta wa) (hb : DE X W E b tb wb) : DE X W E (.BinOp a .Add b pos) (tOp rCat ta tb) (wOp fCat wa wb) := eo op_cat do_cat ha hb
/-! ### isinstance of a built-in class -/
inductive Ty where
  | non | bl | int | str | tup | lst | dic
  deriving DecidableEq
def Ty.nm : Ty → String
  | .non => "NoneType" | .bl => "bool" | .int => "int" | .str => "str" | .tup => "tuple" | .lst => "list" | .dic => "dict"
def isB (t T : Ty) : Bool := t == T || (t == .bl && T == .int)
theorem kit_all : ∀ t T : Ty, T ≠ .non → kitB t.nm T.nm = some (isB t T) := by
  intro t T h
  cases T <;> first | exact absurd rfl h | (cases t <;> decide +kernel)
def tyD (μ : Mu) : D → Option Ty
  | .non => some .non | .bl _ => some .bl | .int _ => some .int | .str _ => some .str | .tup _ => some .tup | .lst _ => some .lst | .lsr _ => some .lst | .dK _ _ => some .dic | .dT _ _ => some .dic
  | .mut a => match μ a with
    | some (.lst _) => some .lst
    | some (.dK _) => some .dic
    | some (.dT _) => some .dic
    | _ => none
  | .ins _ _ _ => none
  | .exc _ _ _ _ => none
def fIsi (T : Ty) (d : D) (μ : Mu) (Q : D → Mu → Prop) : Prop := T ≠ .non ∧ match tyD μ d with
  | some t => Q (.bl (isB t T)) μ
  | none => False
theorem sqt_ty {K : PySem.W.Frag} {H : Hp} {a : Addr} {xs : List V} (h : SqT K H a xs) : TyX K H (.ref a) (.type "tuple") := by
  rcases h with (h | ⟨o, h⟩) | ⟨o, its, n, e, c, _⟩
  · exact .base (.tup h)
  · exact .fTuple h
  · exact .kTuple e c
theorem sql_ty {K : PySem.W.Frag} {H : Hp} {a : Addr} {xs : List V} (h : SqL K H a xs) : TyX K H (.ref a) (.type "list") := by
  rcases h with (h | ⟨o, h⟩) | ⟨o, its, n, e, c, _⟩
  · exact .base (.lst h)
  · exact .base (.frz h)
  · exact .kList e c
theorem ty_ok {K : PySem.W.Frag} {F H : Hp} {μ : Mu} {d : D} {v : V} {t : Ty} (s : Sok K F μ H) (dv : DV K F d v) (e : tyD μ d = some t) : TyX K H v (.type t.nm) := by
  have gH : Grow F H := s.sub
  cases d with
  | non => cases e; rw [show v = V.non from dv]; exact .base .non
  | bl b => cases e; rw [show v = V.bl b from dv]; exact .base (.bl b)
  | int b => cases e; rw [show v = V.int b from dv]; exact .base (.int b)
  | str b => cases e; rw [show v = V.str b from dv]; exact .base (.str b)
  | tup l => cases e; obtain ⟨a, xs, rfl, r, _⟩ := dv; exact sqt_ty (gH.st r)
  | lst l => cases e; obtain ⟨a, xs, rfl, r, _⟩ := dv; exact .base (.lst (gH _ _ r))
  | lsr l => cases e; obtain ⟨a, xs, rfl, r, _⟩ := dv; exact sql_ty (gH.sl r)
  | dK k l => cases e; obtain ⟨a, xs, rfl, r, _⟩ := dv; exact .base (.dK (gH _ _ r))
  | dT k l => cases e; obtain ⟨a, xs, rfl, r, _⟩ := dv; exact .base (.dT (gH _ _ r))
  | ins C k l => cases e
  | exc a d k l => cases e
  | «mut» a =>
    obtain rfl : v = V.ref a := dv
    have e : (match μ a with
      | some (.lst _) => some Ty.lst
      | some (.dK _) => some Ty.dic
      | some (.dT _) => some Ty.dic
      | _ => none) = some t := e
    split at e
    · rename_i l em; cases e; obtain ⟨_, xs, ho, _⟩ := s.cel a _ em; exact .base (.lst ho)
    · rename_i l em; cases e; obtain ⟨_, xs, ho, _⟩ := s.cel a _ em; exact .base (.dK ho)
    · rename_i l em; cases e; obtain ⟨_, xs, ho, _⟩ := s.cel a _ em; exact .base (.dT ho)
    · cases e
theorem eisi {X : Cx} {W : WX} {E : EX} {a : Expr} {ta : TE} {wa : WEx} {p p2 pos : Pos} {TN : Str} (T : Ty) (hm : X.mg "isinstance" = none) (hmT : X.mg TN = none) (hvT : bootBuiltins TN = some (.type T.nm)) (ha : DE X W E a ta wa) (hg : Gl X "isinstance" := by rfl) (hgT : Gl X TN := by rfl)
    (hnT : TN ≠ "__name__" := by decide) (hdT : (TN == ("__debug__" : Str)) = false := by decide)
    (hp : X.mg "isinstance" = none → PE X a ta → PE X (.Name TN p2) (tC (.ty T.nm)) → PE X (.Call (.Name "isinstance" p) [a, .Name TN p2] [] pos) (tCB (rIsi X.K) (tCons ta (tCons (tC (.ty T.nm)) tNil))) := by exact fun m x y => pe_callB call_isi (by rfl) m (by decide +kernel) (pa_cons x (pa_cons y pa_nil))) :
    DE X W E (.Call (.Name "isinstance" p) [a, .Name TN p2] [] pos) (tCB (rIsi X.K) (tCons ta (tCons (tC (.ty T.nm)) tNil))) (wUn (fIsi T) wa) := by
  refine ⟨hp hm ha.pe (pe_bltn hgT hmT hvT rfl hnT hdT), ?_⟩
  intro F μ H ρ σ Q0 Q s h q
  refine ha.dn F μ H ρ σ _ _ s h fun F1 μ1 H1 d v g1 s1 dv h1 => ?_
  unfold fIsi at h1
  obtain ⟨hT, h1⟩ := h1
  split at h1
  · rename_i t et
    exact ⟨v, .ty T.nm, .type t.nm, .type T.nm, isB t T, rfl, .ty _, ty_ok s1.ok dv et, kit_ty (kit_all t T hT), q F1 μ1 H1 (.bl _) _ g1 s1 rfl h1⟩
  · exact h1.elim
end DL
set_option maxHeartbeats 4000000
namespace DL
open PySem L2 PySem.Spec PyProof.Rows HotX L2H
/-! ### where an exception is handled: walking a list to its end -/
theorem listEnd_hot {prog : Program} {w : World} {A : Around} {E : Value → Shared → Prop} {s : Shared} {it l hx : Addr} {i : Nat} {its : Array Value} {Q : Option Value → Shared → Prop} (hot : HotAt A hx s.heap) (hit : s.heap.IsListIter it l i) (hne : hx ≠ it)
    (hl : s.heap.IsList l its) (hx' : its[i]? = none) (hQ : ∀ h', (∀ b o, b ≠ it → s.heap.get? b = some o → h'.get? b = some o) → Q none { s with heap := h' }) : wpAny (model prog w) A (pyNext (.ref it)) Q E s := by
  obtain ⟨oi, gi, ci, di⟩ := id hit
  obtain ⟨ol, gl, _, nl, dl⟩ := hl
  obtain ⟨hh, o1, v1, g1, d1, c1⟩ := hot
  unfold pyNext
  refine wpAny_bind (wpAny_attempt (wpAny_callSpecial?_slot (name := Str.ofString "__next__") hit.typeIs slot_listiter_next (wpAny_call_entry slot_listiter_next hit.typeIs entry_listiter_next ?_ (args_listiter_next _))))
  show wpAny _ _ (field (.ref it) 0 >>= _) _ _ _
  refine wpAny_bind (wpAny_field gi di (x := .ref l) rfl ?_)
  show wpAny _ _ (if (Value.ref l == Value.none) = true then _ else _) _ _ _
  rw [if_neg (show ¬ (Value.ref l == Value.none) = true from Bool.false_ne_true)]
  show wpAny _ _ (field (.ref it) 1 >>= _) _ _ _
  refine wpAny_bind (wpAny_field gi di (x := .int i 0) rfl ?_)
  show wpAny _ _ (seqItems? (.ref l) >>= _) _ _ _
  refine wpAny_bind (wpAny_seqItems gl dl ?_)
  simp only [Int.toNat_natCast, hx']
  refine wpAny_bind (wpAny_rule (wpAny_bind (wpAny_setField gi di (by simp) ?_)))
  show wpAny _ _ (newExc (.type "StopIteration") [] >>= _) _ _ _
  refine wpAny_bind ?_
  simp only [newExc, newTuple]
  have k1 : ∀ b o, b ≠ it → s.heap.get? b = some o → (s.heap.update it (Obj.mapFields (·.setIfInBounds 0 Value.none))).get? b = some o := fun b o hb e => by rw [Heap.get?_update_other _ _ (Ne.symm hb)]; exact e
  refine wpAny_bind (wpAny_newObj_type ?_ (by size_fits))
  refine wpAny_bind (m := firstArgMember _ _) (wpAny_of_eq (a := Value.none) (by first | rfl | (simp only [firstArgMember]; rfl)) ?_)
  refine wpAny_newObj_type ?_ (by size_fits)
  refine raiseNew_hot ⟨hh, o1, v1, Heap.get?_push_of_some _ (Heap.get?_push_of_some _ (k1 hx o1 hne g1)), d1, c1⟩ (Nat.ne_of_lt (Heap.lt_size (Heap.get?_push_of_some _ (k1 hx o1 hne g1)))) (Heap.get?_push_size _ rfl) rfl (by first | (simp; done) | (simp; omega) | (simp only [Array.size_append]; simp; omega)) ?_
  refine wpAny_bind (wpAny_isInstance (T := "StopIteration") (b := true) ⟨_, Heap.get?_update_self _ (Heap.get?_push_size _ rfl) rfl, rfl⟩ isSubtype_stop ?_)
  refine wpAny_pure (hQ _ fun b o hb e => ?_)
  rw [Heap.get?_update_other _ _ (Nat.ne_of_gt (Heap.lt_size (Heap.get?_push_of_some _ (k1 b o hb e))))]
  exact Heap.get?_push_of_some _ (Heap.get?_push_of_some _ (k1 b o hb e))
section
variable {X : Cx}
/-- a list's comprehension there -/
theorem lc_hot {pins : List (Addr × Obj)} {s : Shared} {σ : L2.St} {H : Hp} {Q : VK} {elt tg l : Expr} {ifs : List Expr} {sc : Scope} {own : List (Str × Nat)} {pos ps : Pos} {tl : TE} {g : TG} {tt : TT} {te : TE}
    (hot : HotC X) (nd : X.N.Nodup) (I : Inv X pins σ H s) (hl : PE X l tl) (ok : BlkOk X.N X.env.scope sc own) (hg : ∀ u J C cl fp, PG (X.blk u J sc (compEnvC sc cl C X.env) fp) tg g)
    (ht : ∀ u J C cl fp, PTs (X.blk u J sc (compEnvC sc cl C X.env) fp) ifs tt) (he : ∀ u J C cl fp, PE (X.blk u J sc (compEnvC sc cl C X.env) fp) elt te) (hs : ∀ x, foldedSetIterable l X.env x = pure x)
    (h : tLc (iList X.K tl) g tt te (own.map (·.2)) σ H Q) : wpAny (model X.prog X.w) X.A (comprehension (.ListComp elt [⟨tg, l, ifs, 0⟩] sc pos) sc X.env ps (newList []) false (eval l X.env) none) (EP X pins σ Q) X.xe s := by
  have fr : ∀ y ∈ sc.names, y.2 = .free → ∃ c, X.env.cells.lookup y.1 = some c := fun y hy e => (ok.free y hy e).elim (fun k => I.ok.has _ (.inl k)) fun k => I.ok.has _ (.inr k)
  refine wpAny_comprehension_free (use := none) rfl hs (closure_ok fr) ok.kind (fun y hy e => by rw [ok.uniq y hy, e]) (thn (hl.run pins s σ H _ I h) fun xv s1 ⟨x, H1, I1, r1, a, ex, ⟨xs0, hq0⟩, q⟩ => ?_)
  subst ex
  cases r1
  obtain ⟨its, rv, pl, hz⟩ := I1.list hq0
  refine wpAny_pyIter_list pl.isList ?_
  generalize hit : s1.heap.objs.size = it
  have fpI : FpOk X pins H1 it := I1.fpOk (Nat.le_of_eq hit) (I1.hok.fresh (Nat.le_of_eq hit))
  generalize hu2 : ({ s1 with heap := s1.heap.push { cls := .type "list_iterator", data := .fields #[.ref a, .int 0 0] } } : Shared) = u2
  have I2 : Inv X pins σ H1 u2 := by rw [← hu2]; exact I1.kept (t' := s1.toks) fun b o e => Heap.get?_push_of_some _ e
  have li2 : u2.heap.IsListIter it a 0 := by rw [← hu2, ← hit]; exact ⟨_, Heap.get?_push_size _ rfl, rfl, rfl⟩
  have T := turn_list (P := X.prog) (w := X.w) (K := X.K) (tg := tg) a it
  refine wpAny_newObj_type (newEnv_comp ?_) (Nat.zero_le _)
  generalize hD : u2.heap.objs.size = D
  have lt2 : it < u2.heap.objs.size := by obtain ⟨o, e, _⟩ := id li2; exact Heap.lt_size e
  have hDn : H1 D = none := I2.hok.fresh (Nat.le_of_eq hD)
  obtain ⟨W, ⟨m0, w0⟩, turn⟩ := q D hDn
  generalize hu3 : ({ u2 with heap := u2.heap.push { cls := .type "list", data := .seq ([] : List Value).toArray } } : Shared) = u3
  have I3 : Inv X pins σ (upd H1 D (.lst [])) u3 := by
    rw [← hu3]
    refine I2.laid (t' := u2.toks) (fun b o e => Heap.get?_push_of_some _ e) (Nat.le_of_eq hD) ⟨Nat.zero_le _, [], 0, .nil, ?_⟩
    rw [← hD]; exact Heap.get?_push_size _ rfl
  have e3 : u3.heap = u2.heap.push { cls := .type "list", data := .seq ([] : List Value).toArray } := by rw [← hu3]
  have nDi : it ≠ D := by rw [← hD]; exact Nat.ne_of_lt lt2
  have fp3 : ∀ b ∈ [it], FpOk X pins (upd H1 D (.lst [])) b ∧ b < u3.heap.objs.size := fun b hb => by
    obtain rfl : b = it := by simpa using hb
    exact ⟨⟨by rw [upd_ne nDi]; exact fpI.1, fpI.2⟩, by rw [e3, Heap.size_push]; exact Nat.lt_succ_of_lt lt2⟩
  have lt3 := (fp3 it (by simp)).2
  have li3 : u3.heap.IsListIter it a 0 := T.keep 0 _ _ li2 fun b _ o e => by rw [e3]; exact Heap.get?_push_of_some _ e
  have I4 := block_start I3 ok nd fp3
  have pg := hg u3 (upd H1 D (.lst [])) u3.heap.objs.size (cellsFrom (u3.heap.objs.size + 1) sc.names (cloFrom X.env.cells sc.names [])) [it]
  have pt := ht u3 (upd H1 D (.lst [])) u3.heap.objs.size (cellsFrom (u3.heap.objs.size + 1) sc.names (cloFrom X.env.cells sc.names [])) [it]
  have pe := he u3 (upd H1 D (.lst [])) u3.heap.objs.size (cellsFrom (u3.heap.objs.size + 1) sc.names (cloFrom X.env.cells sc.names [])) [it]
  show codeAny _ _ (.compStart (.ListComp elt [⟨tg, l, ifs, 0⟩] sc pos) 0 (.ref it) (.ref D) (compEnvC sc (cellsFrom (u3.heap.objs.size + 1) sc.names (cloFrom X.env.cells sc.names [])) u3.heap.objs.size X.env)) (compPost (model X.prog X.w) X.A X.xe none (EP X pins σ Q) (.ref D) u3.heap.objs.size) { u3 with heap := pushCells (u3.heap.push { cls := .type "dict", data := .dict #[] }) sc.names }
  generalize hce : compEnvC sc (cellsFrom (u3.heap.objs.size + 1) sc.names (cloFrom X.env.cells sc.names [])) u3.heap.objs.size X.env = ce at I4 pg pt pe ⊢
  have cL : ce.locals = u3.heap.objs.size := by subst hce; rfl
  generalize hH3 : upd H1 D (.lst []) = H3 at I3 I4 pg pt pe w0 fp3
  generalize hu4 : ({ u3 with heap := pushCells (u3.heap.push { cls := .type "dict", data := .dict #[] }) sc.names } : Shared) = u4 at I4 ⊢
  have li4 : u4.heap.IsListIter it a 0 := T.keep 0 _ _ li3 fun b _ o e => by rw [← hu4]; exact pushCells_keeps _ _ _ _ (Heap.get?_push_of_some _ e)
  have stat : ∀ {τ : L2.St} {H' : Hp} {u : Shared}, Inv (X.blk u3 H3 sc ce [it]) [] τ H' u → H' it = none → ∀ b ∈ [it], FpOk (X.blk u3 H3 sc ce [it]) [] H' b := fun {τ H' u} J hn b hb => by
    obtain rfl : b = it := by simpa using hb
    exact ⟨hn, (J.ok.exf b hb).1, J.ok.exfs b hb, .inl hb, fun x c e => (J.ok.exf b hb).2 x c e, fun p hp => absurd (show p ∈ ([] : List (Addr × Obj)) ++ [] from hp) (by simp)⟩
  have loop : codeAny (model X.prog X.w) X.A (.compLoop (.ListComp elt [⟨tg, l, ifs, 0⟩] sc pos) 0 (.ref it) (.ref D) ce) (compPost (model X.prog X.w) X.A X.xe none (EP X pins σ Q) (.ref D) u3.heap.objs.size) u4 := by
    refine compLoop_any (fun n u => ∃ i H', Inv (X.blk u3 H3 sc ce [it]) [] (wipe σ (own.map (·.2))) H' u ∧ u.heap.IsListIter it a i ∧ H' it = none ∧ W i n H') ?_ m0 ⟨0, H3, I4, li4, (fp3 it (by simp)).1.1, w0⟩
    rintro n u5 ⟨i, H5, I5, li5, n5, w5⟩
    rcases turn i n H5 w5 with ⟨⟨xs, hq, hx⟩, qq⟩ | ⟨⟨xs, x, hq, hx⟩, Nx, hNx, step⟩
    · obtain ⟨jts, rj, pj, hzj⟩ := I5.list hq
      have hf := (fp3 it (by simp)).1
      have I7 : Inv X pins σ H5 u5 := I3.call' (ch := [it]) I5.os I5.base I5.hok I5.bare fun b hb => by
        obtain rfl : b = it := by simpa using hb
        exact ⟨hf.2.2.2.1, hf.2.1, hf.2.2.2.2.1, hf.2.2.2.2.2⟩
      obtain ⟨p, ⟨hh, v1, d1, c1⟩, hp⟩ := hot
      have nC : H5 u3.heap.objs.size = none := by have z : H5 ce.locals = none := I5.free; rw [cL] at z; exact z
      obtain ⟨m, hn, _⟩ := I5.loc
      have hn : u5.heap.Ns ce.locals m := hn
      rw [cL] at hn
      have lj := rj.length
      refine listEnd_hot (hx := p.1) ⟨hh, p.2, v1, (I7.pin p (List.mem_append_left _ hp)).1, d1, c1⟩ li5 (hf.2.2.2.2.2 p (List.mem_append_left _ hp)) pj.isList (by simp; omega) fun h' kk => ?_
      have I8 : Inv X pins σ H5 { u5 with heap := h' } := I7.turned (t' := u5.toks) kk n5 hf.2.1 hf.2.2.2.1 hf.2.2.2.2.1 hf.2.2.2.2.2
      have fC : FpOk X pins H5 u3.heap.objs.size := I3.fpOk (Nat.le_refl _) nC
      obtain ⟨o, es, ep, eo, dd, rr⟩ := hn
      refine ⟨m, ⟨o, es, ep, kk _ o (Nat.ne_of_gt lt3) eo, dd, rr⟩, fun h'' sb => ?_⟩
      exact ⟨.ref D, H5, I8.turned (t' := u5.toks) (fun b o hb e => (sb.2 b hb).trans e) fC.1 fC.2.1 fC.2.2.2.1 fC.2.2.2.2.1 fC.2.2.2.2.2, rfl, qq⟩
    · obtain ⟨jts, rj, pj, hzj⟩ := I5.list hq
      obtain ⟨uv, hu, ru⟩ := rj.get hx
      obtain ⟨f0, f1, f2, f3, f4, f5⟩ := stat I5 n5 it (by simp)
      refine wpAny_pyNext_list_item li5 pj.isList (x := uv) (by simpa using hu) fun h6 li6 sb => ?_
      have I6 : Inv (X.blk u3 H3 sc ce [it]) [] (wipe σ (own.map (·.2))) H5 { u5 with heap := h6 } := I5.turned (t' := u5.toks) (fun b o hb e => (sb.2 b hb).trans e) f0 f1 f3 f4 f5
      obtain ⟨o, eo, co, dj⟩ := id li6
      refine go_of (s := { u5 with heap := h6 }) eo co dj (by decide) ?_
      have I6' := I6.pinned (stat I6 n5) (T.obj (i + 1) h6 li6)
      have yl : (Itl X.K a).yld i H5 x H5 := ⟨rfl, fun ys hy => by rw [I6.list_inj hy hq]; exact hx⟩
      refine thnF (pg.run _ _ _ H5 x uv _ I6' ru (step x H5 yl)) fun _ u8 ⟨σ8, H8, I8, hw8, q8⟩ => ?_
      refine thnF (pt.run _ u8 σ8 H8 _ I8 q8) fun b u9 ⟨H9, I9, q9⟩ => ?_
      have fin : ∀ {u : Shared} {H' : Hp}, Inv (X.blk u3 H3 sc ce [it]) ([] ++ pinsAt [it] h6) σ8 H' u → Nx H' → ∃ m, m < n ∧ ∃ i H', Inv (X.blk u3 H3 sc ce [it]) [] (wipe σ (own.map (·.2))) H' u ∧ u.heap.IsListIter it a i ∧ H' it = none ∧ W i m H' := fun {u H'} J nx => by
        obtain ⟨m', hm, w'⟩ := hNx H' nx
        have pp := J.pin (it, o) (List.mem_append_right _ (List.mem_append_right _ (mem_pinsAt (by simp) eo)))
        have ll : (wipe σ (own.map (·.2))).length = σ8.length := by rw [← hw8, wipe_length]
        exact ⟨m', hm, i + 1, H', (J.unpinned (pins := [])).weak ll (fun j v e => by rw [← hw8] at e; exact (wipe_some e).1), ⟨o, pp.1, co, dj⟩, pp.2.1, w'⟩
      cases b with
      | false =>
        simp only [Bool.false_eq_true, if_false] at q9 ⊢
        exact fin I9 q9
      | true =>
        simp only [if_true] at q9 ⊢
        refine thnF (pe.run _ u9 σ8 H9 _ I9 q9) fun z u10 ⟨yv, H10, I10, r10, acc, hD10, hz10, nx⟩ => ?_
        exact app_ok (X := X.blk u3 H3 sc ce [it]) I10 hD10 hz10 r10 fun u11 I11 => fin I11 nx
  exact codeAny_compStart_list loop (T.self X.A 0 _ _ _ li4 loop)
theorem pe_lcH {elt tg l : Expr} {ifs : List Expr} {sc : Scope} {own : List (Str × Nat)} {pos : Pos} {tl : TE} {g : TG} {tt : TT} {te : TE} (hot : HotC X) (nd : X.N.Nodup) (hl : PE X l tl) (ok : BlkOk X.N X.env.scope sc own)
    (hg : ∀ u J C cl fp, PG (X.blk u J sc (compEnvC sc cl C X.env) fp) tg g) (ht : ∀ u J C cl fp, PTs (X.blk u J sc (compEnvC sc cl C X.env) fp) ifs tt) (he : ∀ u J C cl fp, PE (X.blk u J sc (compEnvC sc cl C X.env) fp) elt te) (hs : ∀ x, foldedSetIterable l X.env x = pure x) :
    PE X (.ListComp elt [⟨tg, l, ifs, 0⟩] sc pos) (tLc (iList X.K tl) g tt te (own.map (·.2))) := ⟨fun pins s σ H Q I h => by rw [eval_ListComp]; exact lc_hot hot nd I hl ok hg ht he hs h⟩
end
end DL
set_option maxHeartbeats 4000000
namespace DL
open PySem L2 PySem.Spec PyProof.Rows HotX L2H
/-! ### list comprehensions, over data -/
def wip {α : Type} (l : List (Option α)) : List Nat → List (Option α)
  | [] => l
  | v :: vs => (wip l vs).set v none
theorem wip_eq (σ : L2.St) : ∀ vs : List Nat, wip σ vs = wipe σ vs
  | [] => rfl
  | v :: vs => by
    show (wip σ vs).set v none = (wipe σ vs).set v none
    rw [wip_eq σ vs]
theorem wip_get {α : Type} (l : List (Option α)) (j : Nat) : ∀ vs : List Nat, (wip l vs)[j]? = if j ∈ vs then l[j]?.map (fun _ => none) else l[j]?
  | [] => by simp [wip]
  | v :: vs => by
    show ((wip l vs).set v none)[j]? = _
    have ih := wip_get l j vs
    have len : (wip l vs).length = l.length := by
      clear ih
      induction vs with
      | nil => rfl
      | cons u us q => show ((wip l us).set u none).length = _; rw [List.length_set, q]
    by_cases e : v = j
    · subst e
      rw [List.getElem?_set]
      simp only [if_true, List.mem_cons, true_or, len]
      by_cases h : v < l.length
      · rw [if_pos h, List.getElem?_eq_getElem h]; rfl
      · rw [if_neg h, List.getElem?_eq_none (by omega)]; rfl
    · rw [List.getElem?_set_ne e, ih]
      simp only [List.mem_cons, show (j = v) = False from eq_false (fun z => e z.symm), false_or]
theorem wip_set {α : Type} (l : List (Option α)) (x : Option α) {i : Nat} {vs : List Nat} (h : i ∈ vs) : wip ((wip l vs).set i x) vs = wip l vs := by
  refine List.ext_getElem? fun j => ?_
  rw [wip_get, wip_get]
  by_cases hj : j ∈ vs
  · rw [if_pos hj, if_pos hj]
    by_cases e : i = j
    · subst e
      rw [List.getElem?_set]
      simp only [if_true]
      have e1 := wip_get l i vs
      rw [if_pos hj] at e1
      by_cases q : i < (wip l vs).length
      · rw [if_pos q]
        rw [List.getElem?_eq_getElem q] at e1
        cases z : l[i]? with
        | none => rw [z] at e1; cases e1
        | some u => rfl
      · rw [if_neg q]
        rw [List.getElem?_eq_none (by omega)] at e1
        exact e1
    · rw [List.getElem?_set_ne e, wip_get, if_pos hj]
      cases l[j]? <;> rfl
  · rw [if_neg hj, if_neg hj, List.getElem?_set_ne (fun e => hj (by rw [← e]; exact h)), wip_get, if_neg hj]
theorem EnvOk.wip {K : PySem.W.Frag} {F : Hp} {ρ : En} {σ : L2.St} {vs : List Nat} (h : EnvOk K F ρ σ) : EnvOk K F (DL.wip ρ vs) (DL.wip σ vs) := by
  refine ⟨?_, fun j d e => ?_⟩
  · induction vs with
    | nil => exact h.1
    | cons u us q => show ((DL.wip ρ us).set u none).length = ((DL.wip σ us).set u none).length; rw [List.length_set, List.length_set, q]
  · rw [wip_get] at e ⊢
    by_cases hj : j ∈ vs
    · rw [if_pos hj] at e
      cases z : ρ[j]? with
      | none => rw [z] at e; cases e
      | some u => rw [z] at e; cases e
    · rw [if_neg hj] at e ⊢
      exact h.2 j d e
theorem EnvOk.clr {K : PySem.W.Frag} {F : Hp} {ρ : En} {σ : L2.St} {i : Nat} (h : EnvOk K F ρ σ) : EnvOk K F (ρ.set i none) (σ.set i none) := EnvOk.wip (vs := [i]) h
/-- [e for i in ..]: p is the new list; I of the turn and the cells -/
def wLc (wi : WI) (i : Nat) (vs : List Nat) (tt : WT) (te : WEx) : WEx := fun ρ μ Q => wi ρ μ fun k μ1 => ∀ p, μ1 p = none → ∃ I : Nat → Mu → Prop, I 0 (um μ1 p (.lst [])) ∧ (∀ j μ, I j μ → k.ok μ) ∧
  (∀ j d μ, k.items[j]? = some d → I j μ → tt ((wip ρ vs).set i (some d)) μ fun b μ3 => if b = true then te ((wip ρ vs).set i (some d)) μ3 fun y μ4 => ∃ acc, μ4 p = some (.lst acc) ∧ acc.length < 100000 ∧ I (j + 1) (um μ4 p (.lst (acc ++ [y]))) else I (j + 1) μ3) ∧ ∀ μ, I k.items.length μ → Q (.mut p) μ
section
variable {K : PySem.W.Frag} {W : WX} {E : EX}
theorem dn_lc {ti : TI} {wi : WI} {tt : TT} {wt : WT} {te : TE} {we : WEx} {i : Nat} {vs : List Nat} (hi : DnI K W E ti wi) (ht : DnT K W E tt wt) (he : Dn K W E te we) (hv : i ∈ vs) : Dn K W E (tLc ti (gName i) tt te vs) (wLc wi i vs wt we) := by
  intro F μ H ρ σ Q0 Q s h q
  refine hi F μ H ρ σ _ _ s h fun F1 μ1 H1 J k g1 s1 kk hk => ?_
  intro p hp
  have fr := s1.ok.free hp
  obtain ⟨I, i0, hok, step, done⟩ := hk p fr.2
  refine ⟨fun j m H' => m = k.items.length - j ∧ j ≤ k.items.length ∧ ∃ F' μ', Grow F1 F' ∧ S0 K W E F' μ' H' ρ σ ∧ I j μ', ⟨_, rfl, Nat.zero_le _, F1, _, Grow.refl, s1.mono Grow.refl (s1.ok.cell (m := .lst []) fr.1 ⟨[], upd_same, DVs.nil⟩), i0⟩, ?_⟩
  rintro j m H2 ⟨rfl, hl, F2, μ2, g2, s2, i2⟩
  by_cases hlt : j < k.items.length
  · refine .inr ⟨kk.go F2 μ2 H2 j g2 s2.ok (hok j μ2 i2) hlt, fun H' => j + 1 ≤ k.items.length ∧ ∃ F' μ', Grow F1 F' ∧ S0 K W E F' μ' H' ρ σ ∧ I (j + 1) μ', fun H' hN => ⟨k.items.length - (j + 1), by omega, rfl, hN.1, hN.2⟩, fun x H3 y => ?_⟩
    obtain ⟨F3, d, g3, s3, ed, dv⟩ := kk.yld F2 μ2 H2 j x H3 g2 s2.ok (hok j μ2 i2) hlt y
    have h3 := step j d μ2 ed i2
    rw [← wip_eq]
    refine ⟨by rw [← wip_eq]; exact wip_set σ (some x) hv, ?_⟩
    have S3 : S0 K W E F3 μ2 H3 ρ σ := s2.mono g3 s3
    refine ht F3 μ2 H3 _ _ _ _ ⟨s3, (S3.env.wip (vs := vs)).set dv, S3.wok⟩ h3 fun F4 μ4 H4 b g4 s4 h4 => ?_
    have S4 : S0 K W E F4 μ4 H4 ρ σ := S3.mono g4 s4.ok
    cases b with
    | false =>
      simp only [Bool.false_eq_true, if_false] at h4 ⊢
      exact ⟨hlt, F4, μ4, g2.trans (g3.trans g4), S4, h4⟩
    | true =>
      simp only [if_true] at h4 ⊢
      refine he F4 μ4 H4 _ _ _ _ s4 h4 fun F5 μ5 H5 dy yv g5 s5 dvy ⟨acc, ea, la, h5⟩ => ?_
      obtain ⟨f5, xs, ho, dl⟩ := s5.ok.cel p _ ea
      exact ⟨xs, ho, sz5l (by rw [dl.len]; exact la), hlt, F5, _, g2.trans (g3.trans (g4.trans g5)), (S4.mono g5 s5.ok).mono Grow.refl (s5.ok.cell (m := .lst _) f5 ⟨_, upd_same, dl.append (DVs.cons dvy DVs.nil)⟩), h5⟩
  · have ei : j = k.items.length := by omega
    subst ei
    exact .inl ⟨kk.stop F2 μ2 H2 _ g2 s2.ok (hok _ μ2 i2) (Nat.le_refl _), q F2 μ2 H2 (.mut p) (.ref p) (g1.trans g2) s2 rfl (done μ2 i2)⟩
end
structure DTs (X : Cx) (W : WX) (E : EX) (ifs : List Expr) (t : TT) (w : WT) : Prop where
  pe : PTs X ifs t
  dn : DnT X.K W E t w
def wYes : WT := fun _ μ Q => Q true μ
theorem tsnil {X : Cx} {W : WX} {E : EX} : DTs X W E [] tYes wYes := ⟨pts_nil, fun F μ H ρ σ Q0 Q s h q => q F μ H true Grow.refl s h⟩
theorem tsone {X : Cx} {W : WX} {E : EX} {c : Expr} {t : TT} {w : WT} (h : DT X W E c t w) : DTs X W E [c] t w := ⟨pts_one h.pe, h.dn⟩
/-- the reading that w alone gives -/
def tOfT (K : PySem.W.Frag) (W : WX) (E : EX) (w : WT) : TT := fun σ H Q => ∃ F μ ρ Q0, S0 K W E F μ H ρ σ ∧ w ρ μ Q0 ∧ ∀ F' μ' H' b, Grow F F' → S0 K W E F' μ' H' ρ σ → Q0 b μ' → Q b H'
def tOfE (K : PySem.W.Frag) (W : WX) (E : EX) (w : WEx) : TE := fun σ H Q => ∃ F μ ρ Q0, S0 K W E F μ H ρ σ ∧ w ρ μ Q0 ∧ PQ K W E F ρ σ Q0 Q
theorem dn_ofT {K : PySem.W.Frag} {W : WX} {E : EX} {w : WT} : DnT K W E (tOfT K W E w) w := fun F μ H ρ σ Q0 Q s h q => ⟨F, μ, ρ, Q0, s, h, q⟩
theorem dn_ofE {K : PySem.W.Frag} {W : WX} {E : EX} {w : WEx} : Dn K W E (tOfE K W E w) w := fun F μ H ρ σ Q0 Q s h q => ⟨F, μ, ρ, Q0, s, h, q⟩
theorem DTs.of {X : Cx} {W : WX} {E : EX} {ifs : List Expr} {t : TT} {w : WT} (h : DTs X W E ifs t w) : PTs X ifs (tOfT X.K W E w) := ⟨fun pins s σ H Q I ⟨F, μ, ρ, Q0, s0, hw, q⟩ => h.pe.run pins s σ H Q I (h.dn F μ H ρ σ Q0 Q s0 hw q)⟩
theorem DE.of {X : Cx} {W : WX} {E : EX} {e : Expr} {t : TE} {w : WEx} (h : DE X W E e t w) : PE X e (tOfE X.K W E w) := ⟨fun pins s σ H Q I ⟨F, μ, ρ, Q0, s0, hw, q⟩ => h.pe.run pins s σ H Q I (h.dn F μ H ρ σ Q0 Q s0 hw q)⟩
section
variable {X : Cx} {W : WX} {E : EX} {elt l : Expr} {n : Str} {np pos : Pos} {ifs : List Expr} {sc : Scope} {own : List (Str × Nat)} {tl te : TE} {wl we : WEx} {tt : TT} {wt : WT} {i : Nat}
theorem elcH (hot : HotC X) (nd : X.N.Nodup) (own : List (Str × Nat)) (i : Nat) {vs : List Nat} (hl : DE X W E l tl wl) (hg : ∀ u J C cl fp, PG (X.blk u J sc (compEnvC sc cl C X.env) fp) (.Name n np) (gName i)) (ht : ∀ u J C cl fp, ∃ tt, DTs (X.blk u J sc (compEnvC sc cl C X.env) fp) W E ifs tt wt)
    (he : ∀ u J C cl fp, ∃ te, DE (X.blk u J sc (compEnvC sc cl C X.env) fp) W E elt te we) (hvs : own.map (·.2) = vs := by rfl) (ok : blkC X.N X.env.scope sc own = true := by rfl) (hv : i ∈ own.map (·.2) := by decide) (hs : ∀ x, foldedSetIterable l X.env x = pure x := by intro _; rfl) :
    DE X W E (.ListComp elt [⟨.Name n np, l, ifs, 0⟩] sc pos) (tLc (iList X.K tl) (gName i) (tOfT X.K W E wt) (tOfE X.K W E we) vs) (wLc (iLs wl) i vs wt we) := by
  subst hvs
  exact ⟨pe_lcH hot nd hl.pe (blkOk_by ok) hg (fun u J C cl fp => (ht u J C cl fp).elim fun _ h => h.of) (fun u J C cl fp => (he u J C cl fp).elim fun _ h => h.of) hs, dn_lc (di_list hl.dn) dn_ofT dn_ofE hv⟩
end
theorem gnmP {X : Cx} {x : Str} {pos : Pos} (i : Nat) (hN : X.N.Nodup) (hi : X.N[i]? = some x := by rfl) (hx : Loc X.env.scope x := by first | exact Or.inl rfl | exact Or.inr rfl) (hf : X.fn x = true ∨ X.env.scope.names.lookup x = some .local := by first | exact .inl rfl | exact .inr rfl) : PG X (.Name x pos) (gName i) := pg_name hN hi hx hf
/-! ### a def called where an exception of the class C is handled -/
/-- the exception at a, of the class C, is handled in X -/
def HotE (X : Cx) (a C : Addr) : Prop := ∃ oe, (a, oe) ∈ X.pn ∧ Hot1 X.A (a, oe) ∧ L2N.Zn (.ref C) none oe
theorem HotE.c {X : Cx} {a C : Addr} (h : HotE X a C) : HotC X := let ⟨oe, m, h1, _⟩ := h; ⟨(a, oe), h1, m⟩
structure FnHC (P : Program) (w : World) (K : PySem.W.Frag) (mg : Str → Option Value) (base : Heap) (CX : CXT) (k : Nat) (f : Addr) (fd : FuncData) (ps : List Str) (sp : Addr → Addr → Sp) : Prop where
  len : ∀ a C vs H Q E, sp a C vs H Q E → vs.length = ps.length
  run : ∀ (A : Around) (outer : List Env) (s : Shared) (H : Hp) (args : Args) (us : List Value) (vs : List V) (Q : VK) (E : XK) (p : Addr × Obj) (C : Addr), RoomH k A → Hot1 A p → L2N.Zn (.ref C) none p.2 → PinOk outer H s p → Env0 P w K mg base A outer s H →
    BindsTo s fd args (ps.zip us) → Vals vs us → sp p.1 C vs H Q E → codeAny (model P w) A (.call (.ref f) args) (CR CX outer P w H s Q E) s
section
variable {P : Program} {w : World} {K : PySem.W.Frag} {mg : Str → Option Value} {base : Heap}
theorem fnHC_of {x qual : Str} {st : Stmt} {f : Addr} {fd : FuncData} {N ps : List Str} {k : Nat} {CX : CXT} {sp : Addr → Addr → Sp} (F : Fun K x qual st f fd) (S : FnScope N ps (defScope st)) (len : ∀ a C vs H Q E, sp a C vs H Q E → vs.length = ps.length)
    (hb : ∀ (cdv : Value) (A : Around) (outer : List Env) (s : Shared) (H : Hp) (vs : List V) (Q : VK) (E : XK) (p : Addr × Obj) (C : Addr), Hot1 A p → L2N.Zn (.ref C) none p.2 → RoomH k (A.deeper (envOfC qual (defScope st) s.heap.objs.size f cdv)) → sp p.1 C vs H Q E →
      ∃ t, PSs (cxH CX P w K mg base N qual (defScope st) f cdv A outer s H E p) (defBody st) t ∧ t { nx := fun _ H' => Q .non H', rt := Q } (L2.start N vs) H) : FnHC P w K mg base CX (k + 1) f fd ps sp := by
  obtain ⟨oc, od, kV, dc, pm, an, cv, ct, sl, rfl, lk, hcd⟩ := F.ex
  refine ⟨len, fun A outer s H args us vs Q E p C hr hot hz hpin e0 hbd r hsp => ?_⟩
  have hlen := len _ _ _ _ _ _ hsp
  have inK : K.In s.heap := e0.mod.kin.keeps fun b o e => (e0.bs b o e).1
  refine codeAny_call_function hr.depth (inK _ _ lk) rfl S.co S.gen rfl (PySem.W.codeRec_of inK hcd) (hbd _ _ _ _ ?_)
  refine wpAny_newFunctionEnv_cells S.kind (fun ⟨n, v⟩ hy => ?_) fun env he s1 x => ?_
  · rcases S.par n (List.of_mem_zip hy).1 with q | q
    · exact .inl q
    · exact .inr ⟨q, PySem.W.cellsFrom_some _ _ _ (.inl q)⟩
  subst he
  refine ⟨(e0.mod.nolimit.keeps fun b o e => (e0.bs b o e).1).keeps x.toInCall.keep, codeAny_func ?_⟩
  obtain ⟨t, ht, hq⟩ := hb cv A outer s H vs Q E p C hot hz (hr.deeper _) hsp
  have I := inv_startH (CX := CX) (E := E) S hpin e0 hlen r x
  refine wpAny_mono (ht.run [] s1 (L2.start N vs) H _ I hq) (fun fl s' hs => ?_) fun e s' hs => hs
  match fl, hs with
  | .ret u, ⟨v, σ', H', J, rv, q⟩ => exact ⟨v, H', J.os, J.bare, J.base, J.hok, rv, q⟩
  | .next, ⟨σ', H', J, q⟩ => exact ⟨V.non, H', J.os, J.bare, J.base, J.hok, rfl, q⟩
  | .brk, ⟨_, _, _, q⟩ => exact q.elim
  | .cont, ⟨_, _, _, q⟩ => exact q.elim
theorem FnHC.call {X : Cx} {k : Nat} {f : Addr} {fd : FuncData} {ps : List Str} {sp : Addr → Addr → Sp} {CX : CXT} {E : L2.St → XK} {a C : Addr} {x : Str} {q pos : Pos} {e : Expr} {es : List Expr} {t : TA} (F : FnHC X.prog X.w X.K X.mg X.base CX k f fd ps sp) (hr : RoomH k X.A) (hc : HotE X a C) (hg : Gl X x) (hm : X.mg x = some (.ref f))
    (hk : PySem.W.keepIn X.K (.ref f) = true) (hb : Binds X.K fd ps []) (hx : ∀ σ, PassesAt CX X σ (E σ)) (ha : PA X (e :: es) t) (hdb : (x == ("__debug__" : Str)) = false) (he : starEach (e :: es) X.env = (false, eval e X.env) :: starEach es X.env) (hpl : (backTo pos (starEach es X.env)).any (·.1) = false) :
    PE X (.Call (.Name x q) (e :: es) [] pos) (tCallS (sp a C) E t) := by
  refine ⟨fun pins s σ H Q I h => wpAny_Call_Name_kw (ld_glob I hg hm ?_ hdb)⟩
  refine PySem.W.callWith_K (h₀ := X.base) I.ok.mod.kin hk (thn (ha.run pos pins s σ H _ I h) fun us s1 ⟨vs, H1, I1, r, z⟩ => ⟨I1.kIn, ?_⟩) he hpl
  obtain ⟨oe, hm, h1, hz⟩ := hc
  have bb := hb s1 us I1.kIn (by rw [List.append_nil, ← r.length]; exact F.len _ _ _ _ _ _ z)
  rw [List.append_nil] at bb
  have pp := I1.pin (a, oe) (List.mem_append_left _ hm)
  refine wpAny_call (codeAny_mono (F.run X.A X.stack s1 H1 ⟨us, []⟩ us vs Q (E σ) (a, oe) C hr h1 hz ⟨pp.1, pp.2.1, fun w => (List.mem_cons.mp (I1.stkSub a w)).elim pp.2.2.1 pp.2.2.2.1, pp.2.2.2.2⟩ I1.env0 bb r z) fun res s' hq => ?_)
  match res, hq with
  | .error er, hq => exact hx σ pins H1 s1 er s' I1 hq
  | .ok (.ret u), hq => exact I1.after hq
end
abbrev CtH := Addr → Addr → Ct
structure DfH (P : Program) (w : World) (K : PySem.W.Frag) (mg : Str → Option Value) (base : Heap) (x : Str) (k : Nat) (ps : List Str) (c : CtH) : Prop where
  ex : ∃ f fd, FnHC P w K mg base (L2N.CX P w) k f fd ps (fun a C => spD K (c a C)) ∧ mg x = some (.ref f) ∧ PySem.W.keepIn K (.ref f) = true ∧ Binds K fd ps []
section
variable {P : Program} {w : World} {K : PySem.W.Frag} {mg : Str → Option Value} {base : Heap}
theorem okH {x qual : Str} {st : Stmt} {f : Addr} {fd : FuncData} {N ps : List Str} {k : Nat} {c : CtH} (F : Fun K x qual st f fd) (S : FnScope N ps (defScope st)) (hn : ps.length ≤ N.length) (hl : ∀ a C ds μ Q E, c a C ds μ Q E → ds.length = ps.length) (PC : Addr → Prop) (hPC : ∀ a C ds μ Q E, c a C ds μ Q E → PC C)
    (hb : ∀ (X : Cx) (W : WX) (E : EX) (cdv : Value) (A : Around) (outer : List Env) (s : Shared) (H : Hp) (Ex : XK) (p : Addr × Obj) (C : Addr), X = cxH (L2N.CX P w) P w K mg base N qual (defScope st) f cdv A outer s H Ex p → PC C → HotE X p.1 C → L2N.Takes X W → PassesOwn (model X.prog X.w) X.A X.env X.xe → RoomH k X.A →
      ∃ t ws, DSs X W E (defBody st) t ws ∧ ∀ ds μ Q E0, c p.1 C ds μ Q E0 → E = (fun C fs _ μ => dwx E0 C fs μ) → ws (rets Q) (st0 N.length ds) μ) : FnHC P w K mg base (L2N.CX P w) (k + 1) f fd ps (fun a C => spD K (c a C)) := by
  refine fnHC_of F S (fun a C vs H Q E h => ?_) (fun cdv A outer s H vs Q Ex p C hot hz hr h => ?_)
  · obtain ⟨F, μ, ds, Q0, E0, _, dv, hc, _⟩ := h
    rw [dv.len]; exact hl _ _ _ _ _ _ hc
  · obtain ⟨F0, μ, ds, Q0, E0, sk, dv, hc, hq, he⟩ := h
    obtain ⟨t, ws, hd, hw⟩ := hb _ (fun cls d _ H => Ex cls d H) (fun C fs _ μ => dwx E0 C fs μ) cdv A outer s H Ex p C rfl (hPC _ _ _ _ _ _ hc) ⟨p.2, List.mem_cons_self, hot, hz⟩ (L2N.takes_of rfl rfl rfl rfl) (passes_of rfl) hr
    refine ⟨t, hd.pe, hd.dn F0 μ H _ _ (rets Q0) _ ⟨sk, env_start dv (by rw [hl _ _ _ _ _ _ hc]; exact hn), fun F' μ' H' ρ σ C d fs g s' _ ex h' => he F' μ' H' C d fs g s' ex h'⟩ (hw ds μ Q0 E0 hc rfl) ⟨fun F' μ' H' ρ' σ' g s' h' => hq F' μ' H' .non .non g s'.ok rfl h', fun F' μ' H' d v g s' dv' h' => hq F' μ' H' d v g s' dv' h', fun F' μ' H' ρ' σ' g s' h' => h'.elim, fun F' μ' H' ρ' σ' g s' h' => h'.elim⟩⟩
end
section
variable {X : Cx} {W : WX} {E : EX} {k : Nat} {ps : List Str} {c : CtH} {x : Str} {p pos : Pos} {e : Expr} {es : List Expr} {tas : TA} {was : WA} {a C : Addr}
theorem ecallH (tk : L2N.Takes X W) (h : DfH X.prog X.w X.K X.mg X.base x k ps c) (hc : HotE X a C) (hr : RoomH k X.A) (ha : DA X W E (e :: es) tas was)
    (hg : Gl X x := by rfl) (hdb : (x == ("__debug__" : Str)) = false := by decide) (he : starEach (e :: es) X.env = (false, eval e X.env) :: starEach es X.env := by rfl) (hpl : (backTo pos (starEach es X.env)).any (·.1) = false := by rfl) :
    DE X W E (.Call (.Name x p) (e :: es) [] pos) (tCallS (spD X.K (c a C)) (WE W) tas) (wCall (c a C) E was) := by
  obtain ⟨f, fd, G, hm, hk, hb⟩ := h.ex
  exact ⟨G.call hr hc hg hm hk hb (fun σ => L2N.passAt tk σ) ha.pe hdb he hpl, dn_call ha.dn⟩
/-! ### isinstance of it -/
theorem call_isx (hc : HotE X a C) (ex : ExcC X.K C) : CallR X (.builtin "isinstance") (rIsE X.K C a) := by
  intro pins s σ H xs us Q I r h
  obtain ⟨cl, cv, b, rfl, hcv, e, q⟩ := h
  obtain ⟨u1, u2, rfl, r1, r2⟩ := vals2 r
  cases r1
  have ec := hcv _ r2
  subst ec
  obtain ⟨oe, hm, ⟨_, vs, hv, _⟩, hz⟩ := hc
  have gt := (I.pin (a, oe) (List.mem_append_left _ hm)).1
  have J : PySem.W.InstAt s.heap a oe C none := by
    obtain ⟨oc, od, oda, osl⟩ := oe
    obtain ⟨h1, h2, _⟩ := hz
    dsimp only at h1 h2 hv
    subst h1 h2 hv
    exact ⟨gt, rfl, rfl, trivial⟩
  exact PySem.W.kia_one (PySem.W.handS_kitx_exc ex.hg ex.hk ex.hs ex.hd ex.ha ex.hn ex.ht ex.hm) I.kIn J e (fun z => nomatch z) fun tk => ⟨.bl b, H, I.kept (t' := tk) fun _ _ z => z, rfl, q⟩
def wIsx (b : Bool) (a : Addr) (w : WEx) : WEx := fun ρ μ Q => w ρ μ fun d μ1 => d = .mut a ∧ Q (.bl b) μ1
variable {o : Expr} {te : TE} {we : WEx} {p2 : Pos} {Y : Addr} {y : Str} {b : Bool}
theorem dn_isx {K : PySem.W.Frag} {cl : V} {cv : Value} (hv : ∀ u, RelV cl u → u = cv) (hk : PySem.W.kitOne K (.ref C) cv = some b) (he : Dn K W E te we) : Dn K W E (tCB (rIsE K C a) (tCons te (tCons (tC cl) tNil))) (wIsx b a we) := by
  intro F μ H ρ σ Q0 Q s h q
  refine he F μ H ρ σ _ _ s h fun F1 μ1 H1 d v g1 s1 dv h1 => ?_
  obtain ⟨rfl, h1⟩ := h1
  obtain rfl : v = V.ref a := dv
  exact ⟨cl, cv, b, rfl, hv, hk, q F1 μ1 H1 (.bl b) _ g1 s1 rfl h1⟩
theorem eisx (hc : HotE X a C) (ex : ExcC X.K C) (hmi : X.mg "isinstance" = none) (hy : X.mg y = some (.ref Y)) (hk : PySem.W.kitOne X.K (.ref C) (.ref Y) = some b) (he : DE X W E o te we) (hg : Gl X "isinstance" := by rfl) (hgy : Gl X y := by rfl) (hdb : (y == ("__debug__" : Str)) = false := by decide)
    (hp : X.mg "isinstance" = none → CallR X (.builtin "isinstance") (rIsE X.K C a) → PE X o te → PE X (.Name y p2) (tC (.ref Y)) → PE X (.Call (.Name "isinstance" p) [o, .Name y p2] [] pos) (tCB (rIsE X.K C a) (tCons te (tCons (tC (.ref Y)) tNil))) := by exact fun m z x y => pe_callB z (by rfl) m (by decide +kernel) (pa_cons x (pa_cons y pa_nil))) :
    DE X W E (.Call (.Name "isinstance" p) [o, .Name y p2] [] pos) (tCB (rIsE X.K C a) (tCons te (tCons (tC (.ref Y)) tNil))) (wIsx b a we) :=
  ⟨hp hmi (call_isx hc ex) he.pe (pe_glob hgy hy rfl hdb), dn_isx (fun u r => r) hk he.dn⟩
theorem eisxN (hc : HotE X a C) (ex : ExcC X.K C) (hmi : X.mg "isinstance" = none) (h : ∃ Y, X.mg y = some (.ref Y) ∧ PySem.W.kitOne X.K (.ref C) (.ref Y) = some b) (he : DE X W E o te we) (hg : Gl X "isinstance" := by rfl) (hgy : Gl X y := by rfl) (hdb : (y == ("__debug__" : Str)) = false := by decide)
    (hp : X.mg "isinstance" = none → CallR X (.builtin "isinstance") (rIsE X.K C a) → PE X o te → PE X (.Name y p2) (tC (.ref h.choose)) → PE X (.Call (.Name "isinstance" p) [o, .Name y p2] [] pos) (tCB (rIsE X.K C a) (tCons te (tCons (tC (.ref h.choose)) tNil))) := by exact fun m z x y => pe_callB z (by rfl) m (by decide +kernel) (pa_cons x (pa_cons y pa_nil))) :
    DE X W E (.Call (.Name "isinstance" p) [o, .Name y p2] [] pos) (tCB (rIsE X.K C a) (tCons te (tCons (tC (.ref h.choose)) tNil))) (wIsx b a we) :=
  ⟨hp hmi (call_isx hc ex) he.pe (pe_glob hgy h.choose_spec.1 rfl hdb), dn_isx (fun u r => r) h.choose_spec.2 he.dn⟩
theorem eisxB (hc : HotE X a C) (ex : ExcC X.K C) (T : String) (hmi : X.mg "isinstance" = none) (hy : X.mg y = none) (hvT : bootBuiltins y = some (.type T)) (hk : PySem.W.kitOne X.K (.ref C) (.type T) = some b) (he : DE X W E o te we) (hg : Gl X "isinstance" := by rfl) (hgy : Gl X y := by rfl)
    (hn : y ≠ "__name__" := by decide) (hdb : (y == ("__debug__" : Str)) = false := by decide)
    (hp : X.mg "isinstance" = none → CallR X (.builtin "isinstance") (rIsE X.K C a) → PE X o te → PE X (.Name y p2) (tC (.ty T)) → PE X (.Call (.Name "isinstance" p) [o, .Name y p2] [] pos) (tCB (rIsE X.K C a) (tCons te (tCons (tC (.ty T)) tNil))) := by exact fun m z x y => pe_callB z (by rfl) m (by decide +kernel) (pa_cons x (pa_cons y pa_nil))) :
    DE X W E (.Call (.Name "isinstance" p) [o, .Name y p2] [] pos) (tCB (rIsE X.K C a) (tCons te (tCons (tC (.ty T)) tNil))) (wIsx b a we) :=
  ⟨hp hmi (call_isx hc ex) he.pe (pe_bltn hgy hy hvT rfl hn hdb), dn_isx (fun u r => r) hk he.dn⟩
end
/-! ### try: body, except x as n: suite -/
theorem room_mark {k : Nat} {A : Around} {h : Option Value} (r : Room k A) : RoomH k (A.mark h) := ⟨r.dp, r.un⟩
def noW : WX := fun _ _ _ _ => False
def noE : EX := fun _ _ _ _ => False
theorem takes_no {X : Cx} : L2N.Takes X noW := fun u s' ⟨_, _, _, _, _, _, _, _, _, _, _, _, _, _, _, _, z⟩ => z.elim
def clrD (i : Nat) (D : DEnds) : DEnds := { nx := fun ρ μ => D.nx (ρ.set i none) μ, rt := D.rt, bk := fun ρ μ => D.bk (ρ.set i none) μ, ct := fun ρ μ => D.ct (ρ.set i none) μ }
/-- P: the classes that are caught -/
def wTry (P : Addr → Prop) (i : Nat) (wb : EX → WS) (ws : Addr → Addr → WS) : WS := fun D ρ μ => wb (fun C fs ρ1 μ1 => fs = [] ∧ P C ∧ ∀ a, μ1 a = none → ws a C (clrD i D) (ρ1.set i (some (.mut a))) μ1) D ρ μ
def tSuite (ts : Addr → Addr → TS) : Addr → Value → Option Addr → TS := fun a cls d => match cls, d with
  | .ref C, none => ts a C
  | _, _ => tNever
/-- the reading that w alone gives -/
def tOfS (K : PySem.W.Frag) (w : EX → WS) (W : WX) : TS := fun Ds σ H => ∃ E F μ ρ D0, S0 K W E F μ H ρ σ ∧ w E D0 ρ μ ∧ EndsOk K W E F D0 Ds
theorem pss_of {X : Cx} {W : WX} {sts : List Stmt} {w : EX → WS} (h : ∀ E, ∃ t, DSs X W E sts t (w E)) : PSs X sts (tOfS X.K w W) := ⟨fun pins s σ H Ds I ⟨E, F, μ, ρ, D0, s0, hw, e⟩ => (h E).elim fun t d => d.pe.run pins s σ H Ds I (d.dn F μ H ρ σ D0 Ds s0 hw e)⟩
section
variable {X : Cx} {W : WX} {E : EX} {P : Addr → Prop} {i : Nat} {x n : Str} {c : Value} {np pos pos' : Pos} {body suite : List Stmt} {b₀ : Stmt} {wb : EX → WS} {ws : Addr → Addr → WS}
theorem stry (tk : L2N.Takes X W) (hP : ∀ C, P C → PySem.W.exmOne X.K (.ref C) c = some true) (hc : Names X x c) (hN : X.N.Nodup)
    (hb : ∀ (W : WX) (E : EX) (pn : List (Addr × Obj)) (xe : Value → Shared → Prop), L2N.Takes (X.tr pn xe) W → ∃ t, DSs (X.tr pn xe) W E body t (wb E))
    (hsu : ∀ (a C : Addr) (pn : List (Addr × Obj)), HotE (X.suite a pn) a C → L2N.Takes (X.suite a pn) noW → ∃ t, DSs (X.suite a pn) noW noE (b₀ :: suite) t (ws a C))
    (hs : X.stack = X.env :: X.outer := by rfl) (hf : X.env.frame = some X.env.locals := by rfl) (hi : X.N[i]? = some n := by rfl) (hln : X.env.kindOf n = some .local := by rfl) :
    DS X W E (.Try body [.ExceptHandler (some (.Name x np)) (some n) (b₀ :: suite) pos'] [] [] pos) (fun D σ H => tOfS X.K wb (wAs X.K c i (tSuite fun a C => fun Ds σ H => ∃ F μ ρ D0, S0 X.K noW noE F μ H ρ σ ∧ ws a C D0 ρ μ ∧ EndsOk X.K noW noE F D0 Ds) W D) D σ H) (wTry P i wb ws) := by
  have hot : ∀ a C oe pn, L2N.Zn (.ref C) none oe → (∃ vs, oe.data = .fields vs) → HotE (X.suite a ((a, oe) :: pn)) a C := fun a C oe pn hz ⟨vs, hv⟩ => ⟨oe, List.mem_cons_self, ⟨rfl, vs, hv, hz.2.2 vs hv⟩, hz⟩
  refine ⟨L2N.ps_try_as hs hf hN hi hln hc tk (fun W' pn xe tk' _ => pss_of fun E => hb W' E pn xe tk') (fun a oe cls d pn hz hv => ?_), ?_⟩
  · unfold tSuite
    split
    · obtain ⟨t, su⟩ := hsu a _ _ (hot a _ oe pn hz hv) takes_no
      exact ⟨fun pins s σ H Ds I ⟨F, μ, ρ, D0, s0, hw, e⟩ => su.pe.run pins s σ H Ds I (su.dn F μ H ρ σ D0 Ds s0 hw e)⟩
    · exact pss_never
  · intro F μ H ρ σ D0 Ds s h e
    refine ⟨fun C fs ρ1 μ1 => fs = [] ∧ P C ∧ ∀ a, μ1 a = none → ws a C (clrD i D0) (ρ1.set i (some (.mut a))) μ1, F, μ, ρ, D0, ⟨s.ok, s.env, fun F1 μ1 H1 ρ1 σ1 C d fs g1 s1 env1 ex1 ⟨ef, hPC, hw⟩ => ?_⟩, h, fun F1 μ1 H1 ρ1 σ1 g1 s1 h1 => e.nx F1 μ1 H1 ρ1 σ1 g1 ⟨s1.ok, s1.env, s.wok.mono g1⟩ h1, e.rt, fun F1 μ1 H1 ρ1 σ1 g1 s1 h1 => e.bk F1 μ1 H1 ρ1 σ1 g1 ⟨s1.ok, s1.env, s.wok.mono g1⟩ h1, fun F1 μ1 H1 ρ1 σ1 g1 s1 h1 => e.ct F1 μ1 H1 ρ1 σ1 g1 ⟨s1.ok, s1.env, s.wok.mono g1⟩ h1⟩
    subst ef
    have ed : d = none := ex1.elim (fun z => z.2) fun z => absurd rfl z.1
    subst ed
    refine ⟨true, hP C hPC, fun _ a ha => ?_, fun z => nomatch z⟩
    have back : ∀ {N0 : En → Mu → Prop} {N : L2.St → Hp → Prop}, PN X.K W E F N0 N → PN X.K noW noE F1 (fun ρ μ => N0 (ρ.set i none) μ) (fun σ H => N (σ.set i none) H) := fun {N0 N} hn F2 μ2 H2 ρ2 σ2 g2 s2 h2 => hn F2 μ2 H2 _ _ (g1.trans g2) ⟨s2.ok, s2.env.clr, s.wok.mono (g1.trans g2)⟩ h2
    exact ⟨F1, μ1, _, clrD i D0, ⟨s1, env1.set (d := .mut a) (v := .ref a) rfl, fun _ _ _ _ _ _ _ _ _ _ _ _ z => z.elim⟩, hw a (s1.free ha).2, back e.nx, fun F2 μ2 H2 d v g2 s2 dv h2 => e.rt F2 μ2 H2 d v (g1.trans g2) s2 dv h2, back e.bk, back e.ct⟩
end
end DL
set_option maxHeartbeats 4000000
namespace DL
open PySem L2 PySem.Spec PyProof.Rows
/-! ### calls by keywords, with defaults: how they bind -/
theorem cbF {K : PySem.W.Frag} {x qual : Str} {st : Stmt} {f : Addr} {fd : FuncData} {ps ks : List Str} {n : Nat} (F : Fun K x qual st f fd) (g : {α : Type} → List α → List α → List α)
    (hrel : ∀ {vs : List V} {us : List Value} {zs : List V} {ws : List Value}, vs.length = n → zs.length = ks.length → Vals vs us → Vals zs ws → Vals (g vs zs) (g us ws))
    (h : ∀ (kV doc pm : Value) (an : Option Addr) (cdv ct : Value) (us ws : List Value), us.length = n → ws.length = ks.length → bindArgs (PySem.W.fnOf x qual (defArgs st) (defBody st) (defScope st) .none kV doc pm an cdv ct) ⟨us, ks.zip ws⟩ = pure (ps.zip (g us ws))) : CB K fd ps n ks g := by
  obtain ⟨oc, od, kV, dc, pm, an, cv, ct, sl, rfl, lk, hcd⟩ := F.ex
  exact ⟨g, fun s us ws _ l1 l2 => .of_eq (h kV dc pm an cv ct us ws l1 l2), hrel⟩
theorem cbD {K : PySem.W.Frag} {x qual : Str} {st : Stmt} {f : Addr} {fd : FuncData} {ps ks : List Str} {dvs : List V} {n : Nat} (F : FunD K x qual (defArgs st) (defBody st) (defScope st) dvs [] f fd) (hd : dvs ≠ []) (g : {α : Type} → List α → List α → List α → List α)
    (hrel : ∀ {vs ds : List V} {us its : List Value} {zs : List V} {ws : List Value}, vs.length = n → zs.length = ks.length → Vals vs us → Vals ds its → Vals zs ws → Vals (g vs ds zs) (g us its ws))
    (h : ∀ (T : Addr) (kV doc pm : Value) (an : Option Addr) (cdv ct : Value) (us its ws : List Value), us.length = n → its.length = dvs.length → ws.length = ks.length →
      ∃ k, bindArgs (PySem.W.fnOf x qual (defArgs st) (defBody st) (defScope st) (.ref T) kV doc pm an cdv ct) ⟨us, ks.zip ws⟩ = seqItems? (.ref T) >>= k ∧ k (some its.toArray) = pure (ps.zip (g us its ws))) : CB K fd ps n ks (fun vs zs => g vs dvs zs) := by
  obtain ⟨oc, od, dV, kV, dc, pm, an, cv, ct, sl, rfl, lk, hcd, hD, hK⟩ := F.ex
  rcases hD with ⟨e, _⟩ | ⟨_, T, o, its, m, rfl, lT, oT, rT⟩
  · exact absurd e hd
  · refine ⟨fun us ws => g us its ws, fun s us ws X l1 l2 => BindsTo.of_looks fun M => ?_, fun l1 l2 r1 r2 => hrel l1 l2 r1 rT r2⟩
    obtain ⟨k, e1, e2⟩ := h T kV dc pm an cv ct us its ws l1 rT.length.symm l2
    rw [e1]
    exact looks_items X lT oT (.of_pure e2)
section
variable {X : Cx} {W : WX} {E : EX} {k n m : Nat} {ps ks : List Str} {c : Ct} {x nm : Str} {p pos kpos : Pos} {e : Expr} {es : List Expr} {kws : List Keyword} {ta : TE} {wa : WEx} {tas tks : TA} {was wks : WA} {gV : List V → List V → List V} {gD : List D → List D → List D}
theorem ecallKm (tk : L2N.Takes X W) (h : DfG X.prog X.w X.K X.mg X.base x k ps n ks gV c) (hG : GD X.K n m gV gD) (hr : Room k X.A) (ha : DA X W E (e :: es) tas was) (hkw : DK X W E kws tks wks) (hkm : ks.length = m := by rfl)
    (hg : Gl X x := by rfl) (hks : (backToKw pos (keywordEach kws X.env)).filterMap (·.1) = ks := by rfl) (hall : (backToKw pos (keywordEach kws X.env)).all (·.1.isSome) = true := by rfl) (hdb : (x == ("__debug__" : Str)) = false := by decide) (he : starEach (e :: es) X.env = (false, eval e X.env) :: starEach es X.env := by rfl)
    (hpl : ((backTo pos (starEach (e :: es) X.env)).any (·.1) || (backToKw pos (keywordEach kws X.env)).any (·.1.isNone)) = false := by rfl) :
    DE X W E (.Call (.Name x p) (e :: es) kws pos) (tCallG n m (spD X.K c) gV (WE W) tas tks) (wCallG n m c gD E was wks) := by
  subst hkm
  exact ecallK tk h hG hr ha hkw hg hks hall hdb he hpl
theorem ecallK0m (tk : L2N.Takes X W) (h : DfG X.prog X.w X.K X.mg X.base x k ps 0 ks gV c) (hG : GD X.K 0 m gV gD) (hr : Room k X.A) (hkw : DK X W E kws tks wks) (hkm : ks.length = m := by rfl)
    (hg : Gl X x := by rfl) (hks : (backToKw pos (keywordEach kws X.env)).filterMap (·.1) = ks := by rfl) (hall : (backToKw pos (keywordEach kws X.env)).all (·.1.isSome) = true := by rfl) (hdb : (x == ("__debug__" : Str)) = false := by decide)
    (hpl : ((backTo pos (starEach [] X.env)).any (·.1) || (backToKw pos (keywordEach kws X.env)).any (·.1.isNone)) = false := by rfl) :
    DE X W E (.Call (.Name x p) [] kws pos) (tCallG 0 m (spD X.K c) gV (WE W) tNil tks) (wCallG 0 m c gD E wNil wks) := by
  subst hkm
  exact ecallK0 tk h hG hr hkw hg hks hall hdb hpl
end
theorem kcons2 {X : Cx} {W : WX} {E : EX} {nm : Str} {kpos : Pos} {e : Expr} {kws : List Keyword} {ta : TE} {wa : WEx} {tks : TA} {wks : WA} (ha : DE X W E e ta wa) (hr : DK X W E kws tks wks) : DK X W E (⟨nm, e, kpos⟩ :: kws) (tCons ta tks) (wCons wa wks) := ⟨pk_cons ha.pe hr.pe, dn_cons ha.dn hr.dn⟩
/-- a def that is called so -/
structure DfnG (K : PySem.W.Frag) (mg : Str → Option Value) (x qual : Str) (st : Stmt) (ps : List Str) (n : Nat) (ks : List Str) (gV : List V → List V → List V) : Prop where
  ex : ∃ f fd, Fun K x qual st f fd ∧ mg x = some (.ref f) ∧ CB K fd ps n ks gV
structure DfnD (K : PySem.W.Frag) (mg : Str → Option Value) (x qual : Str) (st : Stmt) (dvs : List V) : Prop where
  ex : ∃ f fd, FunD K x qual (defArgs st) (defBody st) (defScope st) dvs [] f fd ∧ mg x = some (.ref f)
theorem DfnG.of {K : PySem.W.Frag} {mg : Str → Option Value} {x qual : Str} {st : Stmt} {ps : List Str} {n : Nat} {ks : List Str} (D : Dfn K mg x qual st ps) (g : {α : Type} → List α → List α → List α)
    (hrel : ∀ {vs : List V} {us : List Value} {zs : List V} {ws : List Value}, vs.length = n → zs.length = ks.length → Vals vs us → Vals zs ws → Vals (g vs zs) (g us ws))
    (h : ∀ (kV doc pm : Value) (an : Option Addr) (cdv ct : Value) (us ws : List Value), us.length = n → ws.length = ks.length → bindArgs (PySem.W.fnOf x qual (defArgs st) (defBody st) (defScope st) .none kV doc pm an cdv ct) ⟨us, ks.zip ws⟩ = pure (ps.zip (g us ws))) : DfnG K mg x qual st ps n ks g := by
  obtain ⟨f, fd, F, hm, _⟩ := D
  exact ⟨f, fd, F, hm, cbF F g hrel h⟩
/-! ### two at once by keywords: the other way round -/
def rev2 {α : Type} (_ zs : List α) : List α := match zs with
  | [a, b] => [b, a]
  | _ => []
theorem rev2_rel {vs : List V} {us : List Value} {zs : List V} {ws : List Value} (_ : vs.length = 0) (l : zs.length = 2) (_ : Vals vs us) (r : Vals zs ws) : Vals (rev2 vs zs) (rev2 us ws) := by
  cases r with
  | nil => cases l
  | cons r1 r =>
    cases r with
    | nil => cases l
    | cons r2 r =>
      cases r with
      | nil => exact .cons r2 (.cons r1 .nil)
      | cons r3 r => cases l
theorem rev2_gd {K : PySem.W.Frag} : GD K 0 2 rev2 rev2 := by
  intro F ds es vs zs l1 l2 d1 d2
  match es, l2 with
  | [a, b], _ =>
    obtain ⟨v, r, rfl, da, u, r2, rfl, db, e⟩ := d2
    obtain rfl : r2 = [] := e
    exact DVs.cons db (DVs.cons da DVs.nil)
/-! ### the defaults behind, then the keywords (or either) -/
def fillV (dvs : List V) (vs _ : List V) : List V := vs ++ dvs
def fillD (dds : List D) (ds _ : List D) : List D := ds ++ dds
theorem fill_gd {K : PySem.W.Frag} {n : Nat} {i : Int} : GD K n 0 (fillV [.int i]) (fillD [.int i]) := by
  intro F ds es vs zs l1 l2 d1 d2
  exact d1.append (DVs.cons rfl DVs.nil)
def catV {α : Type} (vs zs : List α) : List α := vs ++ zs
theorem cat_gd {K : PySem.W.Frag} {n m : Nat} : GD K n m catV catV := fun F ds es vs zs _ _ d1 d2 => d1.append d2
end DL
set_option maxHeartbeats 4000000
namespace DL
open PySem L2 PySem.Spec PyProof.Rows
/-! ### the end: the law's def, called; the base tells that nobody looks -/
section
variable {P : Program} {w : World} {K : PySem.W.Frag} {mg mb : Str → Option Value} {CX : CXT} {k : Nat} {fa a : Addr} {fd : FuncData} {x : Str} {sp : Sp} {u : Shared} {vs : List Value} {ns : List Int}
theorem call_from (KX : K.In u.heap) (gG : u.heap.Ns mainGlobals mg) (gB : u.heap.Ns builtinsNs mb) (bb : ∀ x : Str, x ≠ "__name__" → mb x = bootBuiltins x) (lim : u.heap.NoLimit) (seer : u.heap.NoSeer) (gn : u.gens = #[])
    (ga : u.heap.get? a = some { cls := .type "list", data := .seq vs.toArray }) (room : Room k callerA) (F : ∀ base : Heap, K.In base → base.Ns mainGlobals mg → base.NoSeer → FnOk P w K mg base CX k fa fd [x] sp)
    (bind : ∀ (s : Shared) (v : Value), BindsTo s fd ⟨[v], []⟩ [(x, v)]) (noX : ∀ H e s', CX [] H u (fun _ _ _ => False) e s' → False) (H : Hp) (only : Only H) (tell : sp [.ref a] H (fun v _ => v = .bl true) fun _ _ _ => False)
    (hok : HOk P w H u.heap) (one : ∀ b, H b ≠ none → b = a) (inK : H a ≠ none → K.lookup a = none) :
    codeAny (model P w) callerA (.call (.ref fa) ⟨[.ref a], []⟩) (fun r s' => r = .ok (.ret (.bool true)) ∧ OldK u.heap s'.heap ∧ s'.os = u.os ∧ AllBare s'.gens) u := by
  have free : ∀ {b : Addr} {o : Obj}, u.heap.get? b = some o → (b = a → False) → H b = none := fun {b o} _ n => by
    cases q : H b with
    | none => rfl
    | some z => exact (n (one b (by rw [q]; exact fun e => nomatch e))).elim
  have ndict : ∀ {b : Addr} {o : Obj} {es : Array DictEntry} {ep : Nat}, u.heap.get? b = some o → o.data = .dict es ep → (hidT u.heap H).get? b = some o := fun {b o es ep} e d => hidT_get e (free e fun z => by
    subst z
    rw [ga] at e
    cases e
    cases d)
  have nsT : ∀ {b : Addr} {m : Str → Option Value}, u.heap.Ns b m → (hidT u.heap H).Ns b m := fun {b m} ⟨o, es, ep, e, d, r⟩ => ⟨o, es, ep, ndict e d, d, r⟩
  have inB : K.In (hidT u.heap H) := fun b o e => hidT_get (KX b o e) (by
    cases q : H b with
    | none => rfl
    | some z =>
      obtain rfl := one b (by rw [q]; exact fun e => nomatch e)
      rw [inK (by rw [q]; exact fun e => nomatch e)] at e
      cases e)
  have seerB : (hidT u.heap H).NoSeer := by
    obtain ⟨⟨mc, s1, s2⟩, ⟨mm, t1, t2⟩, ⟨m3, i1, i2⟩, ⟨mg', bm, ob, g1, g2, g3, g4, g5⟩⟩ := seer
    refine ⟨⟨mc, nsT s1, s2⟩, ⟨mm, nsT t1, t2⟩, ⟨m3, nsT i1, i2⟩, ⟨mg', bm, ob, nsT g1, g2, hidT_get g3 (free g3 fun z => ?_), g4, g5⟩⟩
    subst z
    rw [ga] at g3
    cases g3
    have z : Value.type "list" = Value.type "module" := g4
    injection z with z
    exact absurd z (by decide)
  obtain ⟨ml, l1, l2⟩ := lim
  have env : Env0 P w K mg (hidT u.heap H) callerA [] u H := ⟨rfl, ⟨inB, nsT gG, ⟨mb, nsT gB, bb⟩, ⟨ml, nsT l1, l2⟩⟩, fun b o e => of_hidT e, Nat.le_of_eq (hidT_size _ _), trivial, fun b hb => (nomatch hb), hok, .of_eq gn⟩
  refine codeAny_mono ((F _ inB (nsT gG) seerB).run callerA [] u H ⟨[.ref a], []⟩ [.ref a] [.ref a] _ _ room env (bind u (.ref a)) (.cons rfl .nil) tell) fun r s' h => ?_
  match r, h with
  | .error e, h => exact (noX H e s' h).elim
  | .ok .next, h => exact h.elim
  | .ok .brk, h => exact h.elim
  | .ok .cont, h => exact h.elim
  | .ok (.ret v), ⟨y, H', os, bare, un, hok', ry, q⟩ =>
    have q' : y = V.bl true := q
    subst q'
    obtain rfl : v = Value.bool true := ry
    refine ⟨rfl, OldK.of_keep fun b o e => ?_, os, bare⟩
    rcases only b with z | ⟨ob, xs, z⟩
    · exact un.keep b o e z (by intro i; cases i) (by simp)
    · obtain ⟨e1, _⟩ := hok b _ z
      obtain ⟨e2, _⟩ := hok' b _ (un.frzs b ob _ z)
      rw [e] at e1
      cases e1
      exact e2
end
theorem walk_seer {l : PySem.W.OpenLaw} {n k : Nat} {q : Program} {loose : List Str} {XP : (Str → Option Value) → Heap → Prop} {YP : World → Heap → Prop} {d : DefRec} {K : Params → PySem.W.Frag} {CX : World → CXT} {sp : PySem.W.Frag → Sp} {x : Str}
    (hn : l.most = some n) (hn2 : n ≤ sizeLine) (hdf : d.params.defaults = []) (hr : Room k callerA) (himp : importsNone q = true) (hY : ∀ (w : World) (h : Heap), YP w h → (K w.params).In h)
    (F : ∀ (w : World) (mg : Str → Option Value) (fa : Addr) (h : Heap), (K w.params).In h → h.Ns mainGlobals mg → mg d.name = some (.ref fa) → ∃ fd : FuncData, (∀ (s : Shared) (u : Value), BindsTo s fd ⟨[u], []⟩ [(x, u)]) ∧
      ∀ base : Heap, (K w.params).In base → base.Ns mainGlobals mg → base.NoSeer → FnOk l.prog w (K w.params) mg base (CX w) k fa fd [x] (sp (K w.params)))
    (hsp : ∀ (K : PySem.W.Frag) (H : Hp) (a : Addr) (ns : List Int), ns.length ≤ n → Only H → SqL K H a (ns.map V.int) → sp K [.ref a] H (fun v _ => v = .bl true) fun _ _ _ => False)
    (noX : ∀ (w : World) (H : Hp) (s : Shared) (e : Value) (s' : Shared), CX w [] H s (fun _ _ _ => False) e s' → False) : PySem.W.WalkO q loose XP YP l.row.toRowW d [] (fun f vs => PySem.call f vs) := by
  refine Att.attach_call hn hdf fun w s₀ u mg mb fa o pm cd doc a vs ns G Y ho hd hcd hmg ga hi hlen gn => ?_
  have KX := hY w _ Y
  obtain ⟨fd, hb, hF⟩ := F w mg fa _ KX G.T.g hmg
  have lenV := hi.length
  have szl : ns.length ≤ sizeLine := Nat.le_trans hlen hn2
  have rv := vals_ints hi
  cases hk : (K w.params).lookup a with
  | some ob =>
    have e := KX a ob hk
    rw [ga] at e
    cases e
    refine call_from KX G.T.g G.T.b G.T.builtins G.T.nolimit (G.T.seer himp) gn ga hr hF hb (fun H e s' => noX w H _ e s') (fun _ => none) (fun _ => .inl rfl) (hsp _ _ a ns hlen (fun _ => .inl rfl) (.inr ⟨_, vs.toArray, _, hk, rfl, rfl, rfl, by rw [List.size_toArray, lenV]; exact szl, by simpa using rv⟩)) (fun b z y => ?_) (fun b z => absurd rfl z) fun z => absurd rfl z
    have y : (none : Option HO) = some z := y
    cases y
  | none =>
    have on : Only (fun b => if b = a then some (.frz { cls := .type "list", data := .seq vs.toArray } (.lst (ns.map V.int))) else none) := fun b => by
      by_cases z : b = a
      · exact .inr ⟨_, _, if_pos z⟩
      · exact .inl (if_neg z)
    refine call_from KX G.T.g G.T.b G.T.builtins G.T.nolimit (G.T.seer himp) gn ga hr hF hb (fun H e s' => noX w H _ e s') _ on (hsp _ _ a ns hlen on (.inl (.inr ⟨_, if_pos rfl⟩))) (fun b z y => ?_) (fun b z => ?_) fun _ => hk
    · by_cases hb : b = a
      · have y' := (if_pos hb).symm.trans y
        cases y'
        subst hb
        exact ⟨ga, by rw [List.length_map]; exact szl, vs, _, rv, ga⟩
      · have y' := (if_neg hb).symm.trans y
        cases y'
    · by_cases hb : b = a
      · exact hb
      · exact (z (if_neg hb)).elim
/-! ### what stands behind the top -/
/-- a def's parts -/
def FnP (K : PySem.W.Frag) (x : Str) (st : Stmt) : Prop := ∃ (f : Addr) (oc : Value) (od : Option Addr) (kV dc pm : Value) (an : Option Addr) (cd ct : Value) (sl : Array (Option Value)), PySem.W.nsIn K mainGlobals x = some (some (.ref f)) ∧
  K.lookup f = some ⟨oc, od, .func (PySem.W.fnOf x x (defArgs st) (defBody st) (defScope st) .none kV dc pm an cd ct), sl⟩ ∧ PySem.W.codeIn K cd x = true ∧ PySem.W.keepIn K (.ref f) = true
theorem fnp_mk {K : PySem.W.Frag} {x : Str} {st : Stmt} {f : Addr} {oc : Value} {od : Option Addr} {kV dc pm : Value} {an : Option Addr} {cd ct : Value} {sl : Array (Option Value)} (a : PySem.W.nsIn K mainGlobals x = some (some (.ref f)))
    (l : K.lookup f = some ⟨oc, od, .func (PySem.W.fnOf x x (defArgs st) (defBody st) (defScope st) .none kV dc pm an cd ct), sl⟩) (c : PySem.W.codeIn K cd x = true) (k : PySem.W.keepIn K (.ref f) = true) : FnP K x st := ⟨f, oc, od, kV, dc, pm, an, cd, ct, sl, a, l, c, k⟩
theorem FnP.dfn {K : PySem.W.Frag} {h : Heap} {mg : Str → Option Value} {x : Str} {st : Stmt} {ps : List Str} (p : FnP K x st) (X : K.In h) (G : h.Ns mainGlobals mg)
    (hb : ∀ (kV doc pm : Value) (an : Option Addr) (cdv ct : Value) (us : List Value), us.length = ps.length → bindArgs (PySem.W.fnOf x x (defArgs st) (defBody st) (defScope st) .none kV doc pm an cdv ct) ⟨us, []⟩ = pure (ps.zip us)) : Dfn K mg x x st ps := by
  obtain ⟨f, oc, od, kV, dc, pm, an, cd, ct, sl, a, l, c, k⟩ := p
  have F := fun_mk (st := st) l c k
  exact ⟨f, _, F, PySem.W.mg_of X G a, F.binds hb⟩
/-- one with an integer as its default -/
def FnPD (K : PySem.W.Frag) (x : Str) (st : Stmt) (i : Int) : Prop := ∃ (f T : Addr) (oc : Value) (od : Option Addr) (kV dc pm : Value) (an : Option Addr) (cd ct : Value) (sl : Array (Option Value)) (to : Obj) (tk : Tok) (tn : Nat), PySem.W.nsIn K mainGlobals x = some (some (.ref f)) ∧
  K.lookup f = some ⟨oc, od, .func (PySem.W.fnOf x x (defArgs st) (defBody st) (defScope st) (.ref T) kV dc pm an cd ct), sl⟩ ∧ PySem.W.codeIn K cd x = true ∧ PySem.W.keepIn K (.ref f) = true ∧ K.lookup T = some to ∧ to.data = .seq #[.int i tk] tn
theorem fnpd_mk {K : PySem.W.Frag} {x : Str} {st : Stmt} {i : Int} {f T : Addr} {oc : Value} {od : Option Addr} {kV dc pm : Value} {an : Option Addr} {cd ct : Value} {sl : Array (Option Value)} {tc : Value} {td : Option Addr} {tsl : Array (Option Value)} {tk : Tok} {tn : Nat} (a : PySem.W.nsIn K mainGlobals x = some (some (.ref f)))
    (l : K.lookup f = some ⟨oc, od, .func (PySem.W.fnOf x x (defArgs st) (defBody st) (defScope st) (.ref T) kV dc pm an cd ct), sl⟩) (c : PySem.W.codeIn K cd x = true) (k : PySem.W.keepIn K (.ref f) = true) (t : K.lookup T = some ⟨tc, td, .seq #[.int i tk] tn, tsl⟩) : FnPD K x st i := ⟨f, T, oc, od, kV, dc, pm, an, cd, ct, sl, _, tk, tn, a, l, c, k, t, rfl⟩
theorem FnPD.dfn {K : PySem.W.Frag} {h : Heap} {mg : Str → Option Value} {x : Str} {st : Stmt} {i : Int} (p : FnPD K x st i) (X : K.In h) (G : h.Ns mainGlobals mg) : DfnD K mg x x st [.int i] := by
  obtain ⟨f, T, oc, od, kV, dc, pm, an, cd, ct, sl, to, tk, tn, a, l, c, k, t, e⟩ := p
  have hD : DflV K (.ref T) [V.int i] := Or.inr ⟨(fun z => nomatch z), T, to, [Value.int i tk], tn, rfl, t, e, Paired.cons ⟨tk, rfl⟩ .nil⟩
  have FD : FunD K x x (defArgs st) (defBody st) (defScope st) [V.int i] [] f _ := ⟨⟨oc, od, _, kV, dc, pm, an, cd, ct, sl, rfl, l, c, hD, Or.inl rfl⟩, k⟩
  exact ⟨f, _, FD, PySem.W.mg_of X G a⟩
def FnPX {K : PySem.W.Frag} {h : Heap} (_ : K.In h) (x : Str) (st : Stmt) : Prop := FnP K x st
def FnPDX {K : PySem.W.Frag} {h : Heap} (_ : K.In h) (x : Str) (st : Stmt) (i : Int) : Prop := FnPD K x st i
end DL
set_option maxHeartbeats 4000000
namespace DL
open PySem L2 PySem.Spec PyProof.Rows
/-! ### the end over a head that tells facts -/
theorem walk_seerE {l : PySem.W.OpenLaw} {n k : Nat} {q : Program} {loose : List Str} {XP : (Str → Option Value) → Heap → Prop} {YP : World → Heap → Prop} {d : DefRec} {CX : World → CXT} {x : Str}
    (hn : l.most = some n) (hn2 : n ≤ sizeLine) (hdf : d.params.defaults = []) (hr : Room k callerA) (himp : importsNone q = true)
    (F : ∀ (w : World) (mg : Str → Option Value) (fa : Addr) (h : Heap), YP w h → h.Ns mainGlobals mg → mg d.name = some (.ref fa) → ∃ (K : PySem.W.Frag) (fd : FuncData) (sp : Sp), K.In h ∧ (∀ (s : Shared) (u : Value), BindsTo s fd ⟨[u], []⟩ [(x, u)]) ∧
      (∀ (H : Hp) (a : Addr) (ns : List Int), ns.length ≤ n → Only H → SqL K H a (ns.map V.int) → sp [.ref a] H (fun v _ => v = .bl true) fun _ _ _ => False) ∧
      ∀ base : Heap, K.In base → base.Ns mainGlobals mg → base.NoSeer → FnOk l.prog w K mg base (CX w) k fa fd [x] sp)
    (noX : ∀ (w : World) (H : Hp) (s : Shared) (e : Value) (s' : Shared), CX w [] H s (fun _ _ _ => False) e s' → False) : PySem.W.WalkO q loose XP YP l.row.toRowW d [] (fun f vs => PySem.call f vs) := by
  refine Att.attach_call hn hdf fun w s₀ u mg mb fa o pm cd doc a vs ns G Y ho hd hcd hmg ga hi hlen gn => ?_
  obtain ⟨K, fd, sp, KX, hb, hsp, hF⟩ := F w mg fa _ Y G.T.g hmg
  have lenV := hi.length
  have szl : ns.length ≤ sizeLine := Nat.le_trans hlen hn2
  have rv := vals_ints hi
  cases hk : K.lookup a with
  | some ob =>
    have e := KX a ob hk
    rw [ga] at e
    cases e
    refine call_from KX G.T.g G.T.b G.T.builtins G.T.nolimit (G.T.seer himp) gn ga hr hF hb (fun H e s' => noX w H _ e s') (fun _ => none) (fun _ => .inl rfl) (hsp _ a ns hlen (fun _ => .inl rfl) (.inr ⟨_, vs.toArray, _, hk, rfl, rfl, rfl, by rw [List.size_toArray, lenV]; exact szl, by simpa using rv⟩)) (fun b z y => ?_) (fun b z => absurd rfl z) fun z => absurd rfl z
    have y : (none : Option HO) = some z := y
    cases y
  | none =>
    have on : Only (fun b => if b = a then some (.frz { cls := .type "list", data := .seq vs.toArray } (.lst (ns.map V.int))) else none) := fun b => by
      by_cases z : b = a
      · exact .inr ⟨_, _, if_pos z⟩
      · exact .inl (if_neg z)
    refine call_from KX G.T.g G.T.b G.T.builtins G.T.nolimit (G.T.seer himp) gn ga hr hF hb (fun H e s' => noX w H _ e s') _ on (hsp _ a ns hlen on (.inl (.inr ⟨_, if_pos rfl⟩))) (fun b z y => ?_) (fun b z => ?_) fun _ => hk
    · by_cases hb : b = a
      · have y' := (if_pos hb).symm.trans y
        cases y'
        subst hb
        exact ⟨ga, by rw [List.length_map]; exact szl, vs, _, rv, ga⟩
      · have y' := (if_neg hb).symm.trans y
        cases y'
    · by_cases hb : b = a
      · exact hb
      · exact (z (if_neg hb)).elim
/-- a def's datum: no defaults -/
def df (x : Str) (st : Stmt) : He.DefD := ⟨(x, none), x, x, defArgs st, defBody st, defScope st, [], []⟩
def dfI (x : Str) (st : Stmt) (i : Int) : He.DefD := ⟨(x, none), x, x, defArgs st, defBody st, defScope st, [.int i], []⟩
theorem dfn_of {K : PySem.W.Frag} {h : Heap} {mg : Str → Option Value} {fa : List He.Fa} {fn : List He.DefD} (X : K.In h) (G : h.Ns mainGlobals mg) (c : He.SaysD fa fn K) {x : Str} {st : Stmt} {ps : List Str} (i j : Nat) (hi : fn[i]? = some (df x st)) (hj : fa[j]? = some (.glo x))
    (hb : ∀ (kV doc pm : Value) (an : Option Addr) (cdv ct : Value) (us : List Value), us.length = ps.length → bindArgs (PySem.W.fnOf x x (defArgs st) (defBody st) (defScope st) .none kV doc pm an cdv ct) ⟨us, []⟩ = pure (ps.zip us)) : Dfn K mg x x st ps := by
  obtain ⟨fd, F⟩ := c.def_ i hi
  obtain ⟨oc, od, dV, kV, dc, pm, an, cd, ct, sl, e, l, cc, hD, _⟩ := F.ex
  have hg := He.glo_ok X G (c.fact j hj)
  have hD : DflV K dV [] := hD
  rcases hD with ⟨_, rfl⟩ | ⟨z, _⟩
  · have F2 : Fun K x x st _ fd := ⟨⟨oc, od, kV, dc, pm, an, cd, ct, sl, e, l, cc⟩, F.kp⟩
    exact ⟨_, fd, F2, hg, F2.binds hb⟩
  · exact absurd rfl z
theorem dfd_of {K : PySem.W.Frag} {h : Heap} {mg : Str → Option Value} {fa : List He.Fa} {fn : List He.DefD} (X : K.In h) (G : h.Ns mainGlobals mg) (c : He.SaysD fa fn K) {x : Str} {st : Stmt} {k : Int} (i j : Nat) (hi : fn[i]? = some (dfI x st k)) (hj : fa[j]? = some (.glo x)) : DfnD K mg x x st [.int k] := by
  obtain ⟨fd, F⟩ := c.def_ i hi
  exact ⟨_, fd, F, He.glo_ok X G (c.fact j hj)⟩
/-- the law's promise, of a script of whole numbers -/
theorem law_sp {K : PySem.W.Frag} {c : Ct} {H : Hp} {a : Addr} {ns : List Int} {n : Nat} (hl : ns.length ≤ n) (hs : SqL K H a (ns.map V.int)) (hc : ∀ μ Q E, Q (.bl true) μ → c [.lsr (ns.map D.int)] μ Q E) : spD K c [.ref a] H (fun v _ => v = .bl true) fun _ _ _ => False := by
  refine ⟨H, fun _ => none, [.lsr (ns.map D.int)], fun d _ => d = .bl true, fun _ _ _ => False, ⟨fun _ _ e => e, fun _ _ e => (nomatch e)⟩, ⟨_, _, rfl, ⟨a, _, rfl, hs, DVs.of_ints⟩, rfl⟩, hc _ _ _ rfl, fun F' μ' H' d v g s' dv hq => ?_, fun F' μ' H' C dd fs g s' ex hq => ?_⟩
  · obtain ⟨μ2, _, rfl⟩ := hq
    exact dv
  · obtain ⟨μ2, _, z⟩ := hq
    exact z
end DL
set_option maxHeartbeats 4000000
namespace DL
open PySem L2 PySem.Spec PyProof.Rows
/-! ### objects: fields -/
def fieldsD (μ : Mu) : D → Option (Addr × List (Str × D))
  | .mut a => match μ a with
    | some (.ins C fs) => some (C, fs)
    | _ => none
  | .ins C fs l => some (C, fs.zip l)
  | _ => none
/-- PC: the classes that such an object may have here -/
def wFld (PC : Addr → Prop) (f : Str) (a : WEx) : WEx := fun ρ μ Q => a ρ μ fun d μ1 => match fieldsD μ1 d with
  | some (C, fs) => PC C ∧ match fs.lookup f with
    | some v => Q v μ1
    | none => False
  | none => False
theorem kd_look {K : PySem.W.Frag} {F : Hp} {f : Str} : ∀ {fs : List (Str × D)} {ys : List (Str × V)} {d : D}, KD K F fs ys → fs.lookup f = some d → ∃ v, ys.lookup f = some v ∧ DV K F d v
  | [], _, _, _, h => by cases h
  | (g, e) :: fs, ys, d, ⟨h1, h2⟩, h => by
    obtain ⟨v, r, e2, dv, dr⟩ := h2
    cases ys with
    | nil => cases h1
    | cons y ys =>
      have t1 : y.1 = g ∧ ys.map (·.1) = fs.map (·.1) := List.cons.inj h1
      have e2 : y.2 = v ∧ ys.map (·.2) = r := List.cons.inj e2
      obtain ⟨y1, y2⟩ := y
      obtain ⟨rfl, t1⟩ := t1
      obtain ⟨rfl, rfl⟩ := e2
      rw [List.lookup_cons] at h ⊢
      cases q : (f == y1) with
      | true => rw [q] at h; cases h; exact ⟨_, rfl, dv⟩
      | false => rw [q] at h; exact kd_look ⟨t1, dr⟩ h
theorem kd_none {K : PySem.W.Frag} {F : Hp} {f : Str} : ∀ {fs : List (Str × D)} {ys : List (Str × V)}, KD K F fs ys → fs.lookup f = none → ys.lookup f = none
  | [], ys, ⟨h1, _⟩, _ => by
    cases ys with
    | nil => rfl
    | cons y ys => cases h1
  | (g, e) :: fs, ys, ⟨h1, h2⟩, h => by
    obtain ⟨v, r, e2, dv, dr⟩ := h2
    cases ys with
    | nil => cases h1
    | cons y ys =>
      have t1 : y.1 = g ∧ ys.map (·.1) = fs.map (·.1) := List.cons.inj h1
      have e2 : y.2 = v ∧ ys.map (·.2) = r := List.cons.inj e2
      obtain ⟨y1, y2⟩ := y
      obtain ⟨rfl, t1⟩ := t1
      obtain ⟨rfl, rfl⟩ := e2
      rw [List.lookup_cons] at h ⊢
      cases q : (f == y1) with
      | true => rw [q] at h; cases h
      | false => rw [q] at h; exact kd_none ⟨t1, dr⟩ h
theorem fields_ok {K : PySem.W.Frag} {F H : Hp} {μ : Mu} {d : D} {v : V} {C : Addr} {fs : List (Str × D)} (s : Sok K F μ H) (dv : DV K F d v) (e : fieldsD μ d = some (C, fs)) : ∃ a dx ys, v = .ref a ∧ H a = some (.ins C dx ys) ∧ KD K F fs ys := by
  unfold fieldsD at e
  split at e
  · rename_i a
    split at e
    · rename_i C' fs' em
      cases e
      obtain rfl : v = V.ref a := dv
      obtain ⟨_, dx, ys, ho, k⟩ := s.cel a _ em
      exact ⟨a, dx, ys, rfl, ho, k⟩
    · cases e
  · rename_i C' fs' l
    cases e
    obtain ⟨a, dx, kvs, rfl, ho, h1, h2⟩ := dv
    have ll : l.length = fs'.length := by rw [← h2.len, ← h1, List.length_map, List.length_map]
    refine ⟨a, dx, kvs, rfl, s.sub _ _ ho, ?_, ?_⟩
    · rw [h1, List.map_fst_zip (by omega)]
    · rw [List.map_snd_zip (by omega)]; exact h2
  · cases e
section
variable {K : PySem.W.Frag} {W : WX} {E : EX} {ta tv : TE} {wa wv : WEx} {PC : Addr → Prop} {f : Str}
theorem dn_fld (hP : ∀ C, PC C → Cls K C ∧ NoAttr K C f) (ha : Dn K W E ta wa) : Dn K W E (tFld K ta f) (wFld PC f wa) := by
  intro F μ H ρ σ Q0 Q s h q
  refine ha F μ H ρ σ _ _ s h fun F1 μ1 H1 d v g1 s1 dv h1 => ?_
  split at h1
  · rename_i C fs e
    obtain ⟨hC, h1⟩ := h1
    split at h1
    · rename_i y ey
      obtain ⟨a, dx, ys, rfl, ho, kd⟩ := fields_ok s1.ok dv e
      obtain ⟨u, eu, du⟩ := kd_look kd ey
      obtain ⟨c, n⟩ := hP C hC
      exact ⟨a, C, dx, ys, u, rfl, ho, c, n, eu, q F1 μ1 H1 y u g1 s1 du h1⟩
    · exact h1.elim
  · exact h1.elim
/-- a field put -/
def putD (f : Str) (y : D) : List (Str × D) → List (Str × D)
  | [] => [(f, y)]
  | (g, x) :: r => if g = f then (g, y) :: r else (g, x) :: putD f y r
theorem kd_put {F : Hp} {y : D} {u : V} (dy : DV K F y u) : ∀ {fs : List (Str × D)} {ys : List (Str × V)}, KD K F fs ys → KD K F (putD f y fs) (putF f u ys)
  | [], ys, ⟨h1, _⟩ => by
    cases ys with
    | nil => exact ⟨rfl, u, [], rfl, dy, rfl⟩
    | cons y ys => cases h1
  | (g, e) :: fs, ys, ⟨h1, h2⟩ => by
    obtain ⟨v, r, e2, dv, dr⟩ := h2
    cases ys with
    | nil => cases h1
    | cons z ys =>
      have t1 : z.1 = g ∧ ys.map (·.1) = fs.map (·.1) := List.cons.inj h1
      have e2 : z.2 = v ∧ ys.map (·.2) = r := List.cons.inj e2
      obtain ⟨z1, z2⟩ := z
      obtain ⟨rfl, t1⟩ := t1
      obtain ⟨rfl, rfl⟩ := e2
      unfold putD putF
      by_cases c : z1 = f
      · rw [if_pos c, if_pos c]
        exact ⟨congrArg (z1 :: ·) t1, u, _, rfl, dy, dr⟩
      · rw [if_neg c, if_neg c]
        have ih := kd_put dy (fs := fs) (ys := ys) ⟨t1, dr⟩
        exact ⟨congrArg (z1 :: ·) ih.1, z2, _, rfl, dv, ih.2⟩
def wSetF (PC : Addr → Prop) (f : Str) (o v : WEx) : WS := fun D ρ μ => v ρ μ fun y μ1 => o ρ μ1 fun x μ2 => match x with
  | .mut a => match μ2 a with
    | some (.ins C fs) => PC C ∧ fs.length < 1000 ∧ D.nx ρ (um μ2 a (.ins C (putD f y fs)))
    | _ => False
  | _ => False
theorem dn_setf (hP : ∀ C, PC C → Cls K C ∧ NoAttr K C f) (ho : Dn K W E ta wa) (hv : Dn K W E tv wv) : DnS K W E (sFld K ta tv f) (wSetF PC f wa wv) := by
  intro F μ H ρ σ D0 Ds s h e
  refine hv F μ H ρ σ _ _ s h fun F1 μ1 H1 y u g1 s1 dy h1 => ?_
  refine ho F1 μ1 H1 ρ σ _ _ s1 h1 fun F2 μ2 H2 x w g2 s2 dx2 h2 => ?_
  split at h2
  · rename_i a
    split at h2
    · rename_i C fs em
      obtain ⟨hC, hl, h2⟩ := h2
      obtain rfl : w = V.ref a := dx2
      obtain ⟨c, n⟩ := hP C hC
      obtain ⟨ff, dx, ys, ha, kd⟩ := s2.ok.cel a _ em
      have ly : ys.length = fs.length := by have := congrArg List.length kd.1; rwa [List.length_map, List.length_map] at this
      refine ⟨a, C, dx, ys, rfl, ha, c, n, by omega, e.nx F2 _ _ ρ σ (g1.trans g2) (s2.mono Grow.refl (s2.ok.cell (m := .ins C _) ff ⟨dx, _, upd_same, kd_put (dy.mono g2) kd⟩)) h2⟩
    · exact h2.elim
  · exact h2.elim
end
section
variable {X : Cx} {W : WX} {E : EX} {o v : Expr} {ta tv : TE} {wa wv : WEx} {pos pos' : Pos}
theorem efld {f : Str} (PC : Addr → Prop) (hP : ∀ C, PC C → Cls X.K C ∧ NoAttr X.K C f) (ha : DE X W E o ta wa) (hb : attributeBase o f X.env (eval o X.env) = eval o X.env := by rfl) : DE X W E (.Attribute o f pos) (tFld X.K ta f) (wFld PC f wa) := ⟨pe_fld ha.pe hb, dn_fld hP ha.dn⟩
theorem ssetf {f : Str} (PC : Addr → Prop) (hP : ∀ C, PC C → Cls X.K C ∧ NoAttr X.K C f) (ho : DE X W E o ta wa) (hv : DE X W E v tv wv) (hs : swapsWith v (some (.Attribute o f pos')) pos.line X.env = pure false := by rfl) : DS X W E (.Assign [.Attribute o f pos'] v pos) (sFld X.K ta tv f) (wSetF PC f wa wv) := ⟨ps_fld ho.pe hv.pe hs, dn_setf hP ho.dn hv.dn⟩
end
/-! ### methods, makers, properties -/
/-- a class's method -/
structure DfM (P : Program) (w : World) (K : PySem.W.Frag) (mg : Str → Option Value) (base : Heap) (C : Addr) (m : Str) (k : Nat) (ps : List Str) (c : Ct) : Prop where
  ex : ∃ f fd, FnOk P w K mg base (L2N.CX P w) k f fd ps (spD K c) ∧ Meth K C m f ∧ Binds K fd ps []
  cls : Cls K C
def tMethS (C : Addr) (m : Str) (sp : Sp) (E : L2.St → XK) (ta : TE) (t : TA) : TE := fun σ H Q => ta σ H fun x H1 => ∃ a dx fs, x = .ref a ∧ H1 a = some (.ins C dx fs) ∧ fs.lookup m = none ∧ t σ H1 fun vs H2 => sp (x :: vs) H2 Q (E σ)
def wMeth (C : Addr) (m : Str) (c : Ct) (E : EX) (o : WEx) (a : WA) : WEx := fun ρ μ Q => o ρ μ fun x μ1 => (∃ fs, fieldsD μ1 x = some (C, fs) ∧ fs.lookup m = none) ∧ a ρ μ1 fun ds μ2 => c (x :: ds) μ2 Q fun D fs μ3 => E D fs ρ μ3
section
variable {X : Cx} {W : WX} {E : EX} {o e : Expr} {es : List Expr} {ta : TE} {wa : WEx} {tas : TA} {was : WA} {pos apos p : Pos} {C : Addr} {m x : Str} {k : Nat} {ps : List Str} {c : Ct}
theorem pe_methN {f : Addr} {fd : FuncData} {sp : Sp} {CX : CXT} {E : L2.St → XK} {pl : Sem Bool} (he : PE X o ta) (cl : Cls X.K C) (hm : Meth X.K C m f) (F : FnOk X.prog X.w X.K X.mg X.base CX k f fd ps sp) (hr : Room k X.A) (hb : Binds X.K fd ps []) (hx : ∀ σ, PassesAt CX X σ (E σ)) (ha : PA X (e :: es) tas)
    (hst : starEach (e :: es) X.env = (false, eval e X.env) :: starEach es X.env) (hpl : (backTo pos (starEach es X.env)).any (·.1) = false)
    (ht : eval (.Call (.Attribute o m apos) (e :: es) [] pos) X.env = (do
      let ov ← eval o X.env
      standAt apos.atName
      let (g, first) ← holding [ov] (getMethod ov m pl)
      callWith pos g first (backTo pos (starEach (e :: es) X.env)) (backToKw pos (keywordEach [] X.env)))) : PE X (.Call (.Attribute o m apos) (e :: es) [] pos) (tMethS C m sp E ta tas) := by
  refine ⟨fun pins s σ H Q I h => PySem.W.methodCall_KW (pl := pl) (thn (he.run pins s σ H _ I h) fun u s1 ⟨y, H1, I1, ry, a, dx, fs, ey, ea, l, q⟩ => ?_) ht⟩
  subst ey
  obtain rfl : u = Value.ref a := ry
  refine getmeth_ok I1 ea cl hm l ?_
  refine PySem.W.callWith_K (first := [.ref a]) (h₀ := X.base) I.ok.mod.kin hm.kp (thn (ha.run pos pins s1 σ H1 _ I1 q) fun us s2 ⟨vs, H2, I2, r, z⟩ => ⟨I2.kIn, ?_⟩) hst hpl
  exact run_fnSD (us := .ref a :: us) (vs := .ref a :: vs) (ds := []) (dvs := []) F hr hb .nil (hx σ) I2 (.cons rfl r) (by rw [List.append_nil]; exact z)
theorem pe_methN0 {f : Addr} {fd : FuncData} {sp : Sp} {CX : CXT} {E : L2.St → XK} {pl : Sem Bool} (he : PE X o ta) (cl : Cls X.K C) (hm : Meth X.K C m f) (F : FnOk X.prog X.w X.K X.mg X.base CX k f fd ps sp) (hr : Room k X.A) (hb : Binds X.K fd ps []) (hx : ∀ σ, PassesAt CX X σ (E σ))
    (ht : eval (.Call (.Attribute o m apos) [] [] pos) X.env = (do
      let ov ← eval o X.env
      standAt apos.atName
      let (g, first) ← holding [ov] (getMethod ov m pl)
      callWith pos g first (backTo pos (starEach [] X.env)) (backToKw pos (keywordEach [] X.env)))) : PE X (.Call (.Attribute o m apos) [] [] pos) (tMethS C m sp E ta tNil) := by
  refine ⟨fun pins s σ H Q I h => PySem.W.methodCall_KW (pl := pl) (thn (he.run pins s σ H _ I h) fun u s1 ⟨y, H1, I1, ry, a, dx, fs, ey, ea, l, q⟩ => ?_) ht⟩
  subst ey
  obtain rfl : u = Value.ref a := ry
  refine getmeth_ok I1 ea cl hm l ?_
  exact PySem.W.callWith_K0 (first := [.ref a]) I1.kIn hm.kp (run_fnSD (us := [.ref a]) (vs := [.ref a]) (ds := []) (dvs := []) F hr hb .nil (hx σ) I1 (.cons rfl .nil) (by rw [List.append_nil]; exact q))
theorem dn_meth {K : PySem.W.Frag} (ho : Dn K W E ta wa) (ha : DnA K W E tas was) : Dn K W E (tMethS C m (spD K c) (WE W) ta tas) (wMeth C m c E wa was) := by
  intro F μ H ρ σ Q0 Q s h q
  refine ho F μ H ρ σ _ _ s h fun F1 μ1 H1 d v g1 s1 dv ⟨⟨fs, ef, hn⟩, h1⟩ => ?_
  obtain ⟨a, dx, ys, rfl, ha1, kd⟩ := fields_ok s1.ok dv ef
  refine ⟨a, dx, ys, rfl, ha1, kd_none kd hn, ha F1 μ1 H1 ρ σ _ _ s1 h1 fun F2 μ2 H2 ds vs g2 s2 dvs h2 => ?_⟩
  refine ⟨F2, μ2, d :: ds, _, _, s2.ok, DVs.cons (dv.mono g2) dvs, h2, fun F3 μ3 H3 d3 v3 g3 s3 dv3 ⟨μ4, l, h3⟩ => ?_, fun F3 μ3 H3 D fs g3 g4 s3 ex ⟨μ4, l, h3⟩ => ?_⟩
  · exact q F3 μ4 H3 d3 v3 (g1.trans (g2.trans g3)) ((s2.mono g3 s3).weak l) dv3 h3
  · exact s2.wok F3 μ4 H3 ρ σ D fs g3 g4 (s3.weak l) (s2.env.mono g4) ex h3
theorem emeth {pl : Sem Bool} (tk : L2N.Takes X W) (h : DfM X.prog X.w X.K X.mg X.base C m k ps c) (hr : Room k X.A) (ho : DE X W E o ta wa) (ha : DA X W E (e :: es) tas was)
    (hst : starEach (e :: es) X.env = (false, eval e X.env) :: starEach es X.env := by rfl) (hpl : (backTo pos (starEach es X.env)).any (·.1) = false := by rfl)
    (ht : eval (.Call (.Attribute o m apos) (e :: es) [] pos) X.env = (do
      let ov ← eval o X.env
      standAt apos.atName
      let (g, first) ← holding [ov] (getMethod ov m pl)
      callWith pos g first (backTo pos (starEach (e :: es) X.env)) (backToKw pos (keywordEach [] X.env))) := by rfl) :
    DE X W E (.Call (.Attribute o m apos) (e :: es) [] pos) (tMethS C m (spD X.K c) (WE W) ta tas) (wMeth C m c E wa was) := by
  obtain ⟨⟨f, fd, G, hm, hb⟩, cl⟩ := h
  exact ⟨pe_methN ho.pe cl hm G hr hb (fun σ => L2N.passAt tk σ) ha.pe hst hpl ht, dn_meth ho.dn ha.dn⟩
theorem emeth0 {pl : Sem Bool} (tk : L2N.Takes X W) (h : DfM X.prog X.w X.K X.mg X.base C m k ps c) (hr : Room k X.A) (ho : DE X W E o ta wa)
    (ht : eval (.Call (.Attribute o m apos) [] [] pos) X.env = (do
      let ov ← eval o X.env
      standAt apos.atName
      let (g, first) ← holding [ov] (getMethod ov m pl)
      callWith pos g first (backTo pos (starEach [] X.env)) (backToKw pos (keywordEach [] X.env))) := by rfl) :
    DE X W E (.Call (.Attribute o m apos) [] [] pos) (tMethS C m (spD X.K c) (WE W) ta tNil) (wMeth C m c E wa wNil) := by
  obtain ⟨⟨f, fd, G, hm, hb⟩, cl⟩ := h
  exact ⟨pe_methN0 ho.pe cl hm G hr hb (fun σ => L2N.passAt tk σ) ht, dn_meth ho.dn dn_nil⟩
/-! a class, called -/
structure DfK (P : Program) (w : World) (K : PySem.W.Frag) (mg : Str → Option Value) (base : Heap) (x : Str) (C : Addr) (k : Nat) (ps : List Str) (c : Ct) : Prop where
  ex : ∃ f fd, FnOk P w K mg base (L2N.CX P w) k f fd ps (spD K c) ∧ Mk K C f ∧ mg x = some (.ref C) ∧ Binds K fd ps []
def tMakeS (C : Addr) (sp : Sp) (E : L2.St → XK) (t : TA) : TE := fun σ H Q => t σ H fun vs H1 => ∀ x dx, H1 x = none → H1 dx = none → dx ≠ x → sp (.ref x :: vs) (upd (upd H1 dx (.own x)) x (.ins C dx [])) (fun v H2 => v = .non ∧ Q (.ref x) H2) (E σ)
def wMake (C : Addr) (c : Ct) (E : EX) (a : WA) : WEx := fun ρ μ Q => a ρ μ fun ds μ1 => ∀ p, μ1 p = none → c (.mut p :: ds) (um μ1 p (.ins C [])) (fun d μ2 => d = .non ∧ Q (.mut p) μ2) fun D fs μ3 => E D fs ρ μ3
theorem run_makeN {f : Addr} {fd : FuncData} {sp : Sp} {CX : CXT} {E : XK} {pins : List (Addr × Obj)} {σ : L2.St} {H : Hp} {s : Shared} {Q : VK} {us : List Value} {vs : List V} (M : Mk X.K C f) (F : FnOk X.prog X.w X.K X.mg X.base CX k f fd ps sp) (hr : Room (k + 1) X.A) (hb : Binds X.K fd ps []) (hx : PassesAt CX X σ E)
    (I : Inv X pins σ H s) (r : Vals vs us) (h : ∀ x dx, H x = none → H dx = none → dx ≠ x → sp (.ref x :: vs) (upd (upd H dx (.own x)) x (.ins C dx [])) (fun v H2 => v = .non ∧ Q (.ref x) H2) E) : wpAny (model X.prog X.w) X.A (call (.ref C) us) (EP X pins σ Q) X.xe s := by
  have hq := h (s.heap.objs.size + 1) s.heap.objs.size (I.hok.fresh (Nat.le_succ _)) (I.hok.fresh (Nat.le_refl _)) (Nat.ne_of_lt (Nat.lt_succ_self _))
  have J := Inv.made (C := C) I
  have r2 : Vals (V.ref (s.heap.objs.size + 1) :: vs) (Value.ref (s.heap.objs.size + 1) :: us) := .cons rfl r
  have bb := hb _ (Value.ref (s.heap.objs.size + 1) :: us) J.kIn (by rw [List.append_nil, ← r2.length]; exact F.len _ _ _ _ hq)
  rw [List.append_nil] at bb
  refine wpAny_call (make_map (f := f) I.kIn M.makes M.init (beq_iff_eq.mp M.fn) (codeAny_mono (F.run _ X.stack _ _ ⟨Value.ref (s.heap.objs.size + 1) :: us, []⟩ (Value.ref (s.heap.objs.size + 1) :: us) _ _ E (hr.make C us []) (J.env0.make C us []) bb r2 hq) fun res s' hq' => ?_))
  match res, hq' with
  | .error er, hq' => exact hx pins _ _ er s' J hq'
  | .ok (.ret u), hq' =>
    obtain ⟨v, H', I3, rv, ev, q3⟩ := J.after hq'
    subst ev
    exact ⟨rv, ⟨V.ref (s.heap.objs.size + 1), H', I3, rfl, q3⟩⟩
theorem dn_make {K : PySem.W.Frag} (ha : DnA K W E tas was) : Dn K W E (tMakeS C (spD K c) (WE W) tas) (wMake C c E was) := by
  intro F μ H ρ σ Q0 Q s h q
  refine ha F μ H ρ σ _ _ s h fun F1 μ1 H1 ds vs g1 s1 dvs h1 x dx hx hdx hne => ?_
  have s2 : Sok K F1 μ1 (upd H1 dx (.own x)) := s1.ok.junk hdx
  have hx2 : (upd H1 dx (.own x)) x = none := by rw [upd_ne (Ne.symm hne)]; exact hx
  have fr := s2.free hx2
  have s3 : Sok K F1 (um μ1 x (.ins C [])) (upd (upd H1 dx (.own x)) x (.ins C dx [])) := s2.cell (m := .ins C []) fr.1 ⟨dx, [], upd_same, rfl, rfl⟩
  refine ⟨F1, _, .mut x :: ds, _, _, s3, DVs.cons rfl dvs, h1 x fr.2, fun F3 μ3 H3 d3 v3 g3 t3 dv3 ⟨μ4, l, e3, h3⟩ => ?_, fun F3 μ3 H3 D fs g3 g4 t3 ex ⟨μ4, l, h3⟩ => ?_⟩
  · subst e3
    exact ⟨dv3, q F3 μ4 H3 (.mut x) (.ref x) (g1.trans g3) ((s1.mono g3 t3).weak l) rfl h3⟩
  · exact s1.wok F3 μ4 H3 ρ σ D fs g3 g4 (t3.weak l) (s1.env.mono g4) ex h3
theorem emake (tk : L2N.Takes X W) (h : DfK X.prog X.w X.K X.mg X.base x C k ps c) (hr : Room (k + 1) X.A) (ha : DA X W E (e :: es) tas was) (hg : Gl X x := by rfl) (hdb : (x == ("__debug__" : Str)) = false := by decide)
    (he : starEach (e :: es) X.env = (false, eval e X.env) :: starEach es X.env := by rfl) (hpl : (backTo pos (starEach es X.env)).any (·.1) = false := by rfl) : DE X W E (.Call (.Name x p) (e :: es) [] pos) (tMakeS C (spD X.K c) (WE W) tas) (wMake C c E was) := by
  obtain ⟨f, fd, G, M, hm, hb⟩ := h.ex
  refine ⟨⟨fun pins s σ H Q I z => wpAny_Call_Name_kw (ld_glob I hg hm ?_ hdb)⟩, dn_make ha.dn⟩
  refine PySem.W.callWith_K (h₀ := X.base) I.ok.mod.kin M.kp (thn (ha.pe.run pos pins s σ H _ I z) fun us s1 ⟨vs, H1, I1, r, q⟩ => ⟨I1.kIn, ?_⟩) he hpl
  exact run_makeN M G hr hb (L2N.passAt tk σ) I1 r q
end
end DL
set_option maxHeartbeats 4000000
namespace DL
open PySem L2 PySem.Spec PyProof.Rows
/-! ### whole numbers as texts, to 4300 digits -/
theorem repr_at {a : Int} {t : Tok} (ha : a.natAbs < 10 ^ 4300) : GivesAt (fun s => s.heap.NoDigits) (Builtin.«int.__repr__» ⟨[.int a t], []⟩) (.str (toString a)) := by
  intro prog w A R s hn h
  unfold Builtin.«int.__repr__»
  show wpAny _ _ (do let r ← Builtin.overDigitLimit? a; _) _ _ s
  refine wpAny_bind (overDigitLimit_any hn (fun _ => ?_) (fun hge => absurd ha (Nat.not_lt.mpr hge)))
  exact wpAny_bind (wpAny_mkStr (wpAny_pure h.2) (int_text_fits10 ha))
theorem fmt_at {a : Int} {t u : Tok} (ha : a.natAbs < 10 ^ 4300) : GivesAt (fun s => s.heap.NoDigits) (Builtin.«int.__format__» ⟨[.int a t, .str Str.empty u], []⟩) (.str (toString a)) := by
  intro prog w A R s hn h
  show wpAny _ _ (do let _kind ← typeNameOf (.str Str.empty u); (do rule "int.format.empty"; again (.builtin "int.__repr__" ⟨[.int a t], []⟩))) _ _ s
  refine wpAny_bind (wpAny_typeNameOf (typeIs_str _ _ _) (by decide) fun _ => wpAny_bind (wpAny_rule ?_))
  exact wpAny_pure ⟨plainId_quiet (by decide +kernel) _, codeAny_builtin PySem.F.entry_int_repr (by rw [Around.under_plainId (by decide +kernel)]; exact repr_at ha prog w A R s hn h)⟩
theorem field_at {prog : Program} {w : World} {A : Around} {E : Value → Shared → Prop} {s : Shared} {a : Int} {t : Tok} {Q : Value → Shared → Prop} (hn : s.heap.NoDigits) (ha : a.natAbs < 10 ^ 4300) (h : Q (.str (toString a) (s.toks + 1)) { s with toks := s.toks + 1 + 1 }) : wpAny (model prog w) A (formatField (.int a t) Str.empty) Q E s := by
  show wpAny _ _ (holding [.int a t] (pyFormat (.int a t) Str.empty)) Q E s
  refine wpAny_holding ?_
  unfold pyFormat
  refine wpAny_bind (wpAny_mkStr ?_ (by decide))
  refine wpAny_bind (m := callSpecial? (.int a t) (Str.ofString "__format__") [.str Str.empty s.toks]) (wpAny_callSpecial?_slot (name := Str.ofString "__format__") (typeIs_int _ a t) PySem.F.slot_int_format
    (call_givesAt PySem.F.slot_int_format (typeIs_int _ a t) PySem.F.entry_int_format (PySem.F.args_int_format_2 _ _) (fmt_at ha) hn ⟨int_text_fits10 ha, ?_⟩))
  show wpAny _ _ (do if ← isInstance (.str (toString a) (s.toks + 1)) (.type "str") then return (.str (toString a) (s.toks + 1)) else _) Q E _
  exact wpAny_bind (wpAny_isInstance (typeIs_str _ _ _) isSubtype_str_str (wpAny_pure h))
theorem nodig {X : Cx} {pins : List (Addr × Obj)} {σ : L2.St} {H : Hp} {s : Shared} (I : Inv X pins σ H s) (e : PySem.W.nsIn X.K cStatics "sys.int_max_str_digits" = some none) : s.heap.NoDigits := by
  obtain ⟨mc, h1, _⟩ := I.nolimit
  exact ⟨mc, h1, PySem.W.ns_none_of I.kIn h1 e⟩
/-- str(i) -/
def fStrI (ds : List D) (μ : Mu) (Q : D → Mu → Prop) : Prop := match ds with
  | [.int i] => i.natAbs < 10 ^ 4300 ∧ Q (.str (toString i)) μ
  | [.str x] => Q (.str x) μ
  | _ => False
def rStrI : List V → Hp → VK → Prop := fun xs H Q => (∃ i, xs = [.int i] ∧ i.natAbs < 10 ^ 4300 ∧ Q (.str (toString i)) H) ∨ ∃ x, xs = [.str x] ∧ Q (.str x) H
theorem call_strI {X : Cx} (hc : X.calm = true) (e : PySem.W.nsIn X.K cStatics "sys.int_max_str_digits" = some none) : CallR X (.type "str") rStrI := by
  intro pins s σ H xs us Q I r h
  rcases h with ⟨i, rfl, hz, q⟩ | ⟨x, rfl, q⟩
  · obtain ⟨u, rfl, t, rfl⟩ := vals1 r
    exact str_of_int_or (I.ok.hd hc) (nodig I e) (fun _ => ⟨.str _, H, I.tok _, ⟨_, rfl⟩, q⟩) fun hge => absurd hz (Nat.not_lt.mpr hge)
  · exact SkE.call_str_str pins s σ H _ us Q I r ⟨x, rfl, q⟩
theorem dc_strI {K : PySem.W.Frag} : DCa K rStrI fStrI := by
  intro F μ H vs ds Q0 Q s dv h q
  unfold fStrI at h
  split at h
  · rename_i i
    obtain ⟨v, r, rfl, d1, rfl⟩ := dv
    obtain rfl : v = V.int i := d1
    exact .inl ⟨i, rfl, h.1, q F μ H (.str _) _ Grow.refl s rfl h.2⟩
  · rename_i x
    obtain ⟨v, r, rfl, d1, rfl⟩ := dv
    obtain rfl : v = V.str x := d1
    exact .inr ⟨x, rfl, q F μ H (.str _) _ Grow.refl s rfl h⟩
  · exact h.elim
/-- {e} in an f-string -/
def fFmt (d : D) (μ : Mu) (Q : D → Mu → Prop) : Prop := match d with
  | .int i => i.natAbs < 10 ^ 4300 ∧ Q (.str (toString i)) μ
  | .str x => x.length ≤ sizeLine ∧ Q (.str x) μ
  | _ => False
def rFmt : V → Hp → VK → Prop := fun x H Q => (∃ y : Str, x = .str y ∧ y.length ≤ sizeLine ∧ Q (.str y) H) ∨ ∃ i : Int, x = .int i ∧ i.natAbs < 10 ^ 4300 ∧ Q (.str (toString i)) H
theorem du_fmt {K : PySem.W.Frag} : DUn K rFmt fFmt := by
  intro F μ H x dx Q0 Q s d1 h q
  unfold fFmt at h
  split at h
  · rename_i i
    obtain rfl : x = V.int i := d1
    exact .inr ⟨i, rfl, h.1, q F μ H (.str _) _ Grow.refl s rfl h.2⟩
  · rename_i y
    obtain rfl : x = V.str y := d1
    exact .inl ⟨y, rfl, h.1, q F μ H (.str _) _ Grow.refl s rfl h.2⟩
  · exact h.elim
section
variable {X : Cx} {W : WX} {E : EX} {e : Expr} {ta : TE} {wa : WEx} {pos : Pos}
theorem efmt (hs : PySem.W.nsIn X.K cStatics "sys.int_max_str_digits" = some none) (ha : DE X W E e ta wa) : DE X W E (.FormattedValue e (-1) none pos) (fun σ H Q => ta σ H fun x H1 => rFmt x H1 Q) (wUn fFmt wa) := by
  refine ⟨⟨fun pins s σ H Q I h => wpAny_FormattedValue_plain (thn (ha.pe.run pins s σ H _ I h) fun v s1 hv => ?_)⟩, dn_un du_fmt ha.dn⟩
  obtain ⟨x, H1, I1, r1, q⟩ := hv
  rcases q with ⟨y, rfl, hz, q⟩ | ⟨i, rfl, hz, q⟩
  · obtain ⟨t, rfl⟩ := r1
    exact wpAny_formatField_str ⟨.str y, H1, I1, ⟨t, rfl⟩, q⟩ ⟨.str y, H1, I1.tok _, ⟨_, rfl⟩, q⟩ hz
  · obtain ⟨t, rfl⟩ := r1
    exact field_at (nodig I1 hs) hz ⟨.str (toString i), H1, I1.tok _, ⟨_, rfl⟩, q⟩
end
/-- the parts of an f-string -/
def wJs : List WEx → Str → En → Mu → (Str → Mu → Prop) → Prop
  | [], acc, _, μ, Q => Q acc μ
  | w :: ws, acc, ρ, μ, Q => w ρ μ fun d μ1 => ∃ y : Str, d = .str y ∧ (acc ++ y).length ≤ sizeLine ∧ wJs ws (acc ++ y) ρ μ1 Q
inductive DJ (X : Cx) (W : WX) (E : EX) : List Expr → List TE → List WEx → Prop where
  | nil : DJ X W E [] [] []
  | cons {e : Expr} {t : TE} {w : WEx} {es : List Expr} {ts : List TE} {ws : List WEx} (h : DE X W E e t w) (r : DJ X W E es ts ws) : DJ X W E (e :: es) (t :: ts) (w :: ws)
theorem DJ.pj {X : Cx} {W : WX} {E : EX} {es : List Expr} {ts : List TE} {ws : List WEx} (h : DJ X W E es ts ws) : PJ X es ts := by
  induction h with
  | nil => exact .nil
  | cons h _ ih => exact .cons h.pe ih
theorem DJ.dn {X : Cx} {W : WX} {E : EX} {es : List Expr} {ts : List TE} {ws : List WEx} (h : DJ X W E es ts ws) : ∀ (acc : Str) F μ H ρ σ (Q0 : Str → Mu → Prop) (Q : Str → Hp → Prop), S0 X.K W E F μ H ρ σ → wJs ws acc ρ μ Q0 → (∀ F' μ' H' out, Grow F F' → S0 X.K W E F' μ' H' ρ σ → Q0 out μ' → Q out H') → tJs ts acc σ H Q := by
  induction h with
  | nil => exact fun acc F μ H ρ σ Q0 Q s hw q => q F μ H acc Grow.refl s hw
  | cons h _ ih =>
    intro acc F μ H ρ σ Q0 Q s hw q
    refine h.dn F μ H ρ σ _ _ s hw fun F1 μ1 H1 d v g1 s1 dv ⟨y, ed, hl, h1⟩ => ?_
    subst ed
    exact ⟨y, dv, hl, ih (acc ++ y) F1 μ1 H1 ρ σ Q0 Q s1 h1 fun F2 μ2 H2 out g2 => q F2 μ2 H2 out (g1.trans g2)⟩
def wJoin (ws : List WEx) : WEx := fun ρ μ Q => wJs ws Str.empty ρ μ fun out μ1 => Q (.str out) μ1
theorem ejoin {X : Cx} {W : WX} {E : EX} {v1 v2 : Expr} {rest : List Expr} {ts : List TE} {ws : List WEx} {pos : Pos} (h : DJ X W E (v1 :: v2 :: rest) ts ws) : DE X W E (.JoinedStr (v1 :: v2 :: rest) pos) (fun σ H Q => tJs ts Str.empty σ H fun out H1 => Q (.str out) H1) (wJoin ws) :=
  ⟨pe_joined h.pj, fun F μ H ρ σ Q0 Q s hw q => h.dn Str.empty F μ H ρ σ _ _ s hw fun F' μ' H' out g s' hq => q F' μ' H' (.str out) _ g s' rfl hq⟩
/-! ### a list comprehension where nothing is handled -/
section
variable {X : Cx} {W : WX} {E : EX} {elt it : Expr} {n : Str} {np pos : Pos} {ifs : List Expr} {sc : Scope} {ti : TI} {wi : WI} {wt : WT} {we : WEx}
theorem elc (nd : X.N.Nodup) (own : List (Str × Nat)) (i : Nat) {vs : List Nat} (hi : DIt X W E (.Name n np) it ti wi) (hg : ∀ u J C cl fp, PG (X.blk u J sc (compEnvC sc cl C X.env) fp) (.Name n np) (gName i)) (ht : ∀ u J C cl fp, ∃ tt, DTs (X.blk u J sc (compEnvC sc cl C X.env) fp) W E ifs tt wt)
    (he : ∀ u J C cl fp, ∃ te, DE (X.blk u J sc (compEnvC sc cl C X.env) fp) W E elt te we) (hc : X.calm = true := by rfl) (hvs : own.map (·.2) = vs := by rfl) (ok : blkC X.N X.env.scope sc own = true := by rfl) (hv : i ∈ own.map (·.2) := by decide) (hs : ∀ x, foldedSetIterable it X.env x = pure x := by intro _; rfl) :
    DE X W E (.ListComp elt [⟨.Name n np, it, ifs, 0⟩] sc pos) (tLc ti (gName i) (tOfT X.K W E wt) (tOfE X.K W E we) vs) (wLc wi i vs wt we) := by
  subst hvs
  exact ⟨pe_lc hc nd hi.pe (blkOk_by ok) hg (fun u J C cl fp => (ht u J C cl fp).elim fun _ h => h.of) (fun u J C cl fp => (he u J C cl fp).elim fun _ h => h.of) hs, dn_lc hi.dn dn_ofT dn_ofE hv⟩
end
end DL
set_option maxHeartbeats 4000000
namespace DL
open PySem L2 PySem.Spec PyProof.Rows
/-! ### words for the pure part -/
/-- for g in xs: b, xs a local that is a list (a cell that the loop does not change, or one for good) -/
theorem for_lv {k : Nat} {d : D} {l : List D} {μ : Mu} {ρ : En} {g : WG} {b : WS} {Ds : DEnds} (el : lv μ d = some l) (hv : ρ[k]? = some (some d)) (I : Nat → En → Mu → Prop) (i0 : I 0 ρ μ) (ik : ∀ i ρ' μ', I i ρ' μ' → le μ μ')
    (step : ∀ i e ρ' μ', l[i]? = some e → I i ρ' μ' → g e ρ' μ' fun ρ2 μ2 => b { Ds with nx := wk (I (i + 1)), ct := wk (I (i + 1)), bk := Ds.nx } ρ2 μ2) (done : ∀ ρ' μ', I l.length ρ' μ' → Ds.nx ρ' μ') : wFor (iLs (wVar k)) g b Ds ρ μ := by
  show iLs (wVar k) ρ μ _
  unfold iLs wVar
  rw [hv]
  unfold lv at el
  split at el
  · cases el
    exact ⟨I, i0, fun _ _ _ _ => trivial, step, done⟩
  · rename_i a
    split at el
    · rename_i l' em
      cases el
      dsimp only
      rw [em]
      exact ⟨I, i0, fun i ρ' μ' h => ik i ρ' μ' h _ _ em, step, done⟩
    · cases el
  · cases el
theorem sv_lv {μ : Mu} {d : D} {l : List D} (h : lv μ d = some l) : sv μ d = some l := by
  cases d <;> first | exact h | cases h
end DL
set_option maxHeartbeats 4000000
namespace DL
open PySem L2 PySem.Spec PyProof.Rows
/-! ### a < b <= c -/
def wChain (f g : F2) (a b c : WEx) : WEx := fun ρ μ Q => a ρ μ fun x μ1 => b ρ μ1 fun y μ2 => f x y μ2 fun z μ3 => match z with
  | .bl k => if k = true then c ρ μ3 fun w μ4 => g y w μ4 Q else Q (.bl false) μ3
  | _ => False
section
variable {K : PySem.W.Frag} {W : WX} {E : EX} {ta tb tc : TE} {wa wb wc : WEx} {r r' : R2} {f g : F2}
theorem dn_chain (hf : DOp K r f) (hg : DOp K r' g) (ha : Dn K W E ta wa) (hb : Dn K W E tb wb) (hc : Dn K W E tc wc) : Dn K W E (tChain r r' ta tb tc) (wChain f g wa wb wc) := by
  intro F μ H ρ σ Q0 Q s h q
  refine ha F μ H ρ σ _ _ s h fun F1 μ1 H1 x v g1 s1 dv h1 => ?_
  refine hb F1 μ1 H1 ρ σ _ _ s1 h1 fun F2 μ2 H2 y u g2 s2 du h2 => ?_
  refine hf F2 μ2 H2 v u x y _ _ s2.ok (dv.mono g2) du h2 fun F3 μ3 H3 z zv g3 s3 dz h3 => ?_
  have S3 : S0 K W E F3 μ3 H3 ρ σ := s2.mono g3 s3
  split at h3
  · rename_i k
    refine ⟨k, dz, ?_⟩
    cases k with
    | true =>
      rw [if_pos rfl] at *
      refine hc F3 μ3 H3 ρ σ _ _ S3 h3 fun F4 μ4 H4 w wv g4 s4 dw h4 => ?_
      refine hg F4 μ4 H4 u wv y w Q0 Q s4.ok (du.mono (g3.trans g4)) dw h4 fun F5 μ5 H5 d5 v5 g5 s5 dv5 h5 => ?_
      exact q F5 μ5 H5 d5 v5 (g1.trans (g2.trans (g3.trans (g4.trans g5)))) (s4.mono g5 s5) dv5 h5
    | false =>
      rw [if_neg Bool.false_ne_true] at *
      exact q F3 μ3 H3 (.bl false) (.bl false) (g1.trans (g2.trans g3)) S3 rfl h3
  · exact h3.elim
/-- texts joined -/
def fAddS : F2 := fun x y μ Q => match x, y with
  | .str a, .str b => a.length + b.length ≤ sizeLine ∧ Q (.str (a ++ b)) μ
  | _, _ => False
theorem do_adds : DOp K (fun x y H Q => ∃ i j, x = .str i ∧ y = .str j ∧ i.length + j.length ≤ sizeLine ∧ Q (.str (i ++ j)) H) fAddS := by
  intro F μ H x y dx dy Q0 Q s d1 d2 h q
  unfold fAddS at h
  split at h
  · rename_i a b
    obtain rfl : x = V.str a := d1
    obtain rfl : y = V.str b := d2
    exact ⟨a, b, rfl, rfl, h.1, q F μ H (.str _) _ Grow.refl s rfl h.2⟩
  · exact h.elim
end
section
variable {X : Cx} {W : WX} {E : EX} {a b c : Expr} {ta tb tc : TE} {wa wb wc : WEx} {pos : Pos} {r r' : R2} {f g : F2} {op op' : CmpOp}
theorem echain (ho : OpR X (compareOp op) r) (hf : DOp X.K r f) (ho' : OpR X (compareOp op') r') (hg : DOp X.K r' g) (ha : DE X W E a ta wa) (hb : DE X W E b tb wb) (hc : DE X W E c tc wc) (hm : lastMarks [op, op'] [b, c] = false := by with_unfolding_all rfl) :
    DE X W E (.Compare a [op, op'] [b, c] pos) (tChain r r' ta tb tc) (wChain f g wa wb wc) := ⟨pe_chain ho ho' ha.pe hb.pe hc.pe hm, dn_chain hf hg ha.dn hb.dn hc.dn⟩
theorem tchain (ho : OpR X (compareOp op) r) (hf : DOp X.K r f) (ho' : OpR X (compareOp op') r') (hg : DOp X.K r' g) (ha : DE X W E a ta wa) (hb : DE X W E b tb wb) (hc : DE X W E c tc wc) (hm : lastMarks [op, op'] [b, c] = false := by with_unfolding_all rfl) :
    DT X W E (.Compare a [op, op'] [b, c] pos) (tTest (tChain r r' ta tb tc)) (wTe (wChain f g wa wb wc)) := ⟨pt_chain ho ho' ha.pe hb.pe hc.pe hm, dn_te (dn_chain hf hg ha.dn hb.dn hc.dn)⟩
theorem eadds (ha : DE X W E a ta wa) (hb : DE X W E b tb wb) : DE X W E (.BinOp a .Add b pos) (tOp (fun x y H Q => ∃ i j, x = .str i ∧ y = .str j ∧ i.length + j.length ≤ sizeLine ∧ Q (.str (i ++ j)) H) ta tb) (wOp fAddS wa wb) := eo op_add_str do_adds ha hb
end
end DL
set_option maxHeartbeats 4000000
namespace DL
open PySem L2 PySem.Spec PyProof.Rows
/-! ### xs[::-1] -/
def rRev (K : PySem.W.Frag) (x : V) (j : Option Int) (H : Hp) (Q : VK) : Prop := j = some (-1) ∧ ∃ a xs, x = .ref a ∧ SqL K H a xs ∧ ∀ p, H p = none → Q (.ref p) (upd H p (.lst xs.reverse))
def tRev (K : PySem.W.Frag) (te : TE) (tj : TO) : TE := fun σ H Q => te σ H fun x H1 => tj σ H1 fun j H2 => rRev K x j H2 Q
theorem pe_rev {X : Cx} {e : Expr} {te : TE} {st : Expr} {tj : TO} {pos p2 : Pos} (he : PE X e te) (hj : PO X (some st) tj) : PE X (.Subscript e (.Slice none none (some st) p2) pos) (tRev X.K te tj) := by
  refine ⟨fun pins s σ H Q I h => ?_⟩
  refine Subscript_ (thn (he.run pins s σ H _ I h) fun v s1 ⟨x, H1, I1, r1, q1⟩ => ?_)
  refine wpAny_Slice ?_
  rw [evalPart_none]
  refine wpAny_pure (wpAny_pure (thn (hj.run pins s1 σ H1 _ I1 q1) fun vj s3 ⟨j, H3, I3, pj, q3⟩ => ?_))
  obtain ⟨rfl, a, xs, rfl, hx, q⟩ := q3
  have I4 : Inv X pins σ H3 { s3 with heap := s3.heap.push { cls := .type "slice", data := .fields #[.none, .none, vj] } } := I3.kept (t' := s3.toks) fun b ob q => Heap.get?_push_of_some _ q
  cases r1
  obtain ⟨its, r, ht, hz⟩ := I4.list hx
  show wpAny (model X.prog X.w) X.A (subscriptTail e (.Slice none none (some st) p2) (.ref a) (.ref s3.heap.objs.size)) (EP X pins σ Q) X.xe { s3 with heap := s3.heap.push { cls := .type "slice", data := .fields #[.none, .none, vj] } }
  refine tail_any (ops := [.ref a, .ref s3.heap.objs.size]) ht.isList.typeIs slot_list_getitem.lookup ?_ (by with_unfolding_all rfl)
  refine wpAny_getItem_list_slice ht.isList (Heap.IsSliceOf.new ..) .none .none pj (by decide) ?_ (by rw [List.size_toArray, ← r.length]; exact hz)
  rw [PySem.W.krv_pick]
  refine ⟨.ref _, _, I4.laid (t' := s3.toks) (o := .lst xs.reverse) (fun b ob q => Heap.get?_push_of_some _ q) (Nat.le_refl _) ?_, rfl, q _ (I4.hok.fresh (Nat.le_refl _))⟩
  refine ⟨?_, its.reverse, 0, r.reverse, ?_⟩
  · rw [List.length_reverse]; exact hz
  · exact Heap.get?_push_size _ rfl
/-- of a list: a new cell -/
def fRev (d : D) (j : Option Int) (μ : Mu) (Q : D → Mu → Prop) : Prop := j = some (-1) ∧ match lvr μ d with
  | some l => ∀ p, μ p = none → Q (.mut p) (um μ p (.lst l.reverse))
  | none => False
def wRev (a : WEx) (s : WO) : WEx := fun ρ μ Q => a ρ μ fun d μ1 => s ρ μ1 fun j μ2 => fRev d j μ2 Q
theorem DVs.reverse {K : PySem.W.Frag} {F : Hp} : ∀ {l : List D} {xs : List V}, DVs K F l xs → DVs K F l.reverse xs.reverse
  | [], _, h => by rw [show _ = [] from h]; exact rfl
  | _ :: l, _, h => by
    obtain ⟨v, vs, rfl, a, r⟩ := h
    rw [List.reverse_cons, List.reverse_cons]
    exact (DVs.reverse r).append (DVs.cons a DVs.nil)
theorem erev {X : Cx} {W : WX} {E : EX} {e : Expr} {te : TE} {we : WEx} {st : Expr} {tj : TO} {wj : WO} {pos p2 : Pos} (he : DE X W E e te we) (hj : DO X W E (some st) tj wj) : DE X W E (.Subscript e (.Slice none none (some st) p2) pos) (tRev X.K te tj) (wRev we wj) := by
  refine ⟨pe_rev he.pe hj.pe, fun F μ H ρ σ Q0 Q s h q => ?_⟩
  refine he.dn F μ H ρ σ _ _ s h fun F1 μ1 H1 d v g1 s1 dv h1 => ?_
  refine hj.dn F1 μ1 H1 ρ σ _ _ s1 h1 fun F2 μ2 H2 j g2 s2 h2 => ?_
  obtain ⟨rfl, h2⟩ := h2
  split at h2
  · rename_i l el
    obtain ⟨a, xs, rfl, r, dl⟩ := lvr_ok s2.ok (dv.mono g2) el
    refine ⟨rfl, a, xs, rfl, r, fun p hp => ?_⟩
    have f := s2.ok.free hp
    exact q F2 _ _ (.mut p) _ (g1.trans g2) (s2.mono Grow.refl (s2.ok.cell (m := .lst _) f.1 ⟨_, upd_same, dl.reverse⟩)) rfl (h2 p f.2)
  · exact h2.elim
/-! ### {}, {k: v} -/
def wDNew : WEx := fun _ μ Q => ∀ p, μ p = none → Q (.mut p) (um μ p (.dK []))
def wDNewF : WEx := fun _ μ Q => Q (.dK [] []) μ
def kD : Key → D
  | .inl i => .int i
  | .inr x => .str x
def wDsp1 (k v : WEx) : WEx := fun ρ μ Q => ∀ p, μ p = none → k ρ (um μ p (.dK [])) fun x μ1 => v ρ μ1 fun y μ2 => μ2 p = some (.dK []) ∧ ∃ key, x = kD key ∧ Q (.mut p) (um μ2 p (.dK [(key, y)]))
def wDsp1F (k v : WEx) : WEx := fun ρ μ Q => ∀ p, μ p = none → k ρ (um μ p (.dK [])) fun x μ1 => v ρ μ1 fun y μ2 => μ2 p = some (.dK []) ∧ ∃ key, x = kD key ∧ Q (.dK [key] [y]) (rm μ2 p)
theorem kD_dv {K : PySem.W.Frag} {F : Hp} {k : Key} {v : V} (h : DV K F (kD k) v) : v = kV k := by
  cases k <;> exact h
section
variable {X : Cx} {W : WX} {E : EX} {k v : Expr} {tk tv : TE} {wk' wv : WEx} {pos : Pos}
theorem ednew : DE X W E (.Dict [] [] pos) tDNewK wDNew := ⟨pe_dnewK, fun F μ H ρ σ Q0 Q s h q p hp => by
  have f := s.ok.free hp
  exact q F _ _ (.mut p) _ Grow.refl (s.mono Grow.refl (s.ok.cell (m := .dK []) f.1 ⟨[], upd_same, rfl, rfl⟩)) rfl (h p f.2)⟩
theorem ednewF : DE X W E (.Dict [] [] pos) tDNewK wDNewF := ⟨pe_dnewK, fun F μ H ρ σ Q0 Q s h q p hp => by
  have f := s.ok.free hp
  exact q (upd F p (.dK [])) μ _ (.dK [] []) _ (Grow.new f.1) (s.mono (Grow.new f.1) (s.ok.put hp)) ⟨p, [], rfl, upd_same, rfl, rfl⟩ h⟩
theorem edsp1 (hk : DE X W E k tk wk') (hv : DE X W E v tv wv) : DE X W E (.Dict [some k] [v] pos) (tDisp [(tk, tv)]) (wDsp1 wk' wv) := by
  refine ⟨pe_disp (pps_cons hk.pe hv.pe pps_nil) (by rfl) (by rfl) (fun z => by cases z) (Nat.le_of_ble_eq_true rfl), fun F μ H ρ σ Q0 Q s h q p hp => ?_⟩
  have f := s.ok.free hp
  have s1 := s.mono Grow.refl (s.ok.cell (o := .dK []) (m := .dK []) f.1 ⟨[], upd_same, rfl, rfl⟩)
  refine hk.dn F _ _ ρ σ _ _ s1 (h p f.2) fun F1 μ1 H1 x xv g1 s1 dx h1 => ?_
  refine hv.dn F1 _ _ ρ σ _ _ s1 h1 fun F2 μ2 H2 y yv g2 s2 dy ⟨hm, key, ex, h2⟩ => ?_
  subst ex
  obtain ⟨fr, ys, ho, kd⟩ := s2.ok.cel p _ hm
  obtain rfl := kD_dv (dx.mono g2)
  have ey : ys = [] := by
    have := kd.1
    simpa using this
  subst ey
  refine ⟨ho, [(key, yv)], rfl, Nat.le_of_ble_eq_true rfl, ?_⟩
  exact q F2 _ _ (.mut p) _ (g1.trans g2) (s2.mono Grow.refl (s2.ok.cell (m := .dK [(key, y)]) fr ⟨[(key, yv)], upd_same, rfl, DVs.cons dy DVs.nil⟩)) rfl h2
theorem edsp1F (hk : DE X W E k tk wk') (hv : DE X W E v tv wv) : DE X W E (.Dict [some k] [v] pos) (tDisp [(tk, tv)]) (wDsp1F wk' wv) := by
  refine ⟨pe_disp (pps_cons hk.pe hv.pe pps_nil) (by rfl) (by rfl) (fun z => by cases z) (Nat.le_of_ble_eq_true rfl), fun F μ H ρ σ Q0 Q s h q p hp => ?_⟩
  have f := s.ok.free hp
  have s1 := s.mono Grow.refl (s.ok.cell (o := .dK []) (m := .dK []) f.1 ⟨[], upd_same, rfl, rfl⟩)
  refine hk.dn F _ _ ρ σ _ _ s1 (h p f.2) fun F1 μ1 H1 x xv g1 s1 dx h1 => ?_
  refine hv.dn F1 _ _ ρ σ _ _ s1 h1 fun F2 μ2 H2 y yv g2 s2 dy ⟨hm, key, ex, h2⟩ => ?_
  subst ex
  obtain ⟨fr, ys, ho, kd⟩ := s2.ok.cel p _ hm
  obtain rfl := kD_dv (dx.mono g2)
  have ey : ys = [] := by
    have := kd.1
    simpa using this
  subst ey
  refine ⟨ho, [(key, yv)], rfl, Nat.le_of_ble_eq_true rfl, ?_⟩
  have s3 : S0 X.K W E F2 (um μ2 p (.dK [(key, y)])) (upd H2 p (.dK [(key, yv)])) ρ σ := s2.mono Grow.refl (s2.ok.cell (m := .dK [(key, y)]) fr ⟨[(key, yv)], upd_same, rfl, DVs.cons dy DVs.nil⟩)
  have s4 := s3.mono (Grow.new fr) (s3.ok.frz (o := .dK [(key, yv)]) fr upd_same)
  have e4 : rm (um μ2 p (.dK [(key, y)])) p = rm μ2 p := by
    funext b; unfold rm um; split <;> rfl
  rw [e4] at s4
  exact q _ _ _ (.dK [key] [y]) _ (g1.trans (g2.trans (Grow.new fr))) s4 ⟨p, [(key, yv)], rfl, upd_same, rfl, (DVs.cons dy DVs.nil).mono (Grow.new fr)⟩ h2
end
/-! ### == at any depth -/
mutual
/-- data without dicts and cells, as the model's own -/
def toP : D → Option PyData
  | .non => some .none
  | .bl b => some (.bool b)
  | .int i => some (.int i)
  | .str x => some (.str x)
  | .tup l => (toPs l).map .tuple
  | .lst l => (toPs l).map .list
  | .lsr l => (toPs l).map .list
  | _ => none
def toPs : List D → Option (List PyData)
  | [] => some []
  | d :: l => (toP d).bind fun x => (toPs l).map fun xs => x :: xs
end
section
variable {K : PySem.W.Frag} {F H : Hp}
mutual
theorem dp_of (g : Grow F H) : ∀ {d : D} {v : V} {x : PyData}, DV K F d v → toP d = some x → Dp K H v x
  | .non, _, _, h, e => by cases e; rw [show _ = V.non from h]; exact .non
  | .bl b, _, _, h, e => by cases e; rw [show _ = V.bl b from h]; exact .bl b
  | .int b, _, _, h, e => by cases e; rw [show _ = V.int b from h]; exact .int b
  | .str b, _, _, h, e => by cases e; rw [show _ = V.str b from h]; exact .str b
  | .tup l, _, _, h, e => by
    obtain ⟨a, xs, rfl, r, dl⟩ := h
    have e : (toPs l).map PyData.tuple = some _ := e
    cases q : toPs l with
    | none => rw [q] at e; cases e
    | some ys => rw [q] at e; cases e; exact .tup (g.st r) (dps_of g dl q)
  | .lst l, _, _, h, e => by
    obtain ⟨a, xs, rfl, r, dl⟩ := h
    have e : (toPs l).map PyData.list = some _ := e
    cases q : toPs l with
    | none => rw [q] at e; cases e
    | some ys => rw [q] at e; cases e; exact .lst (SqL.of (g _ _ r)) (dps_of g dl q)
  | .lsr l, _, _, h, e => by
    obtain ⟨a, xs, rfl, r, dl⟩ := h
    have e : (toPs l).map PyData.list = some _ := e
    cases q : toPs l with
    | none => rw [q] at e; cases e
    | some ys => rw [q] at e; cases e; exact .lst (g.sl r) (dps_of g dl q)
  | .dK _ _, _, _, _, e => nomatch e
  | .dT _ _, _, _, _, e => nomatch e
  | .ins _ _ _, _, _, _, e => nomatch e
  | .exc _ _ _ _, _, _, _, e => nomatch e
  | .mut _, _, _, _, e => nomatch e
theorem dps_of (g : Grow F H) : ∀ {l : List D} {xs : List V} {ys : List PyData}, DVs K F l xs → toPs l = some ys → DpAll K H xs ys
  | [], _, _, h, e => by cases e; rw [show _ = [] from h]; exact .nil
  | d :: l, _, _, h, e => by
    obtain ⟨v, vs, rfl, a, r⟩ := h
    have e : ((toP d).bind fun x => (toPs l).map fun xs => x :: xs) = some _ := e
    cases q : toP d with
    | none => rw [q] at e; cases e
    | some y =>
      rw [q] at e
      cases q2 : toPs l with
      | none => rw [q2] at e; cases e
      | some ys => rw [q2] at e; cases e; exact .cons (dp_of g a q) (dps_of g r q2)
end
end
def fEqD : F2 := fun x y μ Q => ∃ d e, toP x = some d ∧ toP y = some e ∧ SeqAt.shaped d = true ∧ SeqAt.shaped e = true ∧ Q (.bl (PyData.eqv d e)) μ
def fNeD : F2 := fun x y μ Q => ∃ d e, toP x = some d ∧ toP y = some e ∧ SeqAt.shaped d = true ∧ SeqAt.shaped e = true ∧ Q (.bl (!PyData.eqv d e)) μ
theorem do_eqD {K : PySem.W.Frag} : DOp K (rEqD K) fEqD := by
  intro F μ H x y dx dy Q0 Q s d1 d2 ⟨d, e, h1, h2, h3, h4, h⟩ q
  exact ⟨d, e, dp_of s.sub d1 h1, dp_of s.sub d2 h2, h3, h4, q F μ H (.bl _) _ Grow.refl s rfl h⟩
theorem do_neD {K : PySem.W.Frag} : DOp K (rNeD K) fNeD := by
  intro F μ H x y dx dy Q0 Q s d1 d2 ⟨d, e, h1, h2, h3, h4, h⟩ q
  exact ⟨d, e, dp_of s.sub d1 h1, dp_of s.sub d2 h2, h3, h4, q F μ H (.bl _) _ Grow.refl s rfl h⟩
theorem eqD_short {x : PyData} {xs : List PyData} : PyData.eqv (.list (x :: xs)) (.list []) = false := by
  unfold PyData.eqv PyData.eqvAll
  rfl
end DL
set_option maxHeartbeats 4000000
namespace DL
open PySem L2 PySem.Spec PyProof.Rows He
/-! ### a head's facts with a Bool of one's own, the interpreter's statics among them -/
def asY (g : Addr → Option Obj) (n : Nat) : List Addr := asD g n ++ [cStatics]
abbrev AlY : Type := AlD × Bool
def obsY (n : Nat) (fa : List Fa) (fn : List DefD) (ex : PySem.W.Frag → Bool) (g : Addr → Option Obj) : AlY := (obsD fa fn (frG g (asY g n)), ex (frG g (asY g n)))
def hookY (n : Nat) (fa : List Fa) (fn : List DefD) (ex : PySem.W.Frag → Bool) : PySem.W.Hook where
  α := AlY
  obs := fun s => obsY n fa fn ex s.heap.get?
  val := fun _ => (valD fn, true)
  says := fun _ h => ∃ K : PySem.W.Frag, K.In h ∧ SaysD fa fn K ∧ ex K = true
  of := fun _ _ e => ⟨_, frG_in, congrArg (fun z : AlY => z.1) e, congrArg (fun z : AlY => z.2) e⟩
  keeps := fun _ _ _ ⟨K, hK, c⟩ k => ⟨K, PySem.W.Frag.In.keeps hK k, c⟩
theorem obsY_eq {n : Nat} {fa : List Fa} {fn : List DefD} {ex : PySem.W.Frag → Bool} {g : Addr → Option Obj} {s : Shared} (h : ∀ a, g a = s.heap.get? a) : obsY n fa fn ex g = (hookY n fa fn ex).obs s := by
  have e : g = s.heap.get? := funext h
  rw [e] <;> rfl
end DL
set_option maxHeartbeats 4000000
namespace DL
open PySem L2 PySem.Spec PyProof.Rows
/-! ### walks that look at each item, and stop at the first bad one -/
section
variable {k j : Nat} {α : Type} {f : α → D} {L : List α} {ok : α → Bool} {μ : Mu} {ρ : En} {b : WS} {Ds : DEnds} {r0 : Option D}
theorem all_take {p : α → Bool} {l : List α} {i : Nat} {x : α} (h : l[i]? = some x) : (l.take (i + 1)).all p = ((l.take i).all p && p x) := by
  rw [List.take_succ, h, Option.toList_some, List.all_append]
  simp
theorem chk_core (k' : Wk) (hk : k'.items = L.map f) (hok : k'.ok μ) (h0 : ρ = ρ.set j r0) (turn : ∀ (x : α) (r : Option D) (NX : En → Mu → Prop), x ∈ L → (ok x = true → NX (ρ.set j (some (f x))) μ) → (ok x = false → L.all ok = false) → b { Ds with nx := wk NX, ct := wk NX, bk := Ds.nx } (ρ.set j (some (f x))) μ) (done : L.all ok = true → ∀ r, Ds.nx (ρ.set j r) μ) :
    ∃ I : Nat → En → Mu → Prop, I 0 ρ μ ∧ (∀ i ρ μ, I i ρ μ → k'.ok μ) ∧ (∀ i d ρ μ, k'.items[i]? = some d → I i ρ μ → gN j d ρ μ fun ρ2 μ2 => b { Ds with nx := wk (I (i + 1)), ct := wk (I (i + 1)), bk := Ds.nx } ρ2 μ2) ∧ ∀ ρ μ, I k'.items.length ρ μ → Ds.nx ρ μ := by
  refine ⟨fun i ρ' μ' => μ' = μ ∧ (∃ r, ρ' = ρ.set j r) ∧ (L.take i).all ok = true, ⟨rfl, ⟨r0, h0⟩, by simp⟩, fun i ρ' μ' h => by rw [h.1]; exact hok, ?_, ?_⟩
  · rintro i d ρ' μ' hd ⟨rfl, ⟨r, rfl⟩, ha⟩
    rw [hk, List.getElem?_map] at hd
    cases q : L[i]? with
    | none => rw [q] at hd; cases hd
    | some x =>
      rw [q] at hd
      obtain rfl : f x = d := Option.some.inj hd
      show b _ ((ρ.set j r).set j (some (f x))) μ'
      rw [List.set_set]
      refine turn x r _ (List.mem_of_getElem? q) (fun hx => ⟨rfl, ⟨_, rfl⟩, by rw [all_take q, ha, hx]; rfl⟩) fun hx => ?_
      cases c : L.all ok with
      | false => rfl
      | true => rw [List.all_eq_true.mp c x (List.mem_of_getElem? q)] at hx; cases hx
  · rintro ρ' μ' ⟨rfl, ⟨r, rfl⟩, ha⟩
    rw [hk, List.length_map, List.take_length] at ha
    exact done ha r
/-- over a tuple -/
theorem chk_tp (hv : ρ[k]? = some (some (.tup (L.map f)))) (h0 : ρ = ρ.set j r0) (turn : ∀ (x : α) (r : Option D) (NX : En → Mu → Prop), x ∈ L → (ok x = true → NX (ρ.set j (some (f x))) μ) → (ok x = false → L.all ok = false) → b { Ds with nx := wk NX, ct := wk NX, bk := Ds.nx } (ρ.set j (some (f x))) μ) (done : L.all ok = true → ∀ r, Ds.nx (ρ.set j r) μ) :
    wFor (iTp (wVar k)) (gN j) b Ds ρ μ := by
  show iTp (wVar k) ρ μ _
  unfold iTp wVar
  rw [hv]
  exact chk_core (.fix _) rfl trivial h0 turn done
/-- over a list, a cell or not -/
theorem chk_lv {d : D} (el : lv μ d = some (L.map f)) (hv : ρ[k]? = some (some d)) (h0 : ρ = ρ.set j r0) (turn : ∀ (x : α) (r : Option D) (NX : En → Mu → Prop), x ∈ L → (ok x = true → NX (ρ.set j (some (f x))) μ) → (ok x = false → L.all ok = false) → b { Ds with nx := wk NX, ct := wk NX, bk := Ds.nx } (ρ.set j (some (f x))) μ) (done : L.all ok = true → ∀ r, Ds.nx (ρ.set j r) μ) :
    wFor (iLs (wVar k)) (gN j) b Ds ρ μ := by
  show iLs (wVar k) ρ μ _
  unfold iLs wVar
  rw [hv]
  unfold lv at el
  split at el
  · cases el
    exact chk_core (.fix _) rfl trivial h0 turn done
  · rename_i a
    split at el
    · rename_i l' em
      cases el
      dsimp only
      rw [em]
      exact chk_core (.cell a _) rfl em h0 turn done
    · cases el
  · cases el
end
end DL
set_option maxHeartbeats 4000000
namespace DL
open PySem L2 PySem.Spec PyProof.Rows
/-! ### t * 0, t * 1, t * k -/
theorem tuple_mul_one (l : Addr) (items : Array Value) (n : Nat) (dd : Option Addr) (sl : Array (Option Value)) (u : Tok) :
    Meets (Builtin.«tuple.__mul__» ⟨[.ref l, .int 1 u], []⟩) (fun _ R s => s.heap.get? l = some { cls := .type "tuple", dict := dd, data := .seq items n, slots := sl } ∧ R (.ok (.ret (Value.ref l))) s) :=
  .of_wp fun prog w A R s h => by
    obtain ⟨hp, g, d, tk, os⟩ := s
    obtain ⟨hl, h⟩ := h
    have f1 := AutoSeq1.idx_int
    have c1 : (items.isEmpty || (1 : Int) == 1) = true := by rw [show ((1 : Int) == 1) = true from rfl, Bool.or_true]
    wp_walk using wpAny_loadPart' hl
    exact ⟨_, rfl, h⟩
theorem tuple_mul_nil (l : Addr) (items : Array Value) (n : Nat) (dd : Option Addr) (sl : Array (Option Value)) (u : Tok) (c1 : (items.isEmpty || (0 : Int) == 1) = false) :
    Meets (Builtin.«tuple.__mul__» ⟨[.ref l, .int 0 u], []⟩) (fun _ R s => s.heap.get? l = some { cls := .type "tuple", dict := dd, data := .seq items n, slots := sl } ∧
      R (.ok (.ret (Value.ref s.heap.objs.size))) { s with heap := s.heap.push { cls := Value.type "tuple", data := Data.seq #[] }, toks := s.toks }) :=
  .of_wp fun prog w A R s h => by
    obtain ⟨hp, g, d, tk, os⟩ := s
    obtain ⟨hl, h⟩ := h
    have f1 := AutoSeq1.idx_int
    wp_walk using wpAny_loadPart' hl
    repeat (first
      | (refine wpAny_ite_false (decide_eq_false (by rw [c1]; exact Bool.false_ne_true)) ?_; wp_walk using wpAny_loadPart' hl))
    exact ⟨_, rfl, h⟩
def rRep (K : PySem.W.Frag) : R2 := fun x y H Q => ∃ l k xs, x = .ref l ∧ y = .int k ∧ H l = some (.tup xs) ∧ xs ≠ [] ∧ 0 ≤ k ∧ k ≤ 1000 ∧ xs.length ≤ 1000 ∧ (k = 1 → Q (.ref l) H) ∧ (k ≠ 1 → ∀ p, H p = none → Q (.ref p) (upd H p (.tup (List.replicate k.toNat xs).flatten)))
theorem op_rep0 {X : Cx} : OpR X (binaryOp .Mult) (rRep X.K) := by
  intro pins s σ H x y v u Q I rx ry h
  obtain ⟨l, k, xs, rfl, rfl, hT, hne, h1, h2, hz, q1, qn⟩ := h
  by_cases c2 : 2 ≤ k
  · exact op_repT pins s σ H _ _ v u Q I rx ry ⟨l, k, xs, rfl, rfl, SqT.of hT, hne, c2, h2, hz, qn (by omega)⟩
  cases rx
  obtain ⟨t, rfl⟩ := ry
  obtain ⟨its, r, ⟨⟨cls, dd, data, sl⟩, ho, hc, n, hd⟩, hs⟩ := I.tuple (SqT.of hT)
  simp only at hc hd
  subst hc hd
  have hle : its.length = xs.length := r.length.symm
  have hn : its ≠ [] := fun e => hne (by
    rw [e] at hle
    exact List.eq_nil_of_length_eq_zero hle.symm)
  by_cases c1 : k = 1
  · subst c1
    refine wpAny_binaryOp_repeat_ref (T := "tuple") (U := "int") (by decide) ⟨_, ho, rfl⟩ (fun s' => typeIs_int s' 1 t) noFill_tuple_mul F.fills_int_mul F.slot_int_rmul repeat_tuple F.slot_int_index.lookup
      (call_meets F.slot_int_rmul (typeIs_int s 1 t) F.entry_int_rmul (F.args_int_rmul_2 _ _) (int_rmul_tuple 1 t l its.toArray n dd sl)
        ⟨ho, rfl, ⟨_, ho, rfl⟩, call_meets F.slot_tuple_mul ⟨_, ho, rfl⟩ F.entry_tuple_mul (F.args_tuple_mul_2 _ _) (tuple_mul_one l its.toArray n dd sl t) ⟨ho, ?_⟩⟩)
    exact ⟨.ref l, H, I, rfl, q1 rfl⟩
  · obtain rfl : k = 0 := by omega
    have hi : (its.toArray.isEmpty || (0 : Int) == 1) = false := by
      cases its with
      | nil => exact absurd rfl hn
      | cons a b => rfl
    refine wpAny_binaryOp_repeat_ref (T := "tuple") (U := "int") (by decide) ⟨_, ho, rfl⟩ (fun s' => typeIs_int s' 0 t) noFill_tuple_mul F.fills_int_mul F.slot_int_rmul repeat_tuple F.slot_int_index.lookup
      (call_meets F.slot_int_rmul (typeIs_int s 0 t) F.entry_int_rmul (F.args_int_rmul_2 _ _) (int_rmul_tuple 0 t l its.toArray n dd sl)
        ⟨ho, rfl, ⟨_, ho, rfl⟩, call_meets F.slot_tuple_mul ⟨_, ho, rfl⟩ F.entry_tuple_mul (F.args_tuple_mul_2 _ _) (tuple_mul_nil l its.toArray n dd sl t hi) ⟨ho, ?_⟩⟩)
    refine ⟨.ref s.heap.objs.size, _, I.laid (t' := s.toks) (o := .tup []) (fun b ob q => Heap.get?_push_of_some _ q) (Nat.le_refl _) ?_, rfl, qn (by decide) _ (I.hok.fresh (Nat.le_refl _))⟩
    exact ⟨Nat.zero_le _, [], .nil, IsTup.new _ _⟩
def fRepT : F2 := fun x y μ Q => match x, y with
  | .tup l, .int k => (l ≠ [] ∧ 0 ≤ k ∧ k ≤ 1000 ∧ l.length ≤ 1000) ∧ Q (.tup (List.replicate k.toNat l).flatten) μ
  | _, _ => False
theorem DVs.rep {K : PySem.W.Frag} {F : Hp} {l : List D} {xs : List V} (h : DVs K F l xs) : ∀ n : Nat, DVs K F (List.replicate n l).flatten (List.replicate n xs).flatten
  | 0 => rfl
  | n + 1 => by
    rw [List.replicate_succ, List.replicate_succ, List.flatten_cons, List.flatten_cons]
    exact h.append (h.rep n)
theorem do_rep {K : PySem.W.Frag} : DOp K (rRep K) fRepT := by
  intro F μ H x y dx dy Q0 Q s d1 d2 h q
  unfold fRepT at h
  split at h
  · rename_i l k
    obtain ⟨⟨h1, h2, h3, h4⟩, h⟩ := h
    obtain ⟨a, xs, rfl, r, dl⟩ := d1
    obtain rfl : y = V.int k := d2
    refine ⟨a, k, xs, rfl, rfl, s.sub _ _ r, fun e => h1 ?_, h2, h3, by rw [dl.len]; exact h4, fun e => ?_, fun e p hp => ?_⟩
    · subst e
      cases l with
      | nil => rfl
      | cons d l => obtain ⟨v, vs, z, _⟩ := dl; cases z
    · subst e
      refine q F μ H (.tup (List.replicate (1 : Int).toNat l).flatten) _ Grow.refl s ⟨a, xs, rfl, r, ?_⟩ h
      have := dl.rep 1
      simpa using this
    · have f := s.free hp
      exact q _ μ _ (.tup _) _ (Grow.new f.1) (s.put hp) ⟨p, _, rfl, upd_same, (dl.rep _).mono (Grow.new f.1)⟩ h
  · exact h.elim
theorem erepT {X : Cx} {W : WX} {E : EX} {a b : Expr} {ta tb : TE} {wa wb : WEx} {pos : Pos} (ha : DE X W E a ta wa) (hb : DE X W E b tb wb) : DE X W E (.BinOp a .Mult b pos) (tOp (rRep X.K) ta tb) (wOp fRepT wa wb) := eo op_rep0 do_rep ha hb
/-! ### in, not in: of a list, at any depth -/
def fInD (neg : Bool) : F2 := fun x y μ Q => ∃ d l ds, toP x = some d ∧ lvr μ y = some l ∧ toPs l = some ds ∧ SeqAt.shaped d = true ∧ SeqAt.shaped (.list ds) = true ∧ Q (.bl (if neg then !ds.any (fun z => PyData.eqv z d) else ds.any fun z => PyData.eqv z d)) μ
theorem in_ok {K : PySem.W.Frag} {F H : Hp} {μ : Mu} {y : D} {v : V} {l : List D} {ds : List PyData} (s : Sok K F μ H) (dv : DV K F y v) (e : lvr μ y = some l) (e2 : toPs l = some ds) : Dp K H v (.list ds) := by
  obtain ⟨a, xs, rfl, r, dl⟩ := lvr_ok s dv e
  exact .lst r (dps_of s.sub dl e2)
theorem do_inD {K : PySem.W.Frag} : DOp K (rInD K) (fInD false) := by
  intro F μ H x y dx dy Q0 Q s d1 d2 ⟨d, l, ds, h1, h2, h3, h4, h5, h⟩ q
  exact ⟨d, ds, dp_of s.sub d1 h1, in_ok s d2 h2 h3, h4, h5, q F μ H (.bl _) _ Grow.refl s rfl h⟩
theorem do_notInD {K : PySem.W.Frag} : DOp K (rNotInD K) (fInD true) := by
  intro F μ H x y dx dy Q0 Q s d1 d2 ⟨d, l, ds, h1, h2, h3, h4, h5, h⟩ q
  exact ⟨d, ds, dp_of s.sub d1 h1, in_ok s d2 h2 h3, h4, h5, q F μ H (.bl _) _ Grow.refl s rfl h⟩
theorem Room.units65 {k : Nat} {A : Around} (r : Room k A) : A.units + 65 < cLine := by have := r.un; omega
theorem Room.units1 {k : Nat} {A : Around} (r : Room k A) : A.units + 1 < cLine := by have := r.un; omega
/-! ### dicts by keys -/
def keyD : D → Option Key
  | .int i => some (.inl i)
  | .str x => some (.inr x)
  | _ => none
def keysD : List D → Option (List Key)
  | [] => some []
  | d :: l => (keyD d).bind fun k => (keysD l).map fun ks => k :: ks
def keyT : D → Option (List Key)
  | .tup l => keysD l
  | _ => none
theorem keyD_ok {K : PySem.W.Frag} {F : Hp} {d : D} {v : V} {k : Key} (h : DV K F d v) (e : keyD d = some k) : v = kV k := by
  cases d <;> first | (cases e; exact h) | cases e
theorem keysD_ok {K : PySem.W.Frag} {F : Hp} : ∀ {l : List D} {xs : List V} {ks : List Key}, DVs K F l xs → keysD l = some ks → xs = ks.map kV
  | [], _, _, h, e => by cases e; exact h
  | d :: l, _, _, h, e => by
    obtain ⟨v, vs, rfl, a, r⟩ := h
    have e : ((keyD d).bind fun k => (keysD l).map fun ks => k :: ks) = some _ := e
    cases q : keyD d with
    | none => rw [q] at e; cases e
    | some k =>
      rw [q] at e
      cases q2 : keysD l with
      | none => rw [q2] at e; cases e
      | some ks =>
        rw [q2] at e; cases e
        rw [keyD_ok a q, keysD_ok r q2]; rfl
section
variable {κ : Type} [DecidableEq κ]
def getD' (kvs : List (κ × D)) (k : κ) : Option D := (kvs.find? fun kv => decide (kv.1 = k)).map (·.2)
def putKD (kvs : List (κ × D)) (k : κ) (v : D) : List (κ × D) := if (kvs.any fun kv => decide (kv.1 = k)) = true then kvs.map (fun kv => if kv.1 = k then (kv.1, v) else kv) else kvs ++ [(k, v)]
theorem KD.get {K : PySem.W.Frag} {F : Hp} {k : κ} : ∀ {kvs : List (κ × D)} {ys : List (κ × V)}, KD K F kvs ys → (getD' kvs k = none ∧ valV ys k = none) ∨ ∃ d v, getD' kvs k = some d ∧ valV ys k = some v ∧ DV K F d v
  | [], ys, h => by
    have e : ys = [] := by have := h.1; simpa using this
    subst e
    exact .inl ⟨rfl, rfl⟩
  | (k1, d1) :: kvs, ys, h => by
    obtain ⟨h1, h2⟩ := h
    cases ys with
    | nil => simp at h1
    | cons y ys =>
      obtain ⟨k2, v2⟩ := y
      rw [List.map_cons, List.map_cons] at h1
      injection h1 with e1 h1
      have e1 : k2 = k1 := e1
      subst e1
      obtain ⟨u, us, e2, a, r⟩ := h2
      rw [List.map_cons] at e2
      injection e2 with e3 e4
      have e3 : v2 = u := e3
      subst e3
      rw [← e4] at r
      by_cases c : k2 = k
      · exact .inr ⟨d1, v2, by simp [getD', c], by simp [valV, c], a⟩
      · have ih := KD.get (K := K) (F := F) (k := k) (kvs := kvs) (ys := ys) ⟨h1, r⟩
        have x1 : getD' ((k2, d1) :: kvs) k = getD' kvs k := by simp [getD', List.find?_cons, c]
        have x2 : valV ((k2, v2) :: ys) k = valV ys k := by simp [valV, List.find?_cons, c]
        rw [x1, x2]
        exact ih
theorem KD.any {K : PySem.W.Frag} {F : Hp} {k : κ} {kvs : List (κ × D)} {ys : List (κ × V)} (h : KD K F kvs ys) : (ys.any fun kv => decide (kv.1 = k)) = kvs.any fun kv => decide (kv.1 = k) := by
  have e1 : (ys.any fun kv => decide (kv.1 = k)) = (ys.map (·.1)).any fun x => decide (x = k) := by rw [List.any_map]; rfl
  have e2 : (kvs.any fun kv => decide (kv.1 = k)) = (kvs.map (·.1)).any fun x => decide (x = k) := by rw [List.any_map]; rfl
  rw [e1, e2, h.1]
theorem KD.over {K : PySem.W.Frag} {F : Hp} {k : κ} {d : D} {v : V} (hv : DV K F d v) : ∀ {kvs : List (κ × D)} {ys : List (κ × V)}, KD K F kvs ys → KD K F (kvs.map fun kv => if kv.1 = k then (kv.1, d) else kv) (ys.map fun kv => if kv.1 = k then (kv.1, v) else kv)
  | [], ys, h => by
    have e : ys = [] := by have := h.1; simpa using this
    subst e
    exact ⟨rfl, rfl⟩
  | (k1, d1) :: kvs, ys, h => by
    obtain ⟨h1, h2⟩ := h
    cases ys with
    | nil => simp at h1
    | cons y ys =>
      obtain ⟨k2, v2⟩ := y
      rw [List.map_cons, List.map_cons] at h1
      injection h1 with e1 h1
      have e1 : k2 = k1 := e1
      subst e1
      obtain ⟨u, us, e2, a, r⟩ := h2
      rw [List.map_cons] at e2
      injection e2 with e3 e4
      have e3 : v2 = u := e3
      subst e3
      rw [← e4] at r
      have ih := KD.over (k := k) hv (kvs := kvs) (ys := ys) ⟨h1, r⟩
      by_cases c : k2 = k
      · subst c
        refine ⟨?_, ?_⟩
        · simp only [List.map_cons, if_true]
          rw [ih.1]
        · simp only [List.map_cons, if_true]
          exact DVs.cons hv ih.2
      · refine ⟨?_, ?_⟩
        · simp only [List.map_cons, if_neg c]
          rw [ih.1]
        · simp only [List.map_cons, if_neg c]
          exact DVs.cons a ih.2
theorem KD.put {K : PySem.W.Frag} {F : Hp} {k : κ} {d : D} {v : V} {kvs : List (κ × D)} {ys : List (κ × V)} (h : KD K F kvs ys) (hv : DV K F d v) : KD K F (putKD kvs k d) (putK ys k v) := by
  unfold putKD putK
  rw [h.any]
  by_cases c : (kvs.any fun kv => decide (kv.1 = k)) = true
  · rw [if_pos c, if_pos c]
    exact h.over hv
  · rw [if_neg c, if_neg c]
    refine ⟨?_, ?_⟩
    · rw [List.map_append, List.map_append, h.1]; rfl
    · rw [List.map_append, List.map_append]
      exact h.2.append (DVs.cons hv DVs.nil)
end
theorem KD.len {K : PySem.W.Frag} {F : Hp} {κ : Type} {kvs : List (κ × D)} {ys : List (κ × V)} (h : KD K F kvs ys) : ys.length = kvs.length := by
  have := congrArg List.length h.1
  simpa using this
/-- what is found at a key: of a cell, of a dict for good -/
def dget (μ : Mu) (d k : D) : Option (Option D) := match d with
  | .mut a => match μ a with
    | some (.dK kvs) => (keyD k).map fun key => getD' kvs key
    | some (.dT kvs) => (keyT k).map fun key => getD' kvs key
    | _ => none
  | .dK ks l => (keyD k).map fun key => getD' (ks.zip l) key
  | .dT ks l => (keyT k).map fun key => getD' (ks.zip l) key
  | _ => none
theorem zip_kd {K : PySem.W.Frag} {F : Hp} {κ : Type} : ∀ {ks : List κ} {l : List D} {ys : List (κ × V)}, ys.map (·.1) = ks → DVs K F l (ys.map (·.2)) → KD K F (ks.zip l) ys
  | ks, l, [], h1, h2 => by
    subst h1
    exact ⟨rfl, rfl⟩
  | ks, [], y :: ys, h1, h2 => by
    have : (y :: ys).map (·.2) = [] := h2
    cases this
  | ks, d :: l, y :: ys, h1, h2 => by
    subst h1
    obtain ⟨u, us, e2, a, r⟩ := h2
    rw [List.map_cons] at e2
    injection e2 with e3 e4
    subst e3
    rw [← e4] at r
    have ih := zip_kd (K := K) (F := F) (ks := ys.map (·.1)) (l := l) (ys := ys) rfl r
    refine ⟨?_, ?_⟩
    · show y.1 :: ys.map (·.1) = y.1 :: ((ys.map (·.1)).zip l).map (·.1)
      rw [← ih.1]
    · show DVs K F (d :: ((ys.map (·.1)).zip l).map (·.2)) (y.2 :: ys.map (·.2))
      exact DVs.cons a ih.2
theorem dget_ok {K : PySem.W.Frag} {F H : Hp} {μ : Mu} {d k : D} {x y : V} {o : Option D} (s : Sok K F μ H) (d1 : DV K F d x) (d2 : DV K F k y) (e : dget μ d k = some o) : ∃ a ov, x = .ref a ∧ DGet H a y ov ∧ ((o = none ∧ ov = none) ∨ ∃ e v, o = some e ∧ ov = some v ∧ DV K F e v) := by
  have key : ∀ {κ : Type} [DecidableEq κ] {kvs : List (κ × D)} {ys : List (κ × V)} {kk : κ}, KD K F kvs ys → getD' kvs kk = o → ((o = none ∧ valV ys kk = none) ∨ ∃ e v, o = some e ∧ valV ys kk = some v ∧ DV K F e v) := fun {κ} _ {kvs} {ys} {kk} h e => by
    rcases h.get (k := kk) with ⟨z1, z2⟩ | ⟨d, v, z1, z2, z3⟩
    · exact .inl ⟨e.symm.trans z1, z2⟩
    · exact .inr ⟨d, v, e.symm.trans z1, z2, z3⟩
  have tupk : ∀ {ks : List Key}, keyT k = some ks → ∃ b, y = .ref b ∧ H b = some (.tup (ks.map kV)) := fun {ks} e => by
    cases k <;> first | cases e; done | skip
    all_goals first | (obtain ⟨b, xs, rfl, r, dl⟩ := d2; exact ⟨b, rfl, by rw [← keysD_ok dl e]; exact s.sub _ _ r⟩) | cases e
  unfold dget at e
  split at e
  · rename_i a
    obtain rfl : x = V.ref a := d1
    split at e
    · rename_i kvs em
      obtain ⟨_, ys, ho, kd⟩ := s.cel a _ em
      cases q : keyD k with
      | none => rw [q] at e; cases e
      | some kk =>
        rw [q] at e
        have e := Option.some.inj e
        obtain rfl := keyD_ok d2 q
        exact ⟨a, _, rfl, DGet.k ho, key kd e⟩
    · rename_i kvs em
      obtain ⟨_, ys, ho, kd⟩ := s.cel a _ em
      cases q : keyT k with
      | none => rw [q] at e; cases e
      | some kk =>
        rw [q] at e
        have e := Option.some.inj e
        obtain ⟨b, rfl, hb⟩ := tupk q
        exact ⟨a, _, rfl, DGet.t ho hb, key kd e⟩
    · cases e
  · rename_i ks l
    obtain ⟨a, ys, rfl, ho, h1, h2⟩ := d1
    cases q : keyD k with
    | none => rw [q] at e; cases e
    | some kk =>
      rw [q] at e
      have e := Option.some.inj e
      obtain rfl := keyD_ok d2 q
      exact ⟨a, _, rfl, DGet.k (s.sub _ _ ho), key (zip_kd h1 h2) e⟩
  · rename_i ks l
    obtain ⟨a, ys, rfl, ho, h1, h2⟩ := d1
    cases q : keyT k with
    | none => rw [q] at e; cases e
    | some kk =>
      rw [q] at e
      have e := Option.some.inj e
      obtain ⟨b, rfl, hb⟩ := tupk q
      exact ⟨a, _, rfl, DGet.t (s.sub _ _ ho) hb, key (zip_kd h1 h2) e⟩
  · cases e
def wDIn (neg : Bool) (a b : WEx) : WEx := fun ρ μ Q => a ρ μ fun k μ1 => b ρ μ1 fun d μ2 => ∃ o, dget μ2 d k = some o ∧ Q (.bl (if neg then !o.isSome else o.isSome)) μ2
def wDNewT : WEx := fun _ μ Q => ∀ p, μ p = none → Q (.mut p) (um μ p (.dT []))
def fDGet : F2 := fun d k μ Q => ∃ e, dget μ d k = some (some e) ∧ Q e μ
section
variable {X : Cx} {W : WX} {E : EX} {a b : Expr} {ta tb : TE} {wa wb : WEx} {pos : Pos}
theorem ok_iff {o : Option D} {ov : Option V} {P : D → V → Prop} (h : (o = none ∧ ov = none) ∨ ∃ e v, o = some e ∧ ov = some v ∧ P e v) : ov.isSome = o.isSome := by
  rcases h with ⟨rfl, rfl⟩ | ⟨e, v, rfl, rfl, _⟩ <;> rfl
theorem dn_din (ha : Dn X.K W E ta wa) (hb : Dn X.K W E tb wb) : Dn X.K W E (tDIn ta tb) (wDIn false wa wb) := by
  intro F μ H ρ σ Q0 Q s h q
  refine ha F μ H ρ σ _ _ s h fun F1 μ1 H1 k y g1 s1 dk h1 => ?_
  refine hb F1 μ1 H1 ρ σ _ _ s1 h1 fun F2 μ2 H2 d x g2 s2 dx ⟨o, eo, h2⟩ => ?_
  obtain ⟨p, ov, rfl, g, z⟩ := dget_ok s2.ok dx (dk.mono g2) eo
  exact ⟨p, ov, rfl, g, by rw [ok_iff z]; exact q F2 μ2 H2 (.bl _) _ (g1.trans g2) s2 rfl h2⟩
theorem dn_dnotin (ha : Dn X.K W E ta wa) (hb : Dn X.K W E tb wb) : Dn X.K W E (tDNotIn ta tb) (wDIn true wa wb) := by
  intro F μ H ρ σ Q0 Q s h q
  refine ha F μ H ρ σ _ _ s h fun F1 μ1 H1 k y g1 s1 dk h1 => ?_
  refine hb F1 μ1 H1 ρ σ _ _ s1 h1 fun F2 μ2 H2 d x g2 s2 dx ⟨o, eo, h2⟩ => ?_
  obtain ⟨p, ov, rfl, g, z⟩ := dget_ok s2.ok dx (dk.mono g2) eo
  exact ⟨p, ov, rfl, g, by rw [ok_iff z]; exact q F2 μ2 H2 (.bl _) _ (g1.trans g2) s2 rfl h2⟩
theorem edin (hu : X.A.units + 1 < cLine) (ha : DE X W E a ta wa) (hb : DE X W E b tb wb) (h1 : behindInMarks .In b = false := by rfl) : DE X W E (.Compare a [.In] [b] pos) (tDIn ta tb) (wDIn false wa wb) := ⟨pe_cmp (pc_din hu ha.pe hb.pe) h1, dn_din ha.dn hb.dn⟩
theorem ednin (hu : X.A.units + 1 < cLine) (ha : DE X W E a ta wa) (hb : DE X W E b tb wb) (h1 : behindInMarks .NotIn b = false := by rfl) : DE X W E (.Compare a [.NotIn] [b] pos) (tDNotIn ta tb) (wDIn true wa wb) := ⟨pe_cmp (pc_dnotin hu ha.pe hb.pe) h1, dn_dnotin ha.dn hb.dn⟩
theorem tdin (hu : X.A.units + 1 < cLine) (ha : DE X W E a ta wa) (hb : DE X W E b tb wb) (h1 : behindInMarks .In b = false := by rfl) : DT X W E (.Compare a [.In] [b] pos) (tB (tDIn ta tb)) (wTe (wDIn false wa wb)) := ⟨pt_cmp (pc_din hu ha.pe hb.pe) h1, dn_te (dn_din ha.dn hb.dn)⟩
theorem tdnin (hu : X.A.units + 1 < cLine) (ha : DE X W E a ta wa) (hb : DE X W E b tb wb) (h1 : behindInMarks .NotIn b = false := by rfl) : DT X W E (.Compare a [.NotIn] [b] pos) (tB (tDNotIn ta tb)) (wTe (wDIn true wa wb)) := ⟨pt_cmp (pc_dnotin hu ha.pe hb.pe) h1, dn_te (dn_dnotin ha.dn hb.dn)⟩
theorem edget (hu : X.A.units + 1 < cLine) (ha : DE X W E a ta wa) (hb : DE X W E b tb wb) (hs : NoSl b := by exact fun _ _ => rfl) : DE X W E (.Subscript a b pos) (tDGet ta tb) (wOp fDGet wa wb) := by
  refine ⟨pe_dget hu ha.pe hb.pe hs, fun F μ H ρ σ Q0 Q s h q => ?_⟩
  refine ha.dn F μ H ρ σ _ _ s h fun F1 μ1 H1 d x g1 s1 dx h1 => ?_
  refine hb.dn F1 μ1 H1 ρ σ _ _ s1 h1 fun F2 μ2 H2 k y g2 s2 dk ⟨e, eo, h2⟩ => ?_
  obtain ⟨p, ov, rfl, g, z⟩ := dget_ok s2.ok (dx.mono g2) dk eo
  rcases z with ⟨z, _⟩ | ⟨e', v, e1, rfl, z⟩
  · cases z
  · cases e1
    exact ⟨p, v, rfl, g, q F2 μ2 H2 e v (g1.trans g2) s2 z h2⟩
theorem ednewT : DE X W E (.Dict [] [] pos) tDNewT wDNewT := ⟨pe_dnewT, fun F μ H ρ σ Q0 Q s h q p hp => by
  have f := s.ok.free hp
  exact q F _ _ (.mut p) _ Grow.refl (s.mono Grow.refl (s.ok.cell (m := .dT []) f.1 ⟨[], upd_same, rfl, rfl⟩)) rfl (h p f.2)⟩
end
/-- d[k] = e of a cell -/
def fSetD (o i v : D) (μ : Mu) (N : Mu → Prop) : Prop := match o with
  | .mut a => match μ a with
    | some (.dK kvs) => kvs.length < 100000 ∧ ∃ k, keyD i = some k ∧ N (um μ a (.dK (putKD kvs k v)))
    | some (.dT kvs) => kvs.length < 100000 ∧ ∃ k, keyT i = some k ∧ N (um μ a (.dT (putKD kvs k v)))
    | _ => False
  | _ => False
theorem ds_setD {K : PySem.W.Frag} : DSet K rSetD fSetD := by
  intro F μ H o i v do' di dv N0 N s d1 d2 d3 h q
  unfold fSetD at h
  split at h
  · rename_i a
    obtain rfl : o = V.ref a := d1
    split at h
    · rename_i kvs em
      obtain ⟨hl, k, ek, h⟩ := h
      obtain ⟨f, ys, ho, kd⟩ := s.cel a _ em
      obtain rfl := keyD_ok d2 ek
      exact ⟨a, _, rfl, DPut.k ho (sz5l (by rw [kd.len]; exact hl)), q F _ _ Grow.refl (s.cell (m := .dK _) f ⟨_, upd_same, kd.put d3⟩) h⟩
    · rename_i kvs em
      obtain ⟨hl, k, ek, h⟩ := h
      obtain ⟨f, ys, ho, kd⟩ := s.cel a _ em
      cases di <;> first | cases ek; done | skip
      all_goals first | skip | cases ek
      obtain ⟨b, xs, rfl, r, dl⟩ := d2
      have hb : H b = some (.tup (k.map kV)) := by rw [← keysD_ok dl ek]; exact s.sub _ _ r
      exact ⟨a, _, rfl, DPut.t ho hb (sz5l (by rw [kd.len]; exact hl)), q F _ _ Grow.refl (s.cell (m := .dT _) f ⟨_, upd_same, kd.put d3⟩) h⟩
    · exact h.elim
  · exact h.elim
theorem gsd {X : Cx} {W : WX} {E : EX} {o i : Expr} {ta tb : TE} {wa wb : WEx} {pos : Pos} (hu : X.A.units + 1 < cLine) (ho : DE X W E o ta wa) (hi : DE X W E i tb wb) (hp : PE X o ta → PE X i tb → PSet X rSetD → PG X (.Subscript o i pos) (gSub ta tb rSetD) := by exact fun x y z => pg_sub x y z) : DGt X W E (.Subscript o i pos) (gSub ta tb rSetD) (gSb fSetD wa wb) := ⟨hp ho.pe hi.pe (set_dict hu), dg_sub ds_setD ho.dn hi.dn⟩
end DL
set_option maxHeartbeats 4000000
namespace DL
open PySem L2 PySem.Spec PyProof.Rows
/-! ### list comprehensions whose parts may call -/
theorem wip_set' {α : Type} (l : List (Option α)) (x : Option α) {i : Nat} {vs : List Nat} (h : i ∈ vs) : wip (l.set i x) vs = wip l vs := by
  refine List.ext_getElem? fun j => ?_
  rw [wip_get, wip_get]
  by_cases hj : j ∈ vs
  · rw [if_pos hj, if_pos hj]
    by_cases e : i = j
    · subst e
      rw [List.getElem?_set]
      simp only [if_true]
      by_cases q : i < l.length
      · rw [if_pos q, List.getElem?_eq_getElem q]; rfl
      · rw [if_neg q, List.getElem?_eq_none (by omega)]
    · rw [List.getElem?_set_ne e]
  · rw [if_neg hj, if_neg hj, List.getElem?_set_ne (fun e => hj (by rw [← e]; exact h))]
theorem wok_no {K : PySem.W.Frag} {F : Hp} : WOk K noW noE F := fun _ _ _ _ _ _ _ _ _ _ _ _ z => z.elim
/-- [e for i in ..], its parts raise nothing -/
theorem dn_lcN {K : PySem.W.Frag} {W : WX} {E : EX} {ti : TI} {wi : WI} {tt : TT} {wt : WT} {te : TE} {we : WEx} {i : Nat} {vs : List Nat} (hi : DnI K W E ti wi) (ht : DnT K noW noE tt wt) (he : Dn K noW noE te we) (hv : i ∈ vs) : Dn K W E (tLc ti (gName i) tt te vs) (wLc wi i vs wt we) := by
  intro F μ H ρ σ Q0 Q s h q
  refine hi F μ H ρ σ _ _ s h fun F1 μ1 H1 J k g1 s1 kk hk => ?_
  intro p hp
  have fr := s1.ok.free hp
  obtain ⟨I, i0, hok, step, done⟩ := hk p fr.2
  refine ⟨fun j m H' => m = k.items.length - j ∧ j ≤ k.items.length ∧ ∃ F' μ', Grow F1 F' ∧ S0 K W E F' μ' H' ρ σ ∧ I j μ', ⟨_, rfl, Nat.zero_le _, F1, _, Grow.refl, s1.mono Grow.refl (s1.ok.cell (m := .lst []) fr.1 ⟨[], upd_same, DVs.nil⟩), i0⟩, ?_⟩
  rintro j m H2 ⟨rfl, hl, F2, μ2, g2, s2, i2⟩
  by_cases hlt : j < k.items.length
  · refine .inr ⟨kk.go F2 μ2 H2 j g2 s2.ok (hok j μ2 i2) hlt, fun H' => j + 1 ≤ k.items.length ∧ ∃ F' μ', Grow F1 F' ∧ S0 K W E F' μ' H' ρ σ ∧ I (j + 1) μ', fun H' hN => ⟨k.items.length - (j + 1), by omega, rfl, hN.1, hN.2⟩, fun x H3 y => ?_⟩
    obtain ⟨F3, d, g3, s3, ed, dv⟩ := kk.yld F2 μ2 H2 j x H3 g2 s2.ok (hok j μ2 i2) hlt y
    have h3 := step j d μ2 ed i2
    rw [← wip_eq]
    refine ⟨by rw [← wip_eq]; exact wip_set σ (some x) hv, ?_⟩
    have S3 : S0 K W E F3 μ2 H3 ρ σ := s2.mono g3 s3
    refine ht F3 μ2 H3 _ _ _ _ ⟨s3, (S3.env.wip (vs := vs)).set dv, wok_no⟩ h3 fun F4 μ4 H4 b g4 s4 h4 => ?_
    have S4 : S0 K W E F4 μ4 H4 ρ σ := S3.mono g4 s4.ok
    cases b with
    | false =>
      simp only [Bool.false_eq_true, if_false] at h4 ⊢
      exact ⟨hlt, F4, μ4, g2.trans (g3.trans g4), S4, h4⟩
    | true =>
      simp only [if_true] at h4 ⊢
      refine he F4 μ4 H4 _ _ _ _ s4 h4 fun F5 μ5 H5 dy yv g5 s5 dvy ⟨acc, ea, la, h5⟩ => ?_
      obtain ⟨f5, xs, ho, dl⟩ := s5.ok.cel p _ ea
      exact ⟨xs, ho, sz5l (by rw [dl.len]; exact la), hlt, F5, _, g2.trans (g3.trans (g4.trans g5)), (S4.mono g5 s5.ok).mono Grow.refl (s5.ok.cell (m := .lst _) f5 ⟨_, upd_same, dl.append (DVs.cons dvy DVs.nil)⟩), h5⟩
  · have ei : j = k.items.length := by omega
    subst ei
    exact .inl ⟨kk.stop F2 μ2 H2 _ g2 s2.ok (hok _ μ2 i2) (Nat.le_refl _), q F2 μ2 H2 (.mut p) (.ref p) (g1.trans g2) s2 rfl (done μ2 i2)⟩
/-- [e for i, i2 in ..] -/
def wLc2 (wi : WI) (i i2 : Nat) (vs : List Nat) (tt : WT) (te : WEx) : WEx := fun ρ μ Q => wi ρ μ fun k μ1 => ∀ p, μ1 p = none → ∃ I : Nat → Mu → Prop, I 0 (um μ1 p (.lst [])) ∧ (∀ j μ, I j μ → k.ok μ) ∧
  (∀ j d μ, k.items[j]? = some d → I j μ → ∃ a b, d = .tup [a, b] ∧ tt (((wip ρ vs).set i (some a)).set i2 (some b)) μ fun b' μ3 => if b' = true then te (((wip ρ vs).set i (some a)).set i2 (some b)) μ3 fun y μ4 => ∃ acc, μ4 p = some (.lst acc) ∧ acc.length < 100000 ∧ I (j + 1) (um μ4 p (.lst (acc ++ [y]))) else I (j + 1) μ3) ∧ ∀ μ, I k.items.length μ → Q (.mut p) μ
theorem dn_lc2 {K : PySem.W.Frag} {W : WX} {E : EX} {ti : TI} {wi : WI} {tt : TT} {wt : WT} {te : TE} {we : WEx} {i i2 : Nat} {vs : List Nat} (hi : DnI K W E ti wi) (ht : DnT K noW noE tt wt) (he : Dn K noW noE te we) (hv : i ∈ vs) (hv2 : i2 ∈ vs) :
    Dn K W E (tLc ti (gTup K 2 (gCons (gName i) (gCons (gName i2) gNil))) tt te vs) (wLc2 wi i i2 vs wt we) := by
  intro F μ H ρ σ Q0 Q s h q
  refine hi F μ H ρ σ _ _ s h fun F1 μ1 H1 J k g1 s1 kk hk => ?_
  intro p hp
  have fr := s1.ok.free hp
  obtain ⟨I, i0, hok, step, done⟩ := hk p fr.2
  refine ⟨fun j m H' => m = k.items.length - j ∧ j ≤ k.items.length ∧ ∃ F' μ', Grow F1 F' ∧ S0 K W E F' μ' H' ρ σ ∧ I j μ', ⟨_, rfl, Nat.zero_le _, F1, _, Grow.refl, s1.mono Grow.refl (s1.ok.cell (m := .lst []) fr.1 ⟨[], upd_same, DVs.nil⟩), i0⟩, ?_⟩
  rintro j m H2 ⟨rfl, hl, F2, μ2, g2, s2, i2'⟩
  by_cases hlt : j < k.items.length
  · refine .inr ⟨kk.go F2 μ2 H2 j g2 s2.ok (hok j μ2 i2') hlt, fun H' => j + 1 ≤ k.items.length ∧ ∃ F' μ', Grow F1 F' ∧ S0 K W E F' μ' H' ρ σ ∧ I (j + 1) μ', fun H' hN => ⟨k.items.length - (j + 1), by omega, rfl, hN.1, hN.2⟩, fun x H3 y => ?_⟩
    obtain ⟨F3, d, g3, s3, ed, dv⟩ := kk.yld F2 μ2 H2 j x H3 g2 s2.ok (hok j μ2 i2') hlt y
    obtain ⟨a, b, rfl, h3⟩ := step j d μ2 ed i2'
    obtain ⟨T, xs, rfl, hT, va, r, rfl, da, vb, r2, rfl, db, rfl⟩ := dv
    refine ⟨T, [va, vb], rfl, SqT.of (s3.sub _ _ hT), rfl, va, [vb], rfl, vb, [], rfl, rfl, ?_⟩
    rw [← wip_eq]
    refine ⟨by rw [← wip_eq]; exact (wip_set' _ _ hv2).trans (wip_set σ _ hv), ?_⟩
    have S3 : S0 K W E F3 μ2 H3 ρ σ := s2.mono g3 s3
    refine ht F3 μ2 H3 _ _ _ _ ⟨s3, ((S3.env.wip (vs := vs)).set da).set db, wok_no⟩ h3 fun F4 μ4 H4 b g4 s4 h4 => ?_
    have S4 : S0 K W E F4 μ4 H4 ρ σ := S3.mono g4 s4.ok
    cases b with
    | false =>
      simp only [Bool.false_eq_true, if_false] at h4 ⊢
      exact ⟨hlt, F4, μ4, g2.trans (g3.trans g4), S4, h4⟩
    | true =>
      simp only [if_true] at h4 ⊢
      refine he F4 μ4 H4 _ _ _ _ s4 h4 fun F5 μ5 H5 dy yv g5 s5 dvy ⟨acc, ea, la, h5⟩ => ?_
      obtain ⟨f5, xs, ho, dl⟩ := s5.ok.cel p _ ea
      exact ⟨xs, ho, sz5l (by rw [dl.len]; exact la), hlt, F5, _, g2.trans (g3.trans (g4.trans g5)), (S4.mono g5 s5.ok).mono Grow.refl (s5.ok.cell (m := .lst _) f5 ⟨_, upd_same, dl.append (DVs.cons dvy DVs.nil)⟩), h5⟩
  · have ei : j = k.items.length := by omega
    subst ei
    exact .inl ⟨kk.stop F2 μ2 H2 _ g2 s2.ok (hok _ μ2 i2') (Nat.le_refl _), q F2 μ2 H2 (.mut p) (.ref p) (g1.trans g2) s2 rfl (done μ2 i2')⟩
section
variable {X : Cx} {W : WX} {E : EX} {elt it : Expr} {n n2 : Str} {np np2 pos tpos : Pos} {kk : Nat} {ifs : List Expr} {sc : Scope} {ti : TI} {wi : WI} {wt : WT} {we : WEx}
theorem elcN (nd : X.N.Nodup) (own : List (Str × Nat)) (i : Nat) {vs : List Nat} (hi : DIt X W E (.Name n np) it ti wi) (hg : ∀ u J C cl fp, PG (X.blk u J sc (compEnvC sc cl C X.env) fp) (.Name n np) (gName i)) (ht : ∀ u J C cl fp, ∃ tt, DTs (X.blk u J sc (compEnvC sc cl C X.env) fp) noW noE ifs tt wt)
    (he : ∀ u J C cl fp, ∃ te, DE (X.blk u J sc (compEnvC sc cl C X.env) fp) noW noE elt te we) (hc : X.calm = true := by rfl) (hvs : own.map (·.2) = vs := by rfl) (ok : blkC X.N X.env.scope sc own = true := by rfl) (hv : i ∈ own.map (·.2) := by decide) (hs : ∀ x, foldedSetIterable it X.env x = pure x := by intro _; rfl) :
    DE X W E (.ListComp elt [⟨.Name n np, it, ifs, 0⟩] sc pos) (tLc ti (gName i) (tOfT X.K noW noE wt) (tOfE X.K noW noE we) vs) (wLc wi i vs wt we) := by
  subst hvs
  exact ⟨pe_lc hc nd hi.pe (blkOk_by ok) hg (fun u J C cl fp => (ht u J C cl fp).elim fun _ h => h.of) (fun u J C cl fp => (he u J C cl fp).elim fun _ h => h.of) hs, dn_lcN hi.dn dn_ofT dn_ofE hv⟩
theorem elc2 (nd : X.N.Nodup) (own : List (Str × Nat)) (i i2 : Nat) {vs : List Nat} (hi : DIt X W E (.Tuple [.Name n np, .Name n2 np2] kk tpos) it ti wi) (hg : ∀ u J C cl fp, PG (X.blk u J sc (compEnvC sc cl C X.env) fp) (.Tuple [.Name n np, .Name n2 np2] kk tpos) (gTup X.K 2 (gCons (gName i) (gCons (gName i2) gNil)))) (ht : ∀ u J C cl fp, ∃ tt, DTs (X.blk u J sc (compEnvC sc cl C X.env) fp) noW noE ifs tt wt)
    (he : ∀ u J C cl fp, ∃ te, DE (X.blk u J sc (compEnvC sc cl C X.env) fp) noW noE elt te we) (hc : X.calm = true := by rfl) (hvs : own.map (·.2) = vs := by rfl) (ok : blkC X.N X.env.scope sc own = true := by rfl) (hv : i ∈ own.map (·.2) := by decide) (hv2 : i2 ∈ own.map (·.2) := by decide) (hs : ∀ x, foldedSetIterable it X.env x = pure x := by intro _; rfl) :
    DE X W E (.ListComp elt [⟨.Tuple [.Name n np, .Name n2 np2] kk tpos, it, ifs, 0⟩] sc pos) (tLc ti (gTup X.K 2 (gCons (gName i) (gCons (gName i2) gNil))) (tOfT X.K noW noE wt) (tOfE X.K noW noE we) vs) (wLc2 wi i i2 vs wt we) := by
  subst hvs
  exact ⟨pe_lc hc nd hi.pe (blkOk_by ok) hg (fun u J C cl fp => (ht u J C cl fp).elim fun _ h => h.of) (fun u J C cl fp => (he u J C cl fp).elim fun _ h => h.of) hs, dn_lc2 hi.dn dn_ofT dn_ofE hv hv2⟩
end
theorem gtpP {X : Cx} {i j : Nat} {e1 e2 : Expr} {k : Nat} {pos : Pos} (h1 : PG X e1 (gName i)) (h2 : PG X e2 (gName j)) (hc : X.calm = true := by rfl) (hs : (assignEach [e1, e2] X.env).map (·.2) = assign e1 X.env :: (assignEach [e2] X.env).map (·.2) := by rfl) (hs2 : (assignEach [e2] X.env).map (·.2) = assign e2 X.env :: (assignEach [] X.env).map (·.2) := by rfl) (hn : (assignEach [e1, e2] X.env).length = 2 := by rfl) (hst : (assignEach [e1, e2] X.env).findIdx? (·.1) = none := by rfl) : PG X (.Tuple [e1, e2] k pos) (gTup X.K 2 (gCons (gName i) (gCons (gName j) gNil))) :=
  pg_tup hc (pgs_cons h1 (pgs_cons h2 pgs_nil hs2) hs) hn hst
end DL
set_option maxHeartbeats 4000000
namespace DL
open PySem L2 PySem.Spec PyProof.Rows
/-! ### the pure part of a comprehension without effects -/
theorem Wk.ok_le {μ μ' : Mu} {k : Wk} (h : k.ok μ) (l : le μ μ') : k.ok μ' := by
  cases k with
  | fix l => trivial
  | cell a x => exact l _ _ h
section
variable {α : Type} {wi : WI} {i i2 : Nat} {vs : List Nat} {tt : WT} {te : WEx} {ρ : En} {μ : Mu} {Q : D → Mu → Prop}
theorem filt_take {t : α → Bool} {h : α → D} {L : List α} {j : Nat} {x : α} (e : L[j]? = some x) : (((L.take (j + 1)).filter t).map h) = ((L.take j).filter t).map h ++ (if t x = true then [h x] else []) := by
  rw [List.take_succ, e, Option.toList_some, List.filter_append, List.map_append, List.filter_cons, List.filter_nil]
  by_cases c : t x = true
  · rw [if_pos c, if_pos c]; rfl
  · rw [if_neg c, if_neg c]; rfl
theorem filt_len (t : α → Bool) (h : α → D) (L : List α) (j : Nat) : (((L.take j).filter t).map h).length ≤ L.length := by
  rw [List.length_map]
  refine Nat.le_trans (List.length_filter_le _ _) ?_
  rw [List.length_take]
  exact Nat.min_le_right _ _
theorem lc_frz (L : List α) (f : α → D) (t : α → Bool) (h : α → D) (hw : ∃ k : Wk, k.items = L.map f ∧ k.ok μ ∧ ∀ R : Wk → Mu → Prop, R k μ → wi ρ μ R) (hz : L.length < 100000)
    (ht : ∀ x ∈ L, ∀ μ' R, le μ μ' → R (t x) μ' → tt ((wip ρ vs).set i (some (f x))) μ' R) (he : ∀ x ∈ L, t x = true → ∀ μ' R, le μ μ' → R (h x) μ' → te ((wip ρ vs).set i (some (f x))) μ' R) (q : Q (.lst ((L.filter t).map h)) μ) : wFrz (wLc wi i vs tt te) ρ μ Q := by
  obtain ⟨k, hk, hok, hR⟩ := hw
  refine hR _ fun p hp => ⟨fun j μ' => μ' = um μ p (.lst (((L.take j).filter t).map h)), show um μ p _ = um μ p _ by rw [List.take_zero]; rfl, fun j μ' e => by rw [e]; exact Wk.ok_le hok (le.um hp), ?_, ?_⟩
  · rintro j d μ' hd rfl
    rw [hk, List.getElem?_map] at hd
    cases e : L[j]? with
    | none => rw [e] at hd; cases hd
    | some x =>
      rw [e] at hd
      obtain rfl : f x = d := Option.some.inj hd
      have hx := List.mem_of_getElem? e
      refine ht x hx _ _ (le.um hp) ?_
      by_cases c : t x = true
      · rw [if_pos c]
        refine he x hx c _ _ (le.um hp) ⟨_, um_same, Nat.lt_of_le_of_lt (filt_len t h L j) hz, ?_⟩
        show um (um μ p _) p _ = um μ p _
        rw [um_um, filt_take e, if_pos c]
      · rw [if_neg c]
        show um μ p _ = um μ p _
        rw [filt_take e, if_neg c, List.append_nil]
  · rintro μ' rfl
    rw [hk, List.length_map, List.take_length]
    show fFrz _ _ _
    unfold fFrz
    dsimp only
    rw [um_same]
    dsimp only
    rw [rm_um hp]
    exact q
theorem lc2_frz (L : List α) (f g : α → D) (t : α → Bool) (h : α → D) (hw : ∃ k : Wk, k.items = L.map (fun x => D.tup [f x, g x]) ∧ k.ok μ ∧ ∀ R : Wk → Mu → Prop, R k μ → wi ρ μ R) (hz : L.length < 100000)
    (ht : ∀ x ∈ L, ∀ μ' R, le μ μ' → R (t x) μ' → tt (((wip ρ vs).set i (some (f x))).set i2 (some (g x))) μ' R) (he : ∀ x ∈ L, t x = true → ∀ μ' R, le μ μ' → R (h x) μ' → te (((wip ρ vs).set i (some (f x))).set i2 (some (g x))) μ' R) (q : Q (.lst ((L.filter t).map h)) μ) : wFrz (wLc2 wi i i2 vs tt te) ρ μ Q := by
  obtain ⟨k, hk, hok, hR⟩ := hw
  refine hR _ fun p hp => ⟨fun j μ' => μ' = um μ p (.lst (((L.take j).filter t).map h)), show um μ p _ = um μ p _ by rw [List.take_zero]; rfl, fun j μ' e => by rw [e]; exact Wk.ok_le hok (le.um hp), ?_, ?_⟩
  · rintro j d μ' hd rfl
    rw [hk, List.getElem?_map] at hd
    cases e : L[j]? with
    | none => rw [e] at hd; cases hd
    | some x =>
      rw [e] at hd
      obtain rfl : D.tup [f x, g x] = d := Option.some.inj hd
      have hx := List.mem_of_getElem? e
      refine ⟨_, _, rfl, ht x hx _ _ (le.um hp) ?_⟩
      by_cases c : t x = true
      · rw [if_pos c]
        refine he x hx c _ _ (le.um hp) ⟨_, um_same, Nat.lt_of_le_of_lt (filt_len t h L j) hz, ?_⟩
        show um (um μ p _) p _ = um μ p _
        rw [um_um, filt_take e, if_pos c]
      · rw [if_neg c]
        show um μ p _ = um μ p _
        rw [filt_take e, if_neg c, List.append_nil]
  · rintro μ' rfl
    rw [hk, List.length_map, List.take_length]
    show fFrz _ _ _
    unfold fFrz
    dsimp only
    rw [um_same]
    dsimp only
    rw [rm_um hp]
    exact q
/-- what is walked: a local that is a list, a tuple; a range -/
theorem wi_lv {k : Nat} {d : D} {l : List D} (hv : ρ[k]? = some (some d)) (el : lv μ d = some l) : ∃ k' : Wk, k'.items = l ∧ k'.ok μ ∧ ∀ R : Wk → Mu → Prop, R k' μ → iLs (wVar k) ρ μ R := by
  unfold lv at el
  split at el
  · cases el
    exact ⟨.fix _, rfl, trivial, fun R h => by unfold iLs wVar; rw [hv]; exact h⟩
  · rename_i a
    split at el
    · rename_i l' em
      cases el
      exact ⟨.cell a _, rfl, em, fun R h => by unfold iLs wVar; rw [hv]; dsimp only; rw [em]; exact h⟩
    · cases el
  · cases el
theorem wi_tp {k : Nat} {l : List D} (hv : ρ[k]? = some (some (.tup l))) : ∃ k' : Wk, k'.items = l ∧ k'.ok μ ∧ ∀ R : Wk → Mu → Prop, R k' μ → iTp (wVar k) ρ μ R := ⟨.fix l, rfl, trivial, fun R h => by unfold iTp wVar; rw [hv]; exact h⟩
end
end DL
set_option maxHeartbeats 4000000
namespace DL
open PySem L2 PySem.Spec PyProof.Rows
/-! ### calls of built-ins on lists -/
section
variable {K : PySem.W.Frag}
/-- the truth values, the whole numbers that l is -/
def blsD : List D → Option (List Bool)
  | [] => some []
  | .bl b :: l => (blsD l).map fun r => b :: r
  | _ => none
def intsD : List D → Option (List Int)
  | [] => some []
  | .int b :: l => (intsD l).map fun r => b :: r
  | _ => none
theorem blsD_ok {F : Hp} : ∀ {l : List D} {xs : List V} {bs : List Bool}, DVs K F l xs → blsD l = some bs → xs = bs.map V.bl
  | [], _, _, h, e => by cases e; exact h
  | d :: l, _, _, h, e => by
    obtain ⟨v, vs, rfl, a, r⟩ := h
    cases d with
    | bl b =>
      have e : (blsD l).map (fun r => b :: r) = some _ := e
      cases q : blsD l with
      | none => rw [q] at e; cases e
      | some ys =>
        rw [q] at e; cases e
        rw [show v = V.bl b from a, blsD_ok r q]; rfl
    | _ => exact nomatch e
theorem intsD_ok {F : Hp} : ∀ {l : List D} {xs : List V} {bs : List Int}, DVs K F l xs → intsD l = some bs → xs = bs.map V.int
  | [], _, _, h, e => by cases e; exact h
  | d :: l, _, _, h, e => by
    obtain ⟨v, vs, rfl, a, r⟩ := h
    cases d with
    | int b =>
      have e : (intsD l).map (fun r => b :: r) = some _ := e
      cases q : intsD l with
      | none => rw [q] at e; cases e
      | some ys =>
        rw [q] at e; cases e
        rw [show v = V.int b from a, intsD_ok r q]; rfl
    | _ => exact nomatch e
theorem intsD_map : ∀ ns : List Int, intsD (ns.map D.int) = some ns
  | [] => rfl
  | n :: ns => by
    show (intsD (ns.map D.int)).map (fun r => n :: r) = _
    rw [intsD_map ns]; rfl
theorem blsD_map : ∀ ns : List Bool, blsD (ns.map D.bl) = some ns
  | [] => rfl
  | n :: ns => by
    show (blsD (ns.map D.bl)).map (fun r => n :: r) = _
    rw [blsD_map ns]; rfl
def fAny (ds : List D) (μ : Mu) (Q : D → Mu → Prop) : Prop := match ds with
  | [x] => ∃ l bs, lvr μ x = some l ∧ blsD l = some bs ∧ Q (.bl (bs.any id)) μ
  | _ => False
def fMaxL (ds : List D) (μ : Mu) (Q : D → Mu → Prop) : Prop := match ds with
  | [x] => ∃ l ns, lvr μ x = some l ∧ intsD l = some ns ∧ 0 < ns.length ∧ ∀ m, m ∈ ns → (∀ y, y ∈ ns → y ≤ m) → Q (.int m) μ
  | _ => False
def fMin2 (ds : List D) (μ : Mu) (Q : D → Mu → Prop) : Prop := match ds with
  | [.int i, .int j] => Q (.int (if j < i then j else i)) μ
  | _ => False
def fTuple (ds : List D) (μ : Mu) (Q : D → Mu → Prop) : Prop := match ds with
  | [.tup l] => Q (.tup l) μ
  | [x] => ∃ l, lvr μ x = some l ∧ Q (.tup l) μ
  | _ => False
theorem dc_any : DCa K (rAny K) fAny := by
  intro F μ H vs ds Q0 Q s dv h q
  unfold fAny at h
  split at h
  · obtain ⟨l, bs, el, eb, h⟩ := h
    obtain ⟨v, r, rfl, d1, rfl⟩ := dv
    obtain ⟨a, xs, rfl, r, dl⟩ := lvr_ok s d1 el
    exact ⟨a, bs, rfl, by rw [← blsD_ok dl eb]; exact r, q F μ H (.bl _) _ Grow.refl s rfl h⟩
  · exact h.elim
theorem dc_max : DCa K (rMax K) fMaxL := by
  intro F μ H vs ds Q0 Q s dv h q
  unfold fMaxL at h
  split at h
  · obtain ⟨l, ns, el, eb, h0, h⟩ := h
    obtain ⟨v, r, rfl, d1, rfl⟩ := dv
    obtain ⟨a, xs, rfl, r, dl⟩ := lvr_ok s d1 el
    exact ⟨a, ns, rfl, by rw [← intsD_ok dl eb]; exact r, h0, fun m hm hy => q F μ H (.int m) _ Grow.refl s rfl (h m hm hy)⟩
  · exact h.elim
theorem dc_min2 : DCa K (fun xs H Q => ∃ i j, xs = [.int i, .int j] ∧ Q (.int (if j < i then j else i)) H) fMin2 := by
  intro F μ H vs ds Q0 Q s dv h q
  unfold fMin2 at h
  split at h
  · rename_i i j
    obtain ⟨v, r, rfl, d1, u, r2, rfl, d2, rfl⟩ := dv
    obtain rfl : v = V.int i := d1
    obtain rfl : u = V.int j := d2
    exact ⟨i, j, rfl, q F μ H (.int _) _ Grow.refl s rfl h⟩
  · exact h.elim
theorem dc_tuple : DCa K (fun xs H Q => ∃ p ys, xs = [.ref p] ∧ ((SqL K H p ys ∧ ∀ l, H l = none → Q (.ref l) (upd H l (.tup ys))) ∨ (SqT K H p ys ∧ Q (.ref p) H))) fTuple := by
  intro F μ H vs ds Q0 Q s dv h q
  unfold fTuple at h
  split at h
  · rename_i l
    obtain ⟨v, r, rfl, ⟨a, xs, rfl, ho, dl⟩, rfl⟩ := dv
    exact ⟨a, xs, rfl, .inr ⟨SqT.of (s.sub _ _ ho), q F μ H (.tup l) _ Grow.refl s ⟨a, xs, rfl, ho, dl⟩ h⟩⟩
  · obtain ⟨l, el, h⟩ := h
    obtain ⟨v, r, rfl, d1, rfl⟩ := dv
    obtain ⟨a, xs, rfl, r, dl⟩ := lvr_ok s d1 el
    refine ⟨a, xs, rfl, .inl ⟨r, fun p hp => ?_⟩⟩
    have f := s.free hp
    exact q (upd F p (.tup xs)) μ _ (.tup l) _ (Grow.new f.1) (s.put hp) ⟨p, xs, rfl, upd_same, dl.mono (Grow.new f.1)⟩ h
  · exact h.elim
/-! ### methods of lists: insert, pop(i), clear -/
def fIns (o : D) (ds : List D) (μ : Mu) (Q : D → Mu → Prop) : Prop := match o, ds with
  | .mut a, [.int i, d] => match μ a with
    | some (.lst l) => (l.length < 100000 ∧ 0 ≤ i ∧ i < 2 ^ 63) ∧ Q .non (um μ a (.lst (l.take i.toNat ++ [d] ++ l.drop i.toNat)))
    | _ => False
  | _, _ => False
def fPopAt (o : D) (ds : List D) (μ : Mu) (Q : D → Mu → Prop) : Prop := match o, ds with
  | .mut a, [.int i] => match μ a with
    | some (.lst l) => (0 ≤ i ∧ i < l.length ∧ l.length ≤ 100000) ∧ ∃ d, l[i.toNat]? = some d ∧ Q d (um μ a (.lst (l.eraseIdx i.toNat)))
    | _ => False
  | _, _ => False
def fClear (o : D) (ds : List D) (μ : Mu) (Q : D → Mu → Prop) : Prop := match o, ds with
  | .mut a, [] => match μ a with
    | some (.lst l) => Q .non (um μ a (.lst []))
    | _ => False
  | _, _ => False
theorem DVs.erase {F : Hp} : ∀ {l : List D} {xs : List V} (i : Nat), DVs K F l xs → DVs K F (l.eraseIdx i) (xs.eraseIdx i)
  | [], _, _, h => by rw [show _ = [] from h]; exact rfl
  | _ :: l, _, 0, h => by
    obtain ⟨v, vs, rfl, a, r⟩ := h
    exact r
  | _ :: l, _, i + 1, h => by
    obtain ⟨v, vs, rfl, a, r⟩ := h
    exact ⟨_, _, rfl, a, DVs.erase i r⟩
theorem dm_ins : DMe K (fun x vs H Q => ∃ (l : Addr) (xs : List V) (i : Int) (y : V), x = .ref l ∧ vs = [.int i, y] ∧ H l = some (.lst xs) ∧ xs.length < sizeLine ∧ 0 ≤ i ∧ i < 2 ^ 63 ∧ Q .non (upd H l (.lst (xs.take i.toNat ++ [y] ++ xs.drop i.toNat)))) fIns := by
  intro F μ H x vs dx ds Q0 Q s d1 d2 h q
  unfold fIns at h
  split at h
  · rename_i a i d
    split at h
    · rename_i l em
      obtain rfl : x = V.ref a := d1
      obtain ⟨y, r, rfl, dy, z, r2, rfl, dz, rfl⟩ := d2
      obtain rfl : y = V.int i := dy
      obtain ⟨f, xs, ho, dl⟩ := s.cel a _ em
      refine ⟨a, xs, i, z, rfl, rfl, ho, sz5l (by rw [dl.len]; exact h.1.1), h.1.2.1, h.1.2.2, ?_⟩
      exact q F _ _ .non _ Grow.refl (s.cell (m := .lst _) f ⟨_, upd_same, ((dl.take _).append (DVs.cons dz DVs.nil)).append (dl.drop _)⟩) rfl h.2
    · exact h.elim
  · exact h.elim
theorem dm_popAt : DMe K rPopAt fPopAt := by
  intro F μ H x vs dx ds Q0 Q s d1 d2 h q
  unfold fPopAt at h
  split at h
  · rename_i a i
    split at h
    · rename_i l em
      obtain ⟨⟨h0, h1, hz⟩, d, ed, h⟩ := h
      obtain rfl : x = V.ref a := d1
      obtain ⟨y, r, rfl, dy, rfl⟩ := d2
      obtain rfl : y = V.int i := dy
      obtain ⟨f, xs, ho, dl⟩ := s.cel a _ em
      obtain ⟨v, e1, e2⟩ := dl.get ed
      refine ⟨a, xs, i, i.toNat, v, rfl, rfl, ho, by omega, by omega, ?_, e1, ?_⟩
      · have hl := dl.len
        unfold seqIndex?
        rw [show (if i < 0 then i + (xs.length : Nat) else i) = i from if_neg (by omega)]
        exact if_pos (by rw [Bool.and_eq_true, decide_eq_true_eq, decide_eq_true_eq]; omega)
      · exact q F _ _ d _ Grow.refl (s.cell (m := .lst _) f ⟨_, upd_same, dl.erase _⟩) e2 h
    · exact h.elim
  · exact h.elim
theorem dm_clear : DMe K rClear fClear := by
  intro F μ H x vs dx ds Q0 Q s d1 d2 h q
  unfold fClear at h
  split at h
  · rename_i a
    split at h
    · rename_i l em
      obtain rfl : x = V.ref a := d1
      obtain rfl : vs = [] := d2
      obtain ⟨f, xs, ho, dl⟩ := s.cel a _ em
      exact ⟨a, xs, rfl, rfl, ho, q F _ _ .non _ Grow.refl (s.cell (m := .lst _) f ⟨_, upd_same, DVs.nil⟩) rfl h⟩
    · exact h.elim
  · exact h.elim
end
theorem emeL0 {X : Cx} {W : WX} {E : EX} {o : Expr} {ta : TE} {wa : WEx} {pos : Pos} {id m : String} {name : Str} {r : V → List V → Hp → VK → Prop} {f : D → List D → Mu → (D → Mu → Prop) → Prop} {apos : Pos} (slot : Slot "list" name id) (hty : typeOf (.builtin id) = pure (.type "method_descriptor")) (hm : MtR X id r) (hf : DMe X.K r f) (ho : DE X W E o ta wa)
    (hp : PlainAttrs "list" → Slot "list" name id → typeOf (.builtin id) = pure (.type "method_descriptor") → MtR X id r → PE X o ta → PE X (.Call (.Attribute o name apos) [] [] pos) (tBM0 X.K "list" r ta) := by exact fun a b c d e => pe_bm0 a b c d e) :
    DE X W E (.Call (.Attribute o name apos) [] [] pos) (tBM0 X.K "list" r ta) (wMeL f wa wNil) := ⟨hp PySem.F.plainAttrs_list slot hty hm ho.pe, dn_meL0 hf ho.dn⟩
/-! ### range(a, b, -1); a, b = a list -/
def rngD (hi : Int) (n : Nat) : List D := (List.range n).map fun i => D.int (hi - (i : Nat))
def iR3 (a : WA) : WI := fun ρ μ Q => a ρ μ fun ds μ1 => match ds with
  | [.int i, .int j, .int c] => (c = -1 ∧ -(2 ^ 62) ≤ i ∧ i < 2 ^ 62 ∧ -(2 ^ 62) ≤ j ∧ j < 2 ^ 62) ∧ Q (.fix (rngD i (i - j).toNat)) μ1
  | _ => False
theorem rngD_len (lo : Int) (n : Nat) : (rngD lo n).length = n := by unfold rngD; rw [List.length_map, List.length_range]
theorem rngD_get {lo : Int} {n i : Nat} (h : i < n) : (rngD lo n)[i]? = some (D.int (lo - (i : Nat))) := by
  unfold rngD; rw [List.getElem?_map, List.getElem?_range h]; rfl
theorem wk_rngD {K : PySem.W.Frag} {lo : Int} {n : Nat} {F : Hp} : WkOk K (Itc lo (-1) n) (.fix (rngD lo n)) F := by
  refine ⟨fun F' μ' H' i g s' _ hi => ?_, fun F' μ' H' i x H2 g s' _ hi y => ?_, fun F' μ' H' i g s' _ hi => ?_⟩
  all_goals
    have hi' := hi
    rw [show (Wk.fix (rngD lo n)).items = rngD lo n from rfl, rngD_len] at hi'
  · exact hi'
  · obtain ⟨rfl, rfl⟩ := y
    refine ⟨F', .int (lo - (i : Nat)), Grow.refl, s', rngD_get hi', ?_⟩
    show V.int (lo + (i : Nat) * -1) = V.int (lo - (i : Nat))
    congr 1
    omega
  · exact hi'
theorem di_r3 {K : PySem.W.Frag} {W : WX} {E : EX} {tas : TA} {was : WA} (ha : DnA K W E tas was) : DnI K W E (iRng3 tas) (iR3 was) := by
  intro F μ H ρ σ Q0 R s h q
  refine ha F μ H ρ σ _ _ s h fun F1 μ1 H1 ds vs g1 s1 dv h1 => ?_
  split at h1
  · rename_i i j c
    obtain ⟨x, r, rfl, dx, y, r2, rfl, dy, z, r3, rfl, dz, rfl⟩ := dv
    obtain rfl : x = V.int i := dx
    obtain rfl : y = V.int j := dy
    obtain rfl : z = V.int c := dz
    obtain ⟨⟨rfl, h2, h3, h4, h5⟩, h1⟩ := h1
    exact ⟨i, j, -1, _, rfl, RgC.neg h2 h3 h4 h5, q F1 μ1 H1 _ _ g1 s1 wk_rngD h1⟩
  · exact h1.elim
def gLs (n : Nat) (gs : WGs) : WG := fun d ρ μ N => match lvr μ d with
  | some l => l.length = n ∧ gs l ρ μ N
  | none => False
theorem dg_lst {K : PySem.W.Frag} {W : WX} {E : EX} {gs : TGs} {wgs : WGs} {n : Nat} (h1 : DnGs K W E gs wgs) : DnG K W E (gLst K n gs) (gLs n wgs) := by
  intro F μ H ρ σ d v N0 N s dv h q
  unfold gLs at h
  split at h
  · rename_i l el
    obtain ⟨a, xs, rfl, r, dl⟩ := lvr_ok s.ok dv el
    exact ⟨a, xs, rfl, r, by rw [dl.len]; exact h.1, h1 F μ H ρ σ _ xs _ _ s dl h.2 q⟩
  · exact h.elim
section
variable {X : Cx} {W : WX} {E : EX} {a b c : Expr} {es : List Expr} {tas : TA} {was : WA} {gs : TGs} {wgs : WGs} {pos : Pos}
theorem ir3 {tg : Expr} {p' : Pos} (hm : X.mg "range" = none) (h : DA X W E [a, b, c] tas was) (hg : Gl X "range" := by rfl) (hp : X.mg "range" = none → PA X [a, b, c] tas → PI X tg (.Call (.Name "range" p') [a, b, c] [] pos) (iRng3 tas) := by exact fun m x => pi_range3 (by rfl) m x) : DIt X W E tg (.Call (.Name "range" p') [a, b, c] [] pos) (iRng3 tas) (iR3 was) := ⟨hp hm h.pe, di_r3 h.dn⟩
theorem gls {n k : Nat} (h : DGl X W E es gs wgs) (hc : X.calm = true := by rfl) (hn : (assignEach es X.env).length = n := by rfl) (hst : (assignEach es X.env).findIdx? (·.1) = none := by rfl) : DGt X W E (.Tuple es k pos) (gLst X.K n gs) (gLs n wgs) := ⟨pg_lst hc h.pe hn hst, dg_lst h.dn⟩
end
end DL
set_option maxHeartbeats 1000000
namespace DL
open PySem L2 PySem.Spec PyProof.Rows
/-! ### enumerate(t), t a tuple -/
theorem meets_enumT (t : Addr) (items : Array Value) :
    Meets (Builtin.«enumerate.__new__» ⟨[.type "enumerate", .ref t], []⟩) (fun _ R s => s.heap.IsTuple t items ∧
      R (.ok (.ret (.ref (s.heap.push { cls := .type "tuple_iterator", data := .fields #[.ref t, .int 0 0] }).objs.size)))
        { s with heap := (s.heap.push { cls := .type "tuple_iterator", data := .fields #[.ref t, .int 0 0] }).push { cls := .type "enumerate", data := .fields #[.none, .bool false, .ref s.heap.objs.size, rawInt 0, .none, .none] } }) :=
  .of_wp fun prog w A R s h => by
    obtain ⟨hp, g, d, tk, os⟩ := s
    obtain ⟨hT, h⟩ := h
    have hsub := sub_enumerate
    have qT : ∀ {A' : Around} {E : Value → Shared → Prop} {Q : Value → Shared → Prop}, Q (.ref hp.objs.size) ⟨hp.push { cls := .type "tuple_iterator", data := .fields #[.ref t, .int 0 0] }, g, d, tk, os⟩ → wpAny (model prog w) A' (pyIter (.ref t)) Q E ⟨hp, g, d, tk, os⟩ :=
      fun q => (begins_tuple t items).iter prog w _ _ ⟨hp, g, d, tk, os⟩ _ hT q
    wp_walk using qT
    refine wpAny_stack_any fun st => wpAny_pure ?_
    split
    · rename_i c _ _ _ _ _
      cases (c == Value.type "enumerate") <;> (wp_walk using qT; exact ⟨_, rfl, h⟩)
    · wp_walk using qT
      exact ⟨_, rfl, h⟩
section
variable {prog : Program} {w : World} {A : Around} {E : Value → Shared → Prop} {s : Shared}
theorem call_enumT {t : Addr} {items : Array Value} {Q : Value → Shared → Prop} (hT : s.heap.IsTuple t items)
    (h : ∀ h', IsEnum h' (s.heap.objs.size + 1) s.heap.objs.size 0 .none → h'.IsTupleIter s.heap.objs.size t 0 → h'.objs.size = s.heap.objs.size + 2 → (∀ b o, s.heap.get? b = some o → h'.get? b = some o) → Q (.ref (s.heap.objs.size + 1)) { s with heap := h' }) :
    wpAny (model prog w) A (call (.type "enumerate") [.ref t]) Q E s := by
  refine callType_new F.called_enumerate (by decide) (F.typeCall_enumerate_1 _) (F.newCall_enumerate_1 _) (fun obj => F.args_object_init_2 obj _) F.entry_enumerate_new (meets_enumT t items) ⟨hT, ?_⟩
  generalize ho : ({ cls := .type "tuple_iterator", data := .fields #[.ref t, .int 0 0] } : Obj) = o
  have hfree : o.isFreed = false := by rw [← ho]; rfl
  have hz : (s.heap.push o).objs.size = s.heap.objs.size + 1 := Heap.size_push ..
  show _ ∧ _
  rw [hz]
  generalize hq : ({ cls := .type "enumerate", data := .fields #[.none, .bool false, .ref s.heap.objs.size, rawInt 0, .none, .none] } : Obj) = oe
  have he : ((s.heap.push o).push oe).get? (s.heap.objs.size + 1) = some oe := by
    rw [← hz]
    exact Heap.get?_push_size _ (by rw [← hq]; rfl)
  refine ⟨⟨oe, he, by rw [← hq]⟩, h _ (by rw [← hq] at he ⊢; exact he) ⟨o, Heap.get?_push_of_some _ (Heap.get?_push_size _ hfree), by rw [← ho], by rw [← ho]; rfl⟩ (by rw [Heap.size_push, hz]) fun b u x => Heap.get?_push_of_some _ (Heap.get?_push_of_some _ x)⟩
end
/-- the tuple at a, each item in a new pair -/
def ItT (K : PySem.W.Frag) (a : Addr) : It :=
  ⟨fun i H => ∃ (xs : List V) (x : V), SqT K H a xs ∧ xs[i]? = some x, fun i H v H' => ∃ T x, v = .ref T ∧ H T = none ∧ H' = upd H T (.tup [.int (i : Nat), x]) ∧ ∀ xs, SqT K H a xs → xs[i]? = some x, fun i H => ∃ xs : List V, SqT K H a xs ∧ xs.length ≤ i⟩
theorem turn_enumT {P : Program} {w : World} {K : PySem.W.Frag} {elts : List Expr} {kk : Nat} {tpos : Pos} (a e it : Addr) (hae : a ≠ e) (hai : a ≠ it) :
    Turn P w K (.Tuple elts kk tpos) (ItT K a) [e, it] e (fun i h => (∃ old, IsEnum h e it ((i : Nat) : Int) old) ∧ h.IsTupleIter it a i ∧ e ≠ it) where
  mem := List.mem_cons_self
  obj := fun i h st b hb => by
    obtain ⟨⟨old, he⟩, ⟨o, ho, _, hd⟩, _⟩ := st
    rcases List.mem_cons.mp hb with rfl | hb
    · exact ⟨_, he, fun v q => nomatch q⟩
    · rw [List.mem_singleton.mp hb]
      exact ⟨o, ho, fun v q => by rw [hd] at q; cases q⟩
  keep := fun i h h' st k => by
    obtain ⟨⟨old, he⟩, hi, hne⟩ := st
    exact ⟨⟨old, k e List.mem_cons_self _ he⟩, hi.at fun o q => k it (by simp) o q, hne⟩
  item := by
    rintro X rfl rfl rfl hc i pins s σ H E I hf ⟨⟨old, he⟩, hit, hne⟩ ⟨xs, x, hq, hx⟩
    obtain ⟨its, rv, ht, hz⟩ := I.tuple hq
    obtain ⟨u, hu, ru⟩ := rv.get hx
    have hlt : i < its.toArray.size := by rw [List.size_toArray]; exact (List.getElem?_eq_some_iff.mp hu).1
    have hel : e < s.heap.objs.size := Heap.lt_size he
    have hil : it < s.heap.objs.size := let ⟨_, q, _⟩ := hit; Heap.lt_size q
    have D := Draws.tuple (prog := X.prog) (w := X.w) (A := X.A.in1) (by first | exact I.ok.hd hc | rfl) it a hai its.toArray
    refine wpAny_pyNext_enum_itemD D he ⟨hit, ht⟩ hlt hne (by simp [hne, Ne.symm hae]) fun x' h' tk hx' ho hst hT hsz hk => ?_
    have ex : x' = u := Option.some.inj (hx'.symm.trans (by simpa using hu))
    subst ex
    refine ⟨_, rfl, wpAny_letOwnedTupleGo_enum (s := { s with heap := h', toks := tk + 1 }) ho fun h'' he' sb => ?_⟩
    have hT2 : h''.get? s.heap.objs.size = some { cls := .type "tuple", data := .seq #[.int i tk, x'] } := (sb.2 _ (Nat.ne_of_gt hel)).trans hT
    have new : ObjOk X.prog X.w (upd H s.heap.objs.size (.tup [.int (i : Nat), x])) h'' s.heap.objs.size (.tup [.int (i : Nat), x]) :=
      ⟨Nat.le_trans (Nat.le_of_ble_eq_true rfl : ([V.int (i : Nat), x] : List V).length ≤ 2) (show 2 ≤ sizeLine by decide), [.int i tk, x'], .cons ⟨_, rfl⟩ (.cons ru .nil), ⟨_, hT2, rfl, _, rfl⟩⟩
    have I1 : Inv X pins σ (upd H s.heap.objs.size (.tup [.int (i : Nat), x])) { s with heap := h'', toks := tk + 1 } :=
      I.turnedNew (ch := [e, it]) (fun b ob hb q => (sb.2 b fun z => hb (by simp [z])).trans (hk b ob (fun z => hb (by simp [z])) (fun z => hb (by simp [z])) q)) hf (Nat.le_refl _) new
    have fresh := I.hok.fresh (Nat.le_refl s.heap.objs.size)
    have hit2 : h''.IsTupleIter it a (i + 1) := hst.1.at fun o q => (sb.2 it (Ne.symm hne)).trans q
    refine ⟨.ref s.heap.objs.size, _, I1, rfl, ⟨_, x, rfl, fresh, rfl, fun ys hy => ?_⟩, ⟨⟨x', ?_⟩, hit2, hne⟩, fun b hb => ?_⟩
    · rw [I.tuple_inj hy hq]
      exact hx
    · have e1 : ((i + 1 : Nat) : Int) = (i : Int) + 1 := by omega
      rw [e1]
      exact he'
    · have hb' : b < s.heap.objs.size := by
        rcases List.mem_cons.mp hb with rfl | hb
        · exact hel
        · rw [List.mem_singleton.mp hb]; exact hil
      rw [upd_ne (Nat.ne_of_lt hb')]
      exact (hf b hb).1
  done := by
    rintro X rfl rfl rfl hc i pins s σ H E I hf ⟨⟨old, he⟩, hit, hne⟩ ⟨xs, hq, hx⟩
    obtain ⟨its, rv, ht, hz⟩ := I.tuple hq
    obtain ⟨f0, f1, f2, f3, f4, f5⟩ := hf it (by simp)
    have hl := rv.length
    have D : Draws X.prog X.w X.A.in1 it [it, a] i (fun _ _ => True) (fun j h => j = i ∧ h.IsTupleIter it a i ∧ h.IsTuple a its.toArray) := {
      live := fun j h z => let ⟨o, ho, _⟩ := z.2.1; ⟨o, ho⟩
      frame := fun j h h' z k => ⟨z.1, z.2.1.at fun o q => k it (by simp) o q, z.2.2.at fun o q => k a (by simp) o q⟩
      item := fun j s Q E hj z _ => absurd z.1 (Nat.ne_of_lt hj)
      done := fun s Q E z hE => wpAny_nextOf_tuple_end (by first | exact I.ok.hd hc | rfl) z.2.1 z.2.2 (by simp; omega) hE }
    exact wpAny_pyNext_enum_endD D he ⟨rfl, hit, ht⟩ fun h' eb => ⟨rfl, I.turned (t' := s.toks) (fun b o hb q => eb b o hb q) f0 f1 f3 f4 f5⟩
  self := fun A i s Q E st h => let ⟨⟨_, he⟩, _⟩ := st; wpAny_pyIter_enum he h
def iEnumT (K : PySem.W.Frag) (ta : TA) : TI := fun σ H R => ta σ H fun vs H1 => ∃ a xs, vs = [.ref a] ∧ SqT K H1 a xs ∧ R (ItT K a) H1
theorem pi_enumT {X : Cx} {e : Expr} {ta : TA} {p pos tpos : Pos} {elts : List Expr} {kk : Nat} (hg : Gl X "enumerate") (hm : X.mg "enumerate" = none) (ha : PA X [e] ta) (hs : starEach [e] X.env = [(false, eval e X.env)] := by rfl) :
    PI X (.Tuple elts kk tpos) (.Call (.Name "enumerate" p) [e] [] pos) (iEnumT X.K ta) := by
  refine ⟨fun pins s σ H R I h => Call_ (ld_blt I hg hm boot_enumerate (PyProof.Rows.callWith_type1 (thn (ha.run pos pins s σ H _ I h) fun us s1 ⟨vs, H1, I1, r1, a, xs, ex, hq, q⟩ => ?_) hs rfl))⟩
  subst ex
  cases r1 with
  | cons r rr =>
    cases rr
    cases r
    obtain ⟨its, rv, ht, hz⟩ := I1.tuple hq
    refine call_enumT ht fun h' he hit hsz hk => wpAny_pyIter_enum he ?_
    have I2 : Inv X pins σ H1 { s1 with heap := h' } := I1.kept (t' := s1.toks) hk
    have hal : a < s1.heap.objs.size := let ⟨_, z, _⟩ := ht; Heap.lt_size z
    refine ⟨s1.heap.objs.size + 1, [s1.heap.objs.size + 1, s1.heap.objs.size], _, _, H1, rfl, I2, turn_enumT a (s1.heap.objs.size + 1) s1.heap.objs.size (Nat.ne_of_lt (Nat.lt_succ_of_lt hal)) (Nat.ne_of_lt hal), ⟨⟨.none, he⟩, hit, Nat.succ_ne_self _⟩, fun b hb => ?_, q⟩
    have hle : s1.heap.objs.size ≤ b := by
      rcases List.mem_cons.mp hb with rfl | hb
      · exact Nat.le_succ _
      · rw [List.mem_singleton.mp hb]; exact Nat.le_refl _
    exact I1.fpOk hle (I1.hok.fresh hle)
/-- the pairs of place and item -/
def numb (l : List D) : List D := (List.range l.length).zip l |>.map fun q => D.tup [.int (q.1 : Nat), q.2]
theorem numb_len (l : List D) : (numb l).length = l.length := by
  unfold numb
  rw [List.length_map, List.length_zip, List.length_range, Nat.min_self]
theorem numb_get {l : List D} {i : Nat} {d : D} (h : l[i]? = some d) : (numb l)[i]? = some (.tup [.int (i : Nat), d]) := by
  have hi := (List.getElem?_eq_some_iff.mp h).1
  unfold numb
  rw [List.getElem?_map, List.getElem?_eq_getElem (by rw [List.length_zip, List.length_range, Nat.min_self]; exact hi), List.getElem_zip, List.getElem_range]
  obtain ⟨_, e⟩ := List.getElem?_eq_some_iff.mp h
  rw [e]
  rfl
/-- enumerate of a list, a tuple -/
def iEn (a : WEx) : WI := fun ρ μ Q => a ρ μ fun d μ1 => match d with
  | .tup l => Q (.fix (numb l)) μ1
  | _ => False
theorem di_enT {K : PySem.W.Frag} {W : WX} {E : EX} {ta : TE} {wa : WEx} (ha : Dn K W E ta wa) : DnI K W E (iEnumT K (tCons ta tNil)) (iEn wa) := by
  intro F μ H ρ σ Q0 R s h q
  refine ha F μ H ρ σ _ _ s h fun F1 μ1 H1 d v g1 s1 dv h1 => ?_
  split at h1
  · rename_i l
    obtain ⟨a, xs, rfl, ho, dl⟩ := dv
    have tH : ∀ {F' H' : Hp} {μ' : Mu}, Grow F1 F' → Sok K F' μ' H' → SqT K H' a xs := fun g s => SqT.of (s.sub _ _ (g _ _ ho))
    refine ⟨a, xs, rfl, SqT.of (s1.ok.sub _ _ ho), q F1 μ1 H1 (ItT K a) (.fix (numb l)) g1 s1 ⟨fun F' μ' H' i g s' _ hi => ?_, fun F' μ' H' i x H2 g s' _ hi y => ?_, fun F' μ' H' i g s' _ hi => ?_⟩ h1⟩
    · have hi' : i < xs.length := by rw [dl.len, ← numb_len]; exact hi
      exact ⟨xs, xs[i], tH g s', List.getElem?_eq_getElem hi'⟩
    · obtain ⟨T, z, rfl, hT, rfl, hz⟩ := y
      obtain ⟨e, e1, e2⟩ := dl.back (hz xs (tH g s'))
      have f := s'.free hT
      exact ⟨upd F' T (.tup [.int (i : Nat), z]), .tup [.int (i : Nat), e], Grow.new f.1, s'.put hT, numb_get e1, T, _, rfl, upd_same, DVs.cons rfl (DVs.cons (e2.mono (g.trans (Grow.new f.1))) DVs.nil)⟩
    · exact ⟨xs, tH g s', by rw [dl.len, ← numb_len]; exact hi⟩
  · exact h1.elim
theorem ienT {X : Cx} {W : WX} {E : EX} {a : Expr} {ta : TE} {wa : WEx} {p pos tpos : Pos} {elts : List Expr} {kk : Nat} (hm : X.mg "enumerate" = none) (h : DE X W E a ta wa) (hg : Gl X "enumerate" := by rfl) (hp : X.mg "enumerate" = none → PA X [a] (tCons ta tNil) → PI X (.Tuple elts kk tpos) (.Call (.Name "enumerate" p) [a] [] pos) (iEnumT X.K (tCons ta tNil)) := by exact fun m x => pi_enumT (by rfl) m x) (hs : PE X a ta → PA X [a] (tCons ta tNil) := by exact fun x => pa_cons x pa_nil) :
    DIt X W E (.Tuple elts kk tpos) (.Call (.Name "enumerate" p) [a] [] pos) (iEnumT X.K (tCons ta tNil)) (iEn wa) := ⟨hp hm (hs h.pe), di_enT h.dn⟩
end DL
set_option maxHeartbeats 4000000
namespace DL
open PySem L2 PySem.Spec PyProof.Rows
theorem lv_mono {μ μ' : Mu} {d : D} {l : List D} (h : le μ μ') (e : lv μ d = some l) : lv μ' d = some l := by
  unfold lv at e ⊢
  split at e
  · exact e
  · split at e
    · rename_i a l' em
      cases e
      rw [h _ _ em]
    · cases e
  · cases e
theorem lv_cell {μ : Mu} {a : Addr} {l : List D} (e : lv μ (.mut a) = some l) : μ a = some (.lst l) := by
  have e : (match μ a with | some (.lst l) => some l | _ => none) = some l := e
  split at e
  · rename_i l' em
    cases e
    exact em
  · cases e
theorem um_swap {μ : Mu} {p q : Addr} {a b : MO} (h : q ≠ p) : um (um μ q b) p a = um (um μ p a) q b := by
  funext x
  unfold um
  by_cases h1 : x = p
  · subst h1
    rw [if_pos rfl, if_neg (Ne.symm h), if_pos rfl]
  · rw [if_neg h1]
    by_cases h2 : x = q
    · rw [if_pos h2, if_pos h2]
    · rw [if_neg h2, if_neg h2, if_neg h1]
theorem le_none {μ μ' : Mu} {p : Addr} (h : le μ μ') (e : μ' p = none) : μ p = none := by
  cases q : μ p with
  | none => rfl
  | some m => rw [h p m q] at e; cases e
/-- for g in xs: b, xs a local that is a list as long as the loop runs -/
theorem for_lv2 {k : Nat} {d : D} {l : List D} {μ : Mu} {ρ : En} {g : WG} {b : WS} {Ds : DEnds} (el : lv μ d = some l) (hv : ρ[k]? = some (some d)) (I : Nat → En → Mu → Prop) (i0 : I 0 ρ μ) (ik : ∀ i ρ' μ', I i ρ' μ' → lv μ' d = some l)
    (step : ∀ i e ρ' μ', l[i]? = some e → I i ρ' μ' → g e ρ' μ' fun ρ2 μ2 => b { Ds with nx := wk (I (i + 1)), ct := wk (I (i + 1)), bk := Ds.nx } ρ2 μ2) (done : ∀ ρ' μ', I l.length ρ' μ' → Ds.nx ρ' μ') : wFor (iLs (wVar k)) g b Ds ρ μ := by
  show iLs (wVar k) ρ μ _
  unfold iLs wVar
  rw [hv]
  cases d <;> first | (cases el; done) | skip
  · cases el
    exact ⟨I, i0, fun _ _ _ _ => trivial, step, done⟩
  · dsimp only
    rw [lv_cell el]
    exact ⟨I, i0, fun i ρ' μ' h => lv_cell (ik i ρ' μ' h), step, done⟩
end DL
set_option maxHeartbeats 4000000
namespace DL
open PySem L2 PySem.Spec PyProof.Rows
/-! ### properties -/
structure DfP (P : Program) (w : World) (K : PySem.W.Frag) (mg : Str → Option Value) (base : Heap) (C : Addr) (f : Str) (k : Nat) (c : Ct) : Prop where
  ex : ∃ p g fd, FnOk P w K mg base (L2N.CX P w) k g fd ["self"] (spD K c) ∧ PropOf K C f p g ∧ Binds K fd ["self"] []
  cls : Cls K C
def wProp (C : Addr) (c : Ct) (o : WEx) : WEx := fun ρ μ Q => o ρ μ fun x μ1 => (∃ fs, fieldsD μ1 x = some (C, fs)) ∧ c [x] μ1 Q fun _ _ _ => False
theorem dn_prop {K : PySem.W.Frag} {W : WX} {E : EX} {C : Addr} {c : Ct} {ta : TE} {wa : WEx} (ho : Dn K W E ta wa) : Dn K W E (tProp C (spD K c) [] (fun _ _ _ => False) ta) (wProp C c wa) := by
  intro F μ H ρ σ Q0 Q s h q
  refine ho F μ H ρ σ _ _ s h fun F1 μ1 H1 d v g1 s1 dv ⟨⟨fs, ef⟩, h1⟩ => ?_
  obtain ⟨a, dx, ys, rfl, ha1, kd⟩ := fields_ok s1.ok dv ef
  refine ⟨a, dx, ys, rfl, ha1, F1, μ1, [d], _, _, s1.ok, DVs.cons dv DVs.nil, h1, fun F3 μ3 H3 d3 v3 g3 s3 dv3 ⟨μ4, l, h3⟩ => ?_, fun F3 μ3 H3 D fs g3 g4 s3 ex ⟨μ4, l, h3⟩ => h3.elim⟩
  exact q F3 μ4 H3 d3 v3 (g1.trans g3) ((s1.mono g3 s3).weak l) dv3 h3
theorem eprop {X : Cx} {W : WX} {E : EX} {o : Expr} {ta : TE} {wa : WEx} {pos : Pos} {C : Addr} {f : Str} {k : Nat} {c : Ct} (h : DfP X.prog X.w X.K X.mg X.base C f k c) (hr : Room (k + 1) X.A) (ho : DE X W E o ta wa) (hab : attributeBase o f X.env (eval o X.env) = eval o X.env := by rfl) :
    DE X W E (.Attribute o f pos) (tProp C (spD X.K c) [] (fun _ _ _ => False) ta) (wProp C c wa) := by
  obtain ⟨⟨p, g, fd, G, hp, hb⟩, cl⟩ := h
  exact ⟨pe_prop ho.pe cl hp G hr hb .nil (fun pins σ H s e s' I ⟨_, _, _, _, _, _, _, _, _, _, _, _, hE⟩ => hE.elim) hab, dn_prop ho.dn⟩
/-- a class's def keeps its promise; the making, the property -/
theorem DfK.of {P : Program} {w : World} {K : PySem.W.Frag} {mg : Str → Option Value} {base : Heap} {x : Str} {C f : Addr} {fd : FuncData} {k : Nat} {ps : List Str} {c : Ct} (G : FnOk P w K mg base (L2N.CX P w) k f fd ps (spD K c)) (M : Mk K C f) (hm : mg x = some (.ref C)) (hb : Binds K fd ps []) : DfK P w K mg base x C k ps c := ⟨f, fd, G, M, hm, hb⟩
end DL
set_option maxHeartbeats 1000000
namespace DL
open PySem L2 PySem.Spec PyProof.Rows
/-! ### list(range(n)) -/
theorem vals_get : ∀ {xs : List V} {us : List Value}, xs.length = us.length → (∀ (i : Nat) (v : V) (u : Value), xs[i]? = some v → us[i]? = some u → RelV v u) → Vals xs us
  | [], [], _, _ => .nil
  | x :: xs, u :: us, hl, h => .cons (h 0 x u rfl rfl) (vals_get (by simpa using hl) fun i v w e1 e2 => h (i + 1) v w (by simpa using e1) (by simpa using e2))
def rRng1 : List V → Hp → VK → Prop := fun vs H Q => ∃ j, vs = [V.int j] ∧ ∀ p, H p = none → Q (.ref p) (upd H p (.rng 0 j))
theorem cr_rng1 {X : Cx} : CallR X (.type "range") rRng1 := by
  intro pins s σ H vs us Q I r h
  obtain ⟨j, rfl, q⟩ := h
  obtain ⟨u1, rfl, t, rfl⟩ := vals1 r
  refine call_range_1 ⟨.ref s.heap.objs.size, upd H s.heap.objs.size (.rng 0 j), I.laid (t' := s.toks + 1 + 1) (fun b o e => Heap.get?_push_of_some _ e) (Nat.le_refl _) ?_, rfl, q _ (I.hok.fresh (Nat.le_refl _))⟩
  exact ⟨s.toks, t, s.toks + 1, Heap.get?_push_size _ rfl⟩
def rLstR : List V → Hp → VK → Prop := fun vs H Q => ∃ p j, vs = [V.ref p] ∧ H p = some (.rng 0 j) ∧ 0 ≤ j ∧ j ≤ 1000000 ∧ ∀ l, H l = none → Q (.ref l) (upd H l (.lst ((List.range j.toNat).map fun i => V.int (i : Nat))))
theorem small_up {j : Int} (h0 : 0 ≤ j) (h1 : j ≤ 1000000) : Builtin.Range.small 0 j 1 = true := by
  have e : Builtin.Range.rangeSize 0 j 1 = j := by rw [rangeSize_one]; split <;> omega
  unfold Builtin.Range.small
  rw [e]
  unfold Builtin.Range.rangeFitsLong
  simp only [Bool.and_eq_true, decide_eq_true_eq, Bool.or_eq_true]
  have c : (1 : Int) > 0 := by decide
  rw [if_pos c]
  simp only [decide_eq_true_eq, Bool.and_eq_true]
  omega
theorem cr_lstR {X : Cx} (hc : X.calm = true) : CallR X (.type "list") rLstR := by
  intro pins s σ H vs us Q I r h
  obtain ⟨p, j, rfl, hp, h0, h1, q⟩ := h
  obtain ⟨u1, rfl, rfl⟩ := vals1 r
  obtain ⟨t, u, v, ho⟩ := I.hok p _ hp
  have e : Builtin.Range.rangeSize 0 j 1 = (j.toNat : Nat) := by rw [rangeSize_one]; split <;> omega
  refine call_list_range (I.ok.hd hc) ho (small_up h0 h1) e (by omega) fun h' tk acc' c' hk hS hacc => ?_
  have rv : Vals ((List.range j.toNat).map fun i => V.int (i : Nat)) acc'.toList := by
    obtain ⟨hz, hi⟩ := hacc
    refine vals_get (by rw [List.length_map, List.length_range, Array.length_toList, hz]) fun i v u e1 e2 => ?_
    rw [List.getElem?_map] at e1
    cases q : (List.range j.toNat)[i]? with
    | none => rw [q] at e1; cases e1
    | some k =>
      rw [q] at e1
      cases e1
      have hk : k = i := by
        obtain ⟨_, e⟩ := List.getElem?_eq_some_iff.mp q
        rw [List.getElem_range] at e
        exact e.symm
      subst hk
      obtain ⟨t, rfl⟩ := hi k u (by simpa using e2)
      exact ⟨t, by congr 1; omega⟩
  refine ⟨.ref s.heap.objs.size, _, I.laid (t' := tk) (o := .lst ((List.range j.toNat).map fun i => V.int (i : Nat))) hk (Nat.le_refl _) ?_, rfl, q _ (I.hok.fresh (Nat.le_refl _))⟩
  exact ⟨by rw [List.length_map, List.length_range, sizeLine_eq]; omega, acc'.toList, c', rv, by simpa using hS⟩
/-- the numbers below n -/
def upTo (n : Nat) : List D := (List.range n).map fun i => D.int (i : Nat)
def wLR (a : WEx) : WEx := fun ρ μ Q => a ρ μ fun d μ1 => match d with
  | .int j => (0 ≤ j ∧ j ≤ 1000000) ∧ ∀ p, μ1 p = none → Q (.mut p) (um μ1 p (.lst (upTo j.toNat)))
  | _ => False
theorem upTo_dvs {K : PySem.W.Frag} {F : Hp} : ∀ l : List Nat, DVs K F (l.map fun i => D.int (i : Nat)) (l.map fun i => V.int (i : Nat))
  | [] => rfl
  | i :: l => DVs.cons rfl (upTo_dvs l)
theorem elr {X : Cx} {W : WX} {E : EX} {a : Expr} {ta : TE} {wa : WEx} {p p2 pos pos2 : Pos} (hml : X.mg "list" = none) (hmr : X.mg "range" = none) (h : DE X W E a ta wa) (hc : X.calm = true := by rfl)
    (hp : X.mg "list" = none → X.mg "range" = none → X.calm = true → PE X a ta → PE X (.Call (.Name "list" p) [.Call (.Name "range" p2) [a] [] pos2] [] pos) (tCB rLstR (tCons (tCB rRng1 (tCons ta tNil)) tNil)) := by exact fun m m2 c x => pe_callTy (cr_lstR c) (by rfl) m (by decide +kernel) (pa_cons (pe_callTy cr_rng1 (by rfl) m2 (by decide +kernel) (pa_cons x pa_nil)) pa_nil)) :
    DE X W E (.Call (.Name "list" p) [.Call (.Name "range" p2) [a] [] pos2] [] pos) (tCB rLstR (tCons (tCB rRng1 (tCons ta tNil)) tNil)) (wLR wa) := by
  refine ⟨hp hml hmr hc h.pe, fun F μ H ρ σ Q0 Q s hw q => ?_⟩
  refine h.dn F μ H ρ σ _ _ s hw fun F1 μ1 H1 d v g1 s1 dv h1 => ?_
  split at h1
  · rename_i j
    obtain ⟨⟨h0, hz⟩, h1⟩ := h1
    obtain rfl : v = V.int j := dv
    refine ⟨j, rfl, fun r hr => ⟨r, j, rfl, upd_same, h0, hz, fun l hl => ?_⟩⟩
    have s2 := s1.ok.junk (o := .rng 0 j) hr
    have f := s2.free hl
    exact q F1 _ _ (.mut l) _ g1 (s1.mono Grow.refl (s2.cell (m := .lst (upTo j.toNat)) f.1 ⟨_, upd_same, upTo_dvs _⟩)) rfl (h1 l f.2)
  · exact h1.elim
end DL
set_option maxHeartbeats 1000000
namespace DL
open PySem L2 PySem.Spec PyProof.Rows
/-! ### y = [e for x in ..] -/
section
variable {X : Cx} {W : WX} {E : EX} {elt it : Expr} {n n2 y : Str} {np np2 pos tpos spos py : Pos} {kk : Nat} {ifs : List Expr} {sc : Scope} {ti : TI} {wi : WI} {wt : WT} {we : WEx}
theorem ssetlc (nd : X.N.Nodup) (iy : Nat) (own : List (Str × Nat)) (i : Nat) {vs : List Nat} (hi : DIt X W E (.Name n np) it ti wi) (hg : ∀ u J C cl fp, PG (X.blk u J sc (compEnvC sc cl C X.env) fp) (.Name n np) (gName i)) (ht : ∀ u J C cl fp, ∃ tt, DTs (X.blk u J sc (compEnvC sc cl C X.env) fp) noW noE ifs tt wt)
    (he : ∀ u J C cl fp, ∃ te, DE (X.blk u J sc (compEnvC sc cl C X.env) fp) noW noE elt te we) (hc : X.calm = true := by rfl) (hvs : own.map (·.2) = vs := by rfl) (ok : blkC X.N X.env.scope sc own = true := by rfl) (hv : i ∈ own.map (·.2) := by decide) (hs : ∀ x, foldedSetIterable it X.env x = pure x := by intro _; rfl)
    (hy : X.N[iy]? = some y := by rfl) (hyl : X.env.scope.names.lookup y = some .local := by rfl) (hk : X.env.scope.kind = .function := by rfl) (hl : (py.line == pos.line) = true := by rfl) (ha : (sc.names.any fun (n, k) => n == y && (k == .local || k == .cell)) = false := by rfl) :
    DS X W E (.Assign [.Name y py] (.ListComp elt [⟨.Name n np, it, ifs, 0⟩] sc pos) spos) (tAsg (tLc ti (gName i) (tOfT X.K noW noE wt) (tOfE X.K noW noE we) vs) (gName iy)) (wAsg (wLc wi i vs wt we) (gN iy)) := by
  subst hvs
  exact ⟨ps_setLc hc nd hy hyl (sw_true hk hyl hl ha) hi.pe (blkOk_by ok) hg (fun u J C cl fp => (ht u J C cl fp).elim fun _ h => h.of) (fun u J C cl fp => (he u J C cl fp).elim fun _ h => h.of) hs, dn_asg (dn_lcN hi.dn dn_ofT dn_ofE hv) dg_name⟩
theorem ssetlcF (nd : X.N.Nodup) (iy : Nat) (own : List (Str × Nat)) (i : Nat) {vs : List Nat} (hi : DIt X W E (.Name n np) it ti wi) (hg : ∀ u J C cl fp, PG (X.blk u J sc (compEnvC sc cl C X.env) fp) (.Name n np) (gName i)) (ht : ∀ u J C cl fp, ∃ tt, DTs (X.blk u J sc (compEnvC sc cl C X.env) fp) noW noE ifs tt wt)
    (he : ∀ u J C cl fp, ∃ te, DE (X.blk u J sc (compEnvC sc cl C X.env) fp) noW noE elt te we) (hc : X.calm = true := by rfl) (hvs : own.map (·.2) = vs := by rfl) (ok : blkC X.N X.env.scope sc own = true := by rfl) (hv : i ∈ own.map (·.2) := by decide) (hs : ∀ x, foldedSetIterable it X.env x = pure x := by intro _; rfl)
    (hy : X.N[iy]? = some y := by rfl) (hyl : X.env.scope.names.lookup y = some .local := by rfl) (hk : X.env.scope.kind = .function := by rfl) (hl : (py.line == pos.line) = true := by rfl) (ha : (sc.names.any fun (n, k) => n == y && (k == .local || k == .cell)) = false := by rfl) :
    DS X W E (.Assign [.Name y py] (.ListComp elt [⟨.Name n np, it, ifs, 0⟩] sc pos) spos) (tAsg (tLc ti (gName i) (tOfT X.K noW noE wt) (tOfE X.K noW noE we) vs) (gName iy)) (wAsg (wFrz (wLc wi i vs wt we)) (gN iy)) := by
  subst hvs
  exact ⟨ps_setLc hc nd hy hyl (sw_true hk hyl hl ha) hi.pe (blkOk_by ok) hg (fun u J C cl fp => (ht u J C cl fp).elim fun _ h => h.of) (fun u J C cl fp => (he u J C cl fp).elim fun _ h => h.of) hs, dn_asg (dn_frz (dn_lcN hi.dn dn_ofT dn_ofE hv)) dg_name⟩
end
/-! ### words for the pure part -/
/-- a comprehension that draws: the items by a property, the store by the invariant S -/
theorem lc_draw {wi : WI} {i : Nat} {vs : List Nat} {te : WEx} {ρ : En} {μ : Mu} {Q : D → Mu → Prop} {p0 : Addr} {S : List D → Prop} {st0 : List D} {P : D → Prop} {L : List D}
    (h0 : μ p0 = some (.lst st0)) (hs : S st0) (hw : ∀ R : Wk → Mu → Prop, (∀ k : Wk, k.items = L → (∀ st p l, μ p = none → k.ok (um (um μ p0 (.lst st)) p (.lst l))) → R k μ) → wi ρ μ R) (hz : L.length < 100000)
    (he : ∀ d ∈ L, ∀ p l st R, μ p = none → S st → (∀ e st', P e → S st' → R e (um (um μ p0 (.lst st')) p (.lst l))) → te ((wip ρ vs).set i (some d)) (um (um μ p0 (.lst st)) p (.lst l)) R)
    (q : ∀ l st p, μ p = none → p ≠ p0 → l.length = L.length → (∀ e ∈ l, P e) → S st → Q (.mut p) (um (um μ p0 (.lst st)) p (.lst l))) : wLc wi i vs wYes te ρ μ Q := by
  refine hw _ fun k hk hok p hp => ⟨fun j μ' => ∃ st l, μ' = um (um μ p0 (.lst st)) p (.lst l) ∧ S st ∧ l.length = j ∧ ∀ e ∈ l, P e, ⟨st0, [], by rw [um_id h0], hs, rfl, fun e he => nomatch he⟩, fun j μ' ⟨st, l, e, _⟩ => by rw [e]; exact hok st p l hp, ?_, ?_⟩
  · rintro j d μ' hd ⟨st, l, rfl, hst, hl, hP⟩
    rw [hk] at hd
    have hj := (List.getElem?_eq_some_iff.mp hd).1
    simp only [wYes, if_true]
    refine he d (List.mem_of_getElem? hd) p l st _ hp hst fun e st' hPe hst' => ⟨l, um_same, by omega, st', l ++ [e], by rw [um_um], hst', by rw [List.length_append, hl]; rfl, fun x hx => ?_⟩
    rcases List.mem_append.mp hx with hx | hx
    · exact hP x hx
    · rw [List.mem_singleton.mp hx]; exact hPe
  · rintro μ' ⟨st, l, rfl, hst, hl, hP⟩
    rw [hk] at hl
    have hne : p ≠ p0 := fun e => by rw [e, h0] at hp; cases hp
    exact q l st p hp hne hl hP hst
end DL
set_option maxHeartbeats 1000000
namespace DL
open PySem L2 PySem.Spec PyProof.Rows
/-! ### lists of tuples of whole numbers, as the model's own data -/
def pI (s : List Int) : PyData := .tuple (s.map .int)
theorem toPs_ints : ∀ s : List Int, toPs (s.map D.int) = some (s.map .int)
  | [] => rfl
  | a :: s => by
    show ((toP (.int a)).bind fun x => (toPs (s.map D.int)).map fun xs => x :: xs) = _
    rw [toPs_ints s]; rfl
theorem toP_tup (s : List Int) : toP (.tup (s.map D.int)) = some (pI s) := by
  show (toPs (s.map D.int)).map PyData.tuple = _
  rw [toPs_ints]; rfl
theorem toPs_tups : ∀ L : List (List Int), toPs (L.map fun s => D.tup (s.map D.int)) = some (L.map pI)
  | [] => rfl
  | s :: L => by
    show ((toP (.tup (s.map D.int))).bind fun x => (toPs (L.map fun s => D.tup (s.map D.int))).map fun xs => x :: xs) = _
    rw [toPs_tups L, toP_tup]; rfl
theorem lay_ints : ∀ s : List Int, PyData.canLayAll0 (s.map .int) = true
  | [] => by simp [PyData.canLayAll0]
  | a :: s => by simp [PyData.canLayAll0, PyData.canLay0, lay_ints s]
theorem dep_ints : ∀ s : List Int, PyData.depthAll (s.map .int) = 0
  | [] => by simp [PyData.depthAll]
  | a :: s => by simp [PyData.depthAll, PyData.depth, dep_ints s]
theorem lay_tups : ∀ L : List (List Int), PyData.canLayAll0 (L.map pI) = true
  | [] => by simp [PyData.canLayAll0]
  | s :: L => by simp [PyData.canLayAll0, pI, PyData.canLay0, lay_ints, lay_tups L]
theorem dep_tups : ∀ L : List (List Int), PyData.depthAll (L.map pI) ≤ 1
  | [] => by simp [PyData.depthAll]
  | s :: L => by
    have := dep_tups L
    have e : PyData.depth (pI s) = 1 := by simp [pI, PyData.depth, dep_ints]
    rw [List.map_cons, PyData.depthAll, e]
    omega
theorem shaped_tup (s : List Int) : SeqAt.shaped (pI s) = true := by
  unfold SeqAt.shaped pI
  rw [PyData.canLay0, PyData.depth, lay_ints, dep_ints]; rfl
theorem shaped_tups (L : List (List Int)) : SeqAt.shaped (.list (L.map pI)) = true := by
  have := dep_tups L
  unfold SeqAt.shaped
  rw [PyData.canLay0, PyData.depth, lay_tups, Bool.true_and]
  exact decide_eq_true (by omega)
theorem shaped_ints (s : List Int) : SeqAt.shaped (.list (s.map .int)) = true := by
  unfold SeqAt.shaped
  rw [PyData.canLay0, PyData.depth, lay_ints, dep_ints]; rfl
theorem eqv_ints : ∀ a b : List Int, PyData.eqvAll (a.map .int) (b.map .int) = decide (a = b)
  | [], [] => by simp [PyData.eqvAll]
  | [], b :: t => by simp [PyData.eqvAll]
  | a :: s, [] => by simp [PyData.eqvAll]
  | a :: s, b :: t => by
    rw [List.map_cons, List.map_cons, PyData.eqvAll, eqv_ints s t, PyData.eqv]
    by_cases c : a = b
    · subst c; simp
    · simp [c]
theorem eqv_tup (a b : List Int) : PyData.eqv (pI a) (pI b) = decide (a = b) := by
  unfold pI
  rw [PyData.eqv, eqv_ints]
theorem any_tup (L : List (List Int)) (s : List Int) : ((L.map pI).any fun z => PyData.eqv z (pI s)) = decide (s ∈ L) := by
  induction L with
  | nil => simp
  | cons a L ih =>
    rw [List.map_cons, List.any_cons, ih, eqv_tup]
    by_cases c : a = s
    · subst c; simp
    · have : s ≠ a := fun e => c e.symm
      simp [c, this]
/-- == of lists of such, of whole numbers with the empty list -/
theorem eqv_tups : ∀ L M : List (List Int), PyData.eqvAll (L.map pI) (M.map pI) = decide (L = M)
  | [], [] => by simp [PyData.eqvAll]
  | [], b :: t => by simp [PyData.eqvAll]
  | a :: s, [] => by simp [PyData.eqvAll]
  | a :: s, b :: t => by
    rw [List.map_cons, List.map_cons, PyData.eqvAll, eqv_tups s t, eqv_tup]
    by_cases c : a = b
    · subst c; simp
    · simp [c]
end DL
set_option maxHeartbeats 1000000
namespace DL
open PySem L2 PySem.Spec PyProof.Rows
/-! ### == of a list cell with data; xs + ys as a cell -/
def fEqL : F2 := fun x y μ Q => ∃ l ds e, lvr μ x = some l ∧ toPs l = some ds ∧ toP y = some e ∧ SeqAt.shaped (.list ds) = true ∧ SeqAt.shaped e = true ∧ Q (.bl (PyData.eqv (.list ds) e)) μ
theorem do_eqL {K : PySem.W.Frag} : DOp K (rEqD K) fEqL := by
  intro F μ H x y dx dy Q0 Q s d1 d2 ⟨l, ds, e, h1, h2, h3, h4, h5, h⟩ q
  exact ⟨.list ds, e, in_ok s d1 h1 h2, dp_of s.sub d2 h3, h4, h5, q F μ H (.bl _) _ Grow.refl s rfl h⟩
def fCatM : F2 := fun x y μ Q => ∃ l m, lv μ x = some l ∧ lv μ y = some m ∧ l.length + m.length ≤ 100000 ∧ ∀ p, μ p = none → Q (.mut p) (um μ p (.lst (l ++ m)))
theorem do_catM {K : PySem.W.Frag} : DOp K rCat fCatM := by
  intro F μ H x y dx dy Q0 Q s d1 d2 ⟨l, m, el, em, hz, h⟩ q
  obtain ⟨a, xs, rfl, ha, dl⟩ := lv_ok s d1 el
  obtain ⟨b, ys, rfl, hb, dm⟩ := lv_ok s d2 em
  refine ⟨a, b, xs, ys, rfl, rfl, ha, hb, sz5 (by rw [dl.len, dm.len]; exact hz), fun p hp => ?_⟩
  have f := s.free hp
  exact q F _ _ (.mut p) _ Grow.refl (s.cell (o := .lst (xs ++ ys)) (m := .lst (l ++ m)) f.1 ⟨_, upd_same, dl.append dm⟩) rfl (h p f.2)
theorem ecatM {X : Cx} {W : WX} {E : EX} {a b : Expr} {ta tb : TE} {wa wb : WEx} {pos : Pos} (ha : DE X W E a ta wa) (hb : DE X W E b tb wb) : DE X W E (.BinOp a .Add b pos) (tOp rCat ta tb) (wOp fCatM wa wb) := eo op_cat do_catM ha hb
end DL
set_option maxHeartbeats 4000000
namespace DL
open PySem L2 PySem.Spec PyProof.Rows HotX L2H
/-! ### a def called where an exception of the class C, with the dict dx, is handled -/
/-- the exception at a, of the class C, is handled in X -/
def HotX (X : Cx) (a C : Addr) (dx : Option Addr) : Prop := ∃ oe, (a, oe) ∈ X.pn ∧ Hot1 X.A (a, oe) ∧ L2N.Zn (.ref C) dx oe
theorem HotX.c {X : Cx} {a C : Addr} {dx : Option Addr} (h : HotX X a C dx) : HotC X := let ⟨oe, m, h1, _⟩ := h; ⟨(a, oe), h1, m⟩
structure FnXC (P : Program) (w : World) (K : PySem.W.Frag) (mg : Str → Option Value) (base : Heap) (CX : CXT) (k : Nat) (f : Addr) (fd : FuncData) (ps : List Str) (sp : Addr → Addr → Option Addr → Sp) : Prop where
  len : ∀ a C dx vs H Q E, sp a C dx vs H Q E → vs.length = ps.length
  run : ∀ (A : Around) (outer : List Env) (s : Shared) (H : Hp) (args : Args) (us : List Value) (vs : List V) (Q : VK) (E : XK) (p : Addr × Obj) (C : Addr) (dx : Option Addr), RoomH k A → Hot1 A p → L2N.Zn (.ref C) dx p.2 → PinOk outer H s p → Env0 P w K mg base A outer s H →
    BindsTo s fd args (ps.zip us) → Vals vs us → sp p.1 C dx vs H Q E → codeAny (model P w) A (.call (.ref f) args) (CR CX outer P w H s Q E) s
section
variable {P : Program} {w : World} {K : PySem.W.Frag} {mg : Str → Option Value} {base : Heap}
theorem fnXC_of {x qual : Str} {st : Stmt} {f : Addr} {fd : FuncData} {N ps : List Str} {k : Nat} {CX : CXT} {sp : Addr → Addr → Option Addr → Sp} (F : Fun K x qual st f fd) (S : FnScope N ps (defScope st)) (len : ∀ a C dx vs H Q E, sp a C dx vs H Q E → vs.length = ps.length)
    (hb : ∀ (cdv : Value) (A : Around) (outer : List Env) (s : Shared) (H : Hp) (vs : List V) (Q : VK) (E : XK) (p : Addr × Obj) (C : Addr) (dx : Option Addr), Hot1 A p → L2N.Zn (.ref C) dx p.2 → RoomH k (A.deeper (envOfC qual (defScope st) s.heap.objs.size f cdv)) → sp p.1 C dx vs H Q E →
      ∃ t, PSs (cxH CX P w K mg base N qual (defScope st) f cdv A outer s H E p) (defBody st) t ∧ t { nx := fun _ H' => Q .non H', rt := Q } (L2.start N vs) H) : FnXC P w K mg base CX (k + 1) f fd ps sp := by
  obtain ⟨oc, od, kV, dc, pm, an, cv, ct, sl, rfl, lk, hcd⟩ := F.ex
  refine ⟨len, fun A outer s H args us vs Q E p C dx hr hot hz hpin e0 hbd r hsp => ?_⟩
  have hlen := len _ _ _ _ _ _ _ hsp
  have inK : K.In s.heap := e0.mod.kin.keeps fun b o e => (e0.bs b o e).1
  refine codeAny_call_function hr.depth (inK _ _ lk) rfl S.co S.gen rfl (PySem.W.codeRec_of inK hcd) (hbd _ _ _ _ ?_)
  refine wpAny_newFunctionEnv_cells S.kind (fun ⟨n, v⟩ hy => ?_) fun env he s1 x => ?_
  · rcases S.par n (List.of_mem_zip hy).1 with q | q
    · exact .inl q
    · exact .inr ⟨q, PySem.W.cellsFrom_some _ _ _ (.inl q)⟩
  subst he
  refine ⟨(e0.mod.nolimit.keeps fun b o e => (e0.bs b o e).1).keeps x.toInCall.keep, codeAny_func ?_⟩
  obtain ⟨t, ht, hq⟩ := hb cv A outer s H vs Q E p C dx hot hz (hr.deeper _) hsp
  have I := inv_startH (CX := CX) (E := E) S hpin e0 hlen r x
  refine wpAny_mono (ht.run [] s1 (L2.start N vs) H _ I hq) (fun fl s' hs => ?_) fun e s' hs => hs
  match fl, hs with
  | .ret u, ⟨v, σ', H', J, rv, q⟩ => exact ⟨v, H', J.os, J.bare, J.base, J.hok, rv, q⟩
  | .next, ⟨σ', H', J, q⟩ => exact ⟨V.non, H', J.os, J.bare, J.base, J.hok, rfl, q⟩
  | .brk, ⟨_, _, _, q⟩ => exact q.elim
  | .cont, ⟨_, _, _, q⟩ => exact q.elim
theorem FnXC.call {X : Cx} {k : Nat} {f : Addr} {fd : FuncData} {ps : List Str} {sp : Addr → Addr → Option Addr → Sp} {CX : CXT} {E : L2.St → XK} {a C : Addr} {dx : Option Addr} {x : Str} {q pos : Pos} {e : Expr} {es : List Expr} {t : TA} (F : FnXC X.prog X.w X.K X.mg X.base CX k f fd ps sp) (hr : RoomH k X.A) (hc : HotX X a C dx) (hg : Gl X x) (hm : X.mg x = some (.ref f))
    (hk : PySem.W.keepIn X.K (.ref f) = true) (hb : Binds X.K fd ps []) (hx : ∀ σ, PassesAt CX X σ (E σ)) (ha : PA X (e :: es) t) (hdb : (x == ("__debug__" : Str)) = false) (he : starEach (e :: es) X.env = (false, eval e X.env) :: starEach es X.env) (hpl : (backTo pos (starEach es X.env)).any (·.1) = false) :
    PE X (.Call (.Name x q) (e :: es) [] pos) (tCallS (sp a C dx) E t) := by
  refine ⟨fun pins s σ H Q I h => wpAny_Call_Name_kw (ld_glob I hg hm ?_ hdb)⟩
  refine PySem.W.callWith_K (h₀ := X.base) I.ok.mod.kin hk (thn (ha.run pos pins s σ H _ I h) fun us s1 ⟨vs, H1, I1, r, z⟩ => ⟨I1.kIn, ?_⟩) he hpl
  obtain ⟨oe, hm, h1, hz⟩ := hc
  have bb := hb s1 us I1.kIn (by rw [List.append_nil, ← r.length]; exact F.len _ _ _ _ _ _ _ z)
  rw [List.append_nil] at bb
  have pp := I1.pin (a, oe) (List.mem_append_left _ hm)
  refine wpAny_call (codeAny_mono (F.run X.A X.stack s1 H1 ⟨us, []⟩ us vs Q (E σ) (a, oe) C dx hr h1 hz ⟨pp.1, pp.2.1, fun w => (List.mem_cons.mp (I1.stkSub a w)).elim pp.2.2.1 pp.2.2.2.1, pp.2.2.2.2⟩ I1.env0 bb r z) fun res s' hq => ?_)
  match res, hq with
  | .error er, hq => exact hx σ pins H1 s1 er s' I1 hq
  | .ok (.ret u), hq => exact I1.after hq
end
abbrev CtX := Addr → Addr → Option Addr → Ct
structure DfX (P : Program) (w : World) (K : PySem.W.Frag) (mg : Str → Option Value) (base : Heap) (x : Str) (k : Nat) (ps : List Str) (c : CtX) : Prop where
  ex : ∃ f fd, FnXC P w K mg base (L2N.CX P w) k f fd ps (fun a C dx => spD K (c a C dx)) ∧ mg x = some (.ref f) ∧ PySem.W.keepIn K (.ref f) = true ∧ Binds K fd ps []
section
variable {P : Program} {w : World} {K : PySem.W.Frag} {mg : Str → Option Value} {base : Heap}
theorem okX {x qual : Str} {st : Stmt} {f : Addr} {fd : FuncData} {N ps : List Str} {k : Nat} {c : CtX} (F : Fun K x qual st f fd) (S : FnScope N ps (defScope st)) (hn : ps.length ≤ N.length) (hl : ∀ a C dx ds μ Q E, c a C dx ds μ Q E → ds.length = ps.length) (PC : Addr → Prop) (hPC : ∀ a C dx ds μ Q E, c a C dx ds μ Q E → PC C)
    (hb : ∀ (X : Cx) (W : WX) (E : EX) (cdv : Value) (A : Around) (outer : List Env) (s : Shared) (H : Hp) (Ex : XK) (p : Addr × Obj) (C : Addr) (dx : Option Addr), X = cxH (L2N.CX P w) P w K mg base N qual (defScope st) f cdv A outer s H Ex p → PC C → HotX X p.1 C dx → L2N.Takes X W → PassesOwn (model X.prog X.w) X.A X.env X.xe → RoomH k X.A →
      ∃ t ws, DSs X W E (defBody st) t ws ∧ ∀ ds μ Q E0, c p.1 C dx ds μ Q E0 → E = (fun C fs _ μ => dwx E0 C fs μ) → ws (rets Q) (st0 N.length ds) μ) : FnXC P w K mg base (L2N.CX P w) (k + 1) f fd ps (fun a C dx => spD K (c a C dx)) := by
  refine fnXC_of F S (fun a C dx vs H Q E h => ?_) (fun cdv A outer s H vs Q Ex p C dx hot hz hr h => ?_)
  · obtain ⟨F, μ, ds, Q0, E0, _, dv, hc, _⟩ := h
    rw [dv.len]; exact hl _ _ _ _ _ _ _ hc
  · obtain ⟨F0, μ, ds, Q0, E0, sk, dv, hc, hq, he⟩ := h
    obtain ⟨t, ws, hd, hw⟩ := hb _ (fun cls d _ H => Ex cls d H) (fun C fs _ μ => dwx E0 C fs μ) cdv A outer s H Ex p C dx rfl (hPC _ _ _ _ _ _ _ hc) ⟨p.2, List.mem_cons_self, hot, hz⟩ (L2N.takes_of rfl rfl rfl rfl) (passes_of rfl) hr
    refine ⟨t, hd.pe, hd.dn F0 μ H _ _ (rets Q0) _ ⟨sk, env_start dv (by rw [hl _ _ _ _ _ _ _ hc]; exact hn), fun F' μ' H' ρ σ C d fs g s' _ ex h' => he F' μ' H' C d fs g s' ex h'⟩ (hw ds μ Q0 E0 hc rfl) ⟨fun F' μ' H' ρ' σ' g s' h' => hq F' μ' H' .non .non g s'.ok rfl h', fun F' μ' H' d v g s' dv' h' => hq F' μ' H' d v g s' dv' h', fun F' μ' H' ρ' σ' g s' h' => h'.elim, fun F' μ' H' ρ' σ' g s' h' => h'.elim⟩⟩
end
section
variable {X : Cx} {W : WX} {E : EX} {k : Nat} {ps : List Str} {c : CtX} {x : Str} {p pos : Pos} {e : Expr} {es : List Expr} {tas : TA} {was : WA} {a C : Addr} {dx : Option Addr}
theorem ecallX (tk : L2N.Takes X W) (h : DfX X.prog X.w X.K X.mg X.base x k ps c) (hc : HotX X a C dx) (hr : RoomH k X.A) (ha : DA X W E (e :: es) tas was)
    (hg : Gl X x := by rfl) (hdb : (x == ("__debug__" : Str)) = false := by decide) (he : starEach (e :: es) X.env = (false, eval e X.env) :: starEach es X.env := by rfl) (hpl : (backTo pos (starEach es X.env)).any (·.1) = false := by rfl) :
    DE X W E (.Call (.Name x p) (e :: es) [] pos) (tCallS (spD X.K (c a C dx)) (WE W) tas) (wCall (c a C dx) E was) := by
  obtain ⟨f, fd, G, hm, hk, hb⟩ := h.ex
  exact ⟨G.call hr hc hg hm hk hb (fun σ => L2N.passAt tk σ) ha.pe hdb he hpl, dn_call ha.dn⟩
end
/-! ### isinstance of it; its fields -/
/-- the dict stands -/
def XDict (H : Hp) (dx : Option Addr) : Prop := match dx with
  | none => True
  | some dd => ∃ ys, H dd = some (.xd ys)
theorem inst_at {X : Cx} {pins : List (Addr × Obj)} {σ : L2.St} {H : Hp} {s : Shared} {a C : Addr} {dx : Option Addr} {oe : Obj} (I : Inv X pins σ H s) (hm : (a, oe) ∈ X.pn) (h1 : Hot1 X.A (a, oe)) (hz : L2N.Zn (.ref C) dx oe) (hd : XDict H dx) : ∃ od, PySem.W.InstAt s.heap a oe C od := by
  obtain ⟨_, vs, hv, _⟩ := h1
  have gt := (I.pin (a, oe) (List.mem_append_left _ hm)).1
  obtain ⟨oc, od, oda, osl⟩ := oe
  obtain ⟨e1, e2, _⟩ := hz
  dsimp only at e1 e2 hv
  subst e1 e2 hv
  cases od with
  | none => exact ⟨none, gt, rfl, rfl, trivial⟩
  | some dd =>
    obtain ⟨ys, hy⟩ := hd
    have hx : ObjOk X.prog X.w H s.heap dd (.xd ys) := I.hok dd _ hy
    obtain ⟨mA, ⟨o, es, ep, ho, _⟩, _⟩ := hx
    exact ⟨some o, gt, rfl, rfl, ho⟩
def rIsX (K : PySem.W.Frag) (C a : Addr) (dx : Option Addr) : List V → Hp → VK → Prop := fun xs H Q => ∃ (c : V) (cv : Value) (b : Bool), xs = [.ref a, c] ∧ (∀ u, RelV c u → u = cv) ∧ PySem.W.kitOne K (.ref C) cv = some b ∧ XDict H dx ∧ Q (.bl b) H
section
variable {X : Cx} {W : WX} {E : EX} {a C : Addr} {dx : Option Addr}
theorem call_isX (hc : HotX X a C dx) (ex : ExcC X.K C) : CallR X (.builtin "isinstance") (rIsX X.K C a dx) := by
  intro pins s σ H xs us Q I r h
  obtain ⟨cl, cv, b, rfl, hcv, e, hd, q⟩ := h
  obtain ⟨u1, u2, rfl, r1, r2⟩ := vals2 r
  cases r1
  have ec := hcv _ r2
  subst ec
  obtain ⟨oe, hm, h1, hz⟩ := hc
  obtain ⟨od, J⟩ := inst_at I hm h1 hz hd
  have hcl : (PySem.W.clsIn X.K C).isSome = true := by
    have := ex.hd
    unfold PySem.W.hasDictIn at this
    cases z : PySem.W.clsIn X.K C with
    | none => rw [z] at this; exact absurd this (by simp)
    | some c => rfl
  exact PySem.W.kia_one (PySem.W.kitx_exc (od := od) hcl ex.hg ex.hk ex.hs ex.ha ex.hn ex.ht ex.hm) I.kIn J e (fun z => nomatch z) fun tk => ⟨.bl b, H, I.kept (t' := tk) fun _ _ z => z, rfl, q⟩
def wIsX (b : Bool) (a : Addr) (dx : Option Addr) (w : WEx) : WEx := fun ρ μ Q => w ρ μ fun d μ1 => (∃ ks l, d = .exc a dx ks l) ∧ Q (.bl b) μ1
theorem xdict_of {K : PySem.W.Frag} {F H : Hp} {μ : Mu} {ks : List Str} {l : List D} {v : V} (s : Sok K F μ H) (dv : DV K F (.exc a dx ks l) v) : v = .ref a ∧ XDict H dx := by
  obtain ⟨e, h⟩ := dv
  refine ⟨e, ?_⟩
  rcases h with ⟨rfl, _⟩ | ⟨dd, ys, rfl, h, _⟩
  · trivial
  · exact ⟨ys, s.sub _ _ h⟩
variable {o : Expr} {te : TE} {we : WEx} {p p2 pos : Pos} {Y : Addr} {y : Str} {b : Bool}
theorem dn_isX {K : PySem.W.Frag} {cl : V} {cv : Value} (hv : ∀ u, RelV cl u → u = cv) (hk : PySem.W.kitOne K (.ref C) cv = some b) (he : Dn K W E te we) : Dn K W E (tCB (rIsX K C a dx) (tCons te (tCons (tC cl) tNil))) (wIsX b a dx we) := by
  intro F μ H ρ σ Q0 Q s h q
  refine he F μ H ρ σ _ _ s h fun F1 μ1 H1 d v g1 s1 dv h1 => ?_
  obtain ⟨⟨ks, l, rfl⟩, h1⟩ := h1
  obtain ⟨rfl, hd⟩ := xdict_of s1.ok dv
  exact ⟨cl, cv, b, rfl, hv, hk, hd, q F1 μ1 H1 (.bl b) _ g1 s1 rfl h1⟩
theorem eisX (hc : HotX X a C dx) (ex : ExcC X.K C) (hmi : X.mg "isinstance" = none) (h : ∃ Y, X.mg y = some (.ref Y) ∧ PySem.W.kitOne X.K (.ref C) (.ref Y) = some b) (he : DE X W E o te we) (hg : Gl X "isinstance" := by rfl) (hgy : Gl X y := by rfl) (hdb : (y == ("__debug__" : Str)) = false := by decide)
    (hp : X.mg "isinstance" = none → CallR X (.builtin "isinstance") (rIsX X.K C a dx) → PE X o te → PE X (.Name y p2) (tC (.ref h.choose)) → PE X (.Call (.Name "isinstance" p) [o, .Name y p2] [] pos) (tCB (rIsX X.K C a dx) (tCons te (tCons (tC (.ref h.choose)) tNil))) := by exact fun m z x y => pe_callB z (by rfl) m (by decide +kernel) (pa_cons x (pa_cons y pa_nil))) :
    DE X W E (.Call (.Name "isinstance" p) [o, .Name y p2] [] pos) (tCB (rIsX X.K C a dx) (tCons te (tCons (tC (.ref h.choose)) tNil))) (wIsX b a dx we) :=
  ⟨hp hmi (call_isX hc ex) he.pe (pe_glob hgy h.choose_spec.1 rfl hdb), dn_isX (fun u r => r) h.choose_spec.2 he.dn⟩
theorem eisXB (hc : HotX X a C dx) (ex : ExcC X.K C) (T : String) (hmi : X.mg "isinstance" = none) (hy : X.mg y = none) (hvT : bootBuiltins y = some (.type T)) (hk : PySem.W.kitOne X.K (.ref C) (.type T) = some b) (he : DE X W E o te we) (hg : Gl X "isinstance" := by rfl) (hgy : Gl X y := by rfl)
    (hn : y ≠ "__name__" := by decide) (hdb : (y == ("__debug__" : Str)) = false := by decide)
    (hp : X.mg "isinstance" = none → CallR X (.builtin "isinstance") (rIsX X.K C a dx) → PE X o te → PE X (.Name y p2) (tC (.ty T)) → PE X (.Call (.Name "isinstance" p) [o, .Name y p2] [] pos) (tCB (rIsX X.K C a dx) (tCons te (tCons (tC (.ty T)) tNil))) := by exact fun m z x y => pe_callB z (by rfl) m (by decide +kernel) (pa_cons x (pa_cons y pa_nil))) :
    DE X W E (.Call (.Name "isinstance" p) [o, .Name y p2] [] pos) (tCB (rIsX X.K C a dx) (tCons te (tCons (tC (.ty T)) tNil))) (wIsX b a dx we) :=
  ⟨hp hmi (call_isX hc ex) he.pe (pe_bltn hgy hy hvT rfl hn hdb), dn_isX (fun u r => r) hk he.dn⟩
/-- e.f -/
def tXf (a : Addr) (dx : Option Addr) (f : Str) (te : TE) : TE := fun σ H Q => te σ H fun x H1 => x = .ref a ∧ ∃ (dd : Addr) (fs : List (Str × V)) (v : V), dx = some dd ∧ H1 dd = some (.xd fs) ∧ fs.lookup f = some v ∧ Q v H1
theorem pe_fX (hc : HotX X a C dx) (T : XfC X.K C) {n : Str} (hno : PySem.W.findIn X.K (.ref C) n = some none) (he : PE X o te) (hb : attributeBase o n X.env (eval o X.env) = eval o X.env := by rfl) : PE X (.Attribute o n pos) (tXf a dx n te) := by
  refine ⟨fun pins s σ H Q I h => ?_⟩
  refine attr_of hb (thn (he.run pins s σ H _ I h) fun u s1 ⟨x, H1, I1, rx, ex, dd, fs, v, ed, ea, l, q⟩ => ?_)
  subst ex
  obtain rfl : u = Value.ref a := rx
  subst ed
  obtain ⟨oe, hm, h1, hz⟩ := hc
  obtain ⟨od, J⟩ := inst_at I1 hm h1 hz ⟨fs, ea⟩
  have hx : ObjOk X.prog X.w H1 s1.heap dd (.xd fs) := I1.hok dd _ ea
  obtain ⟨mA, hns, hr⟩ := hx
  obtain ⟨o2, ho, hl⟩ := lookIn_ns hns
  obtain ⟨u, hu, ru⟩ := RelO.some_of (v := v) (o := mA n) (by rw [← l]; exact hr n)
  obtain ⟨j1, j2, j3, _⟩ := J
  have J2 : PySem.W.InstAt s1.heap a oe C (some o2) := ⟨j1, j2, j3, by rw [hz.2.1]; exact ho⟩
  exact HandSPX.exc_get I1.kIn J2 T.ga T.gg T.exC (PySem.W.findObj_own T.hdC hno rfl (by rw [hl, hu])) (handed_of ru) ⟨v, H1, I1.tok _, ru, q⟩
def wXf (a : Addr) (dx : Option Addr) (f : Str) (w : WEx) : WEx := fun ρ μ Q => w ρ μ fun d μ1 => ∃ ks l x, d = .exc a dx ks l ∧ (ks.zip l).lookup f = some x ∧ Q x μ1
theorem lookup_dv {K : PySem.W.Frag} {F : Hp} {f : Str} {x : D} : ∀ {ys : List (Str × V)} {l : List D}, DVs K F l (ys.map (·.2)) → ((ys.map (·.1)).zip l).lookup f = some x → ∃ v, ys.lookup f = some v ∧ DV K F x v
  | [], l, _, e => by
    rw [List.map_nil, List.zip_nil_left] at e
    cases e
  | (k, u) :: ys, l, h, e => by
    cases l with
    | nil =>
      rw [List.zip_nil_right] at e
      cases e
    | cons d l =>
      obtain ⟨v, vs, ev, dv, r⟩ := h
      have e1 : u = v ∧ ys.map (·.2) = vs := by
        rw [List.map_cons] at ev
        exact ⟨(List.cons.inj ev).1, (List.cons.inj ev).2⟩
      obtain ⟨rfl, rfl⟩ := e1
      rw [List.map_cons, List.zip_cons_cons, List.lookup_cons] at e
      rw [List.lookup_cons]
      cases c : f == k with
      | true =>
        rw [c] at e
        cases e
        exact ⟨u, rfl, dv⟩
      | false =>
        rw [c] at e
        exact lookup_dv r e
theorem efX (hc : HotX X a C dx) (T : XfC X.K C) {n : Str} (hno : PySem.W.findIn X.K (.ref C) n = some none) (he : DE X W E o te we) (hb : attributeBase o n X.env (eval o X.env) = eval o X.env := by rfl) : DE X W E (.Attribute o n pos) (tXf a dx n te) (wXf a dx n we) := by
  refine ⟨pe_fX hc T hno he.pe hb, fun F μ H ρ σ Q0 Q s h q => ?_⟩
  refine he.dn F μ H ρ σ _ _ s h fun F1 μ1 H1 d v g1 s1 dv h1 => ?_
  obtain ⟨ks, l, x, rfl, el, h1⟩ := h1
  obtain ⟨rfl, h2⟩ := dv
  rcases h2 with ⟨_, rfl⟩ | ⟨dd, ys, rfl, hf, ek, dl⟩
  · rw [List.zip_nil_right] at el
    cases el
  · subst ek
    obtain ⟨v, hv, dv⟩ := lookup_dv dl el
    exact ⟨rfl, dd, ys, v, rfl, s1.ok.sub _ _ hf, hv, q F1 μ1 H1 x v g1 s1 dv h1⟩
end
/-! ### try: body, except x as n: suite -/
/-- P: the classes that are caught -/
def wTryX (P : Addr → Prop) (i : Nat) (wb : EX → WS) (ws : Addr → Addr → Option Addr → WS) : WS := fun D ρ μ => wb (fun C fs ρ1 μ1 => P C ∧ ∀ a dx, ws a C dx (clrD i D) (ρ1.set i (some (.exc a dx (fs.map (·.1)) (fs.map (·.2))))) μ1) D ρ μ
section
variable {X : Cx} {W : WX} {E : EX} {P : Addr → Prop} {i : Nat} {x n : Str} {c : Value} {np pos pos' : Pos} {body suite : List Stmt} {b₀ : Stmt} {wb : EX → WS} {ws : Addr → Addr → Option Addr → WS}
def tSuiteX (K : PySem.W.Frag) (P : Addr → Prop) (ws : Addr → Addr → Option Addr → WS) : Addr → Value → Option Addr → TS := fun a cls d Ds σ H => ∃ C, cls = .ref C ∧ P C ∧ ∃ F μ ρ D0, S0 K noW noE F μ H ρ σ ∧ ws a C d D0 ρ μ ∧ EndsOk K noW noE F D0 Ds
theorem stryX (tk : L2N.Takes X W) (hP : ∀ C, P C → PySem.W.exmOne X.K (.ref C) c = some true) (hc : Names X x c) (hN : X.N.Nodup)
    (hb : ∀ (W : WX) (E : EX) (pn : List (Addr × Obj)) (xe : Value → Shared → Prop), L2N.Takes (X.tr pn xe) W → ∃ t, DSs (X.tr pn xe) W E body t (wb E))
    (hsu : ∀ (a C : Addr) (dx : Option Addr) (pn : List (Addr × Obj)), P C → HotX (X.suite a pn) a C dx → L2N.Takes (X.suite a pn) noW → ∃ t, DSs (X.suite a pn) noW noE (b₀ :: suite) t (ws a C dx))
    (hs : X.stack = X.env :: X.outer := by rfl) (hf : X.env.frame = some X.env.locals := by rfl) (hi : X.N[i]? = some n := by rfl) (hln : X.env.kindOf n = some .local := by rfl) :
    DS X W E (.Try body [.ExceptHandler (some (.Name x np)) (some n) (b₀ :: suite) pos'] [] [] pos) (fun D σ H => tOfS X.K wb (wAs X.K c i (tSuiteX X.K P ws) W D) D σ H) (wTryX P i wb ws) := by
  have hot : ∀ a C dx oe pn, L2N.Zn (.ref C) dx oe → (∃ vs, oe.data = .fields vs) → HotX (X.suite a ((a, oe) :: pn)) a C dx := fun a C dx oe pn hz ⟨vs, hv⟩ => ⟨oe, List.mem_cons_self, ⟨rfl, vs, hv, hz.2.2 vs hv⟩, hz⟩
  refine ⟨L2N.ps_try_as hs hf hN hi hln hc tk (fun W' pn xe tk' _ => pss_of fun E => hb W' E pn xe tk') (fun a oe cls d pn hz hv => ?_), ?_⟩
  · refine ⟨fun pins s σ H Ds I ⟨C, ec, hPC, F, μ, ρ, D0, s0, hw, e⟩ => ?_⟩
    subst ec
    obtain ⟨t, su⟩ := hsu a C d _ hPC (hot a C d oe pn hz hv) takes_no
    exact su.pe.run pins s σ H Ds I (su.dn F μ H ρ σ D0 Ds s0 hw e)
  · intro F μ H ρ σ D0 Ds s h e
    refine ⟨fun C fs ρ1 μ1 => P C ∧ ∀ a dx, ws a C dx (clrD i D0) (ρ1.set i (some (.exc a dx (fs.map (·.1)) (fs.map (·.2))))) μ1, F, μ, ρ, D0, ⟨s.ok, s.env, fun F1 μ1 H1 ρ1 σ1 C d fs g1 s1 env1 ex1 ⟨hPC, hw⟩ => ?_⟩, h, fun F1 μ1 H1 ρ1 σ1 g1 s1 h1 => e.nx F1 μ1 H1 ρ1 σ1 g1 ⟨s1.ok, s1.env, s.wok.mono g1⟩ h1, e.rt, fun F1 μ1 H1 ρ1 σ1 g1 s1 h1 => e.bk F1 μ1 H1 ρ1 σ1 g1 ⟨s1.ok, s1.env, s.wok.mono g1⟩ h1, fun F1 μ1 H1 ρ1 σ1 g1 s1 h1 => e.ct F1 μ1 H1 ρ1 σ1 g1 ⟨s1.ok, s1.env, s.wok.mono g1⟩ h1⟩
    refine ⟨true, hP C hPC, fun _ a ha => ?_, fun z => nomatch z⟩
    have back : ∀ {N0 : En → Mu → Prop} {N : L2.St → Hp → Prop}, PN X.K W E F N0 N → PN X.K noW noE F1 (fun ρ μ => N0 (ρ.set i none) μ) (fun σ H => N (σ.set i none) H) := fun {N0 N} hn F2 μ2 H2 ρ2 σ2 g2 s2 h2 => hn F2 μ2 H2 _ _ (g1.trans g2) ⟨s2.ok, s2.env.clr, s.wok.mono (g1.trans g2)⟩ h2
    have dv : DV X.K F1 (.exc a d (fs.map (·.1)) (fs.map (·.2))) (.ref a) := by
      refine ⟨rfl, ?_⟩
      rcases ex1 with ⟨rfl, rfl⟩ | ⟨_, dd, ys, rfl, hf, ek, dl⟩
      · exact .inl ⟨rfl, rfl⟩
      · exact .inr ⟨dd, ys, rfl, hf, ek, dl⟩
    exact ⟨C, rfl, hPC, F1, μ1, _, clrD i D0, ⟨s1, env1.set dv, fun _ _ _ _ _ _ _ _ _ _ _ _ z => z.elim⟩, hw a d, back e.nx, fun F2 μ2 H2 d v g2 s2 dv h2 => e.rt F2 μ2 H2 d v (g1.trans g2) s2 dv h2, back e.bk, back e.ct⟩
end
end DL
set_option maxHeartbeats 4000000
namespace DL
open PySem L2 PySem.Spec PyProof.Rows HotX L2H
/-! ### exceptions made by an own __init__ of one assignment -/
/-- self.f = list(x) -/
def spIL (K : PySem.W.Frag) (C : Addr) (f : Str) : Sp := fun vs H Q _ => ∃ a p ys, vs = [.ref a, .ref p] ∧ H a = some (exo a C none) ∧ (SqL K H p ys ∨ SqT K H p ys) ∧
  ∀ l, H l = none → ∀ dx, upd H l (.lst ys) dx = none → dx ≠ a → Q .non (upd (upd (upd H l (.lst ys)) dx (exd dx [(f, .ref l)])) a (exo a C (some dx)))
/-- self.f = x -/
def spIV (K : PySem.W.Frag) (C : Addr) (f : Str) : Sp := fun vs H Q _ => ∃ a y, vs = [.ref a, y] ∧ H a = some (exo a C none) ∧ ∀ dx, H dx = none → dx ≠ a → Q .non (upd (upd H dx (exd dx [(f, y)])) a (exo a C (some dx)))
section
variable {P : Program} {w : World} {K : PySem.W.Frag} {mg : Str → Option Value} {base : Heap}
theorem okI {x qual : Str} {st : Stmt} {f : Addr} {fd : FuncData} {N ps : List Str} {sp : Sp} (F : Fun K x qual st f fd) (S : FnScope N ps (defScope st)) (len : ∀ vs H Q E, sp vs H Q E → vs.length = ps.length)
    (hb : ∀ (X : Cx) (cdv : Value) (A : Around) (outer : List Env) (s : Shared) (H : Hp) (Ex : XK), X = cxOf (L2N.CX P w) P w K mg base N qual (defScope st) f cdv A outer s H Ex →
      ∃ t, PSs X (defBody st) t ∧ ∀ (vs : List V) (H : Hp) (Q : VK) (E : XK), sp vs H Q E → t { nx := fun _ H' => Q .non H', rt := Q } (L2.start N vs) H) : FnOk P w K mg base (L2N.CX P w) 1 f fd ps sp := by
  obtain ⟨oc, od, dc, pm, an, kV, cdv, ct, sl, rfl, lk, hcd⟩ := F.ex
  refine fn_of lk hcd S len (fun A outer s H vs Q Ex hr h => ?_)
  obtain ⟨t, ht, hq⟩ := hb _ _ A outer s H Ex rfl
  exact ⟨t, ht, hq vs H Q Ex h⟩
end
section
variable {X : Cx} {o : Expr} {te : TE} {f p : Str} {p1 p2 p3 p4 p5 p6 pos : Pos} {K : PySem.W.Frag} {C : Addr} {N : List Str}
theorem tIL (T : OexC K C) (hno : PySem.W.findIn K (.ref C) f = some none) (a b : Str) : ∀ (vs : List V) (H : Hp) (Q : VK) (E : XK), spIL K C f vs H Q E →
    tOst K f (tVar 0) (tCB (fun xs H Q => ∃ p ys, xs = [.ref p] ∧ (SqL K H p ys ∨ SqT K H p ys) ∧ ∀ l, H l = none → Q (.ref l) (upd H l (.lst ys))) (tCons (tVar 1) tNil)) { nx := fun _ H' => Q .non H', rt := Q } (L2.start [a, b] vs) H := by
  rintro vs H Q E ⟨c, p, ys, rfl, hc, hs, q⟩
  refine ⟨_, rfl, p, ys, rfl, hs, fun l hl => ⟨_, rfl, c, C, rfl, T, hno, .inl ⟨by rw [upd_ne (ne_of_none hc hl)]; exact hc, fun dx hd hn => q l hl dx hd hn⟩⟩⟩
theorem tIV (T : OexC K C) (hno : PySem.W.findIn K (.ref C) f = some none) (a b : Str) : ∀ (vs : List V) (H : Hp) (Q : VK) (E : XK), spIV K C f vs H Q E →
    tOst K f (tVar 0) (tVar 1) { nx := fun _ H' => Q .non H', rt := Q } (L2.start [a, b] vs) H := by
  rintro vs H Q E ⟨c, y, rfl, hc, q⟩
  exact ⟨_, rfl, _, rfl, c, C, rfl, T, hno, .inl ⟨hc, fun dx hd hn => q dx hd hn⟩⟩
end
end DL
set_option maxHeartbeats 4000000
namespace DL
open PySem L2 PySem.Spec PyProof.Rows HotX L2H
/-! ### raise C(x), C's own __init__ a def that is known -/
/-- the class C, called x in the text, its __init__ keeping sp -/
structure DfI (P : Program) (w : World) (K : PySem.W.Frag) (mg : Str → Option Value) (base : Heap) (x : Str) (C : Addr) (sp : Sp) : Prop where
  ex : ∃ fI fd ps, FnOk P w K mg base (L2N.CX P w) 1 fI fd ps sp ∧ OexC K C ∧ PySem.W.findIn K (.ref C) "__init__" = some (some (.ref fI)) ∧ PySem.W.typeIn K (.ref fI) = some (.type "function") ∧ Binds K fd ps [] ∧ mg x = some (.ref C)
section
variable {X : Cx} {W : WX} {E : EX} {x f : Str} {C : Addr} {sp : Sp} {e : Expr} {es : List Expr} {ta : TA} {wa : WA} {p pos pos' : Pos}
/-- the kit's rule for such a call, with what is needed to catch it (calm) -/
theorem pmk_init (tk : L2N.Takes X W) (D : DfI X.prog X.w X.K X.mg X.base x C sp) (hr : Room 2 X.A) (hg : Gl X x) (ha : PA X (e :: es) ta)
    (hdb : (x == ("__debug__" : Str)) = false) (he : starEach (e :: es) X.env = (false, eval e X.env) :: starEach es X.env) (hpl : (backTo pos (starEach es X.env)).any (·.1) = false) :
    L2N.PMk X (.Call (.Name x p) (e :: es) [] pos) (tMkO C sp [] ta) := by
  obtain ⟨fI, fd, ps, G, T, iC, tI, hb, hm⟩ := D.ex
  intro pins s σ H Q I h
  obtain ⟨nm, q, N, bs, bm, sn, sub, ab, col, dd, k0, k1, k2, k3, k5, hC, hbm⟩ := T.cls
  refine wpAny_Call_Name_kw (ld_glob I hg hm ?_ hdb)
  refine PySem.W.callWith_K (h₀ := X.base) I.ok.mod.kin T.kC (thn (ha.run pos pins s σ H _ I h) fun us s1 ⟨vs, H1, I1, r1, hz, q1⟩ => ⟨I1.kIn, ?_⟩) he hpl
  obtain ⟨hp, g, dr, t, os⟩ := s1
  have le0 : hp.objs.size ≤ hp.objs.size + 1 := Nat.le_succ _
  have q2 := q1 (hp.objs.size + 1) (I1.hok.fresh le0)
  rw [List.append_nil] at q2
  have up : ∀ b o, hp.get? b = some o → ((hp.push (PySem.W.kdv_tup us)).push (PySem.HandSPX.excO C hp.objs.size)).get? b = some o := fun b o z => Heap.get?_push_of_some _ (Heap.get?_push_of_some _ z)
  have at0 : ((hp.push (PySem.W.kdv_tup us)).push (PySem.HandSPX.excO C hp.objs.size)).get? (hp.objs.size + 1) = some (PySem.HandSPX.excO C hp.objs.size) := by heap_get
  have J : Inv X pins σ (upd H1 (hp.objs.size + 1) (exo (hp.objs.size + 1) C none)) ⟨(hp.push (PySem.W.kdv_tup us)).push (PySem.HandSPX.excO C hp.objs.size), g, dr, t, os⟩ := I1.laid (t' := t) up le0 (exo_ok at0)
  have rs : Vals (V.ref (hp.objs.size + 1) :: vs) (Value.ref (hp.objs.size + 1) :: us) := .cons rfl r1
  have bb := hb _ (Value.ref (hp.objs.size + 1) :: us) J.kIn (by rw [List.append_nil, ← rs.length]; exact G.len _ _ _ _ q2)
  rw [List.append_nil] at bb
  have lim : us.length ≤ sizeLine := by
    have := r1.length
    rw [sizeLine_eq]
    omega
  refine wpAny_call (PySem.HandSPX.call_own F.excBase_ValueError (fun Y => PySem.HandSPX.refsVE_contains Y bm hbm) (I1.kIn _ _ hC) (PySem.W.looks_findIn I1.kIn iC) (fun self => PySem.W.bind_fn I1.kIn self tI) lim
    (codeAny_mono (G.run _ X.stack _ _ ⟨.ref (hp.objs.size + 1) :: us, []⟩ (.ref (hp.objs.size + 1) :: us) _ _ (fun _ _ _ => False) (hr.make C us []) (J.env0.make C us []) bb rs q2) fun r s' z => ?_))
  match r, z with
  | .error er, z => exact L2N.passes_call tk (fun _ _ _ _ (y : False) => y.elim) pins σ _ _ er s' J z
  | .ok (.ret u), z =>
    obtain ⟨v, H2, os2, bare2, un2, hok2, rv, ev, d, fs, ea, ed, hd1, q3⟩ := z
    subst ev
    obtain ⟨h2, g2, d2, t2, os'⟩ := s'
    obtain ⟨t0, G0, I3, kG, ge, hoe, na⟩ := mk_end0 (d2 := d2) (t2 := t2) I1 le0 up un2 hok2 os2 bare2 ea ed hd1
    exact ⟨rv, _, _, _, ⟨G0, g2, d2, t2, os'⟩, _, .ref C, some d, rfl, I3, kG, ge, hoe, ⟨rfl, rfl, fun vs hv => by cases hv; rfl⟩, rfl, rfl, na, rfl, bare2, raises_own T.exC T.tyC, q3⟩
/-- raise C(x), C keeping list(x) as f -/
def wRaiseL (C : Addr) (f : Str) (E : EX) (w : WA) : WS := fun _ ρ μ => w ρ μ fun ds μ1 => ∃ d l, ds = [d] ∧ lvr μ1 d = some l ∧ E C [(f, .lst l)] ρ μ1
/-- raise C(x), C keeping x as f -/
def wRaiseV (C : Addr) (f : Str) (E : EX) (w : WA) : WS := fun _ ρ μ => w ρ μ fun ds μ1 => ∃ d, ds = [d] ∧ E C [(f, d)] ρ μ1
theorem sraiseL (tk : L2N.Takes X W) (D : DfI X.prog X.w X.K X.mg X.base x C (spIL X.K C f)) (hr : Room 2 X.A) (ha : DA X W E (e :: es) ta wa) (hg : Gl X x := by rfl) (hc : X.calm = true := by rfl)
    (hdb : (x == ("__debug__" : Str)) = false := by decide) (he : starEach (e :: es) X.env = (false, eval e X.env) :: starEach es X.env := by rfl) (hpl : (backTo pos (starEach es X.env)).any (·.1) = false := by rfl) :
    DS X W E (.Raise (some (.Call (.Name x p) (e :: es) [] pos)) none pos') (fun _ σ H => tMkO C (spIL X.K C f) [] ta σ H fun cls d H' => W cls d σ H') (wRaiseL C f E wa) := by
  refine ⟨L2N.ps_raise hc tk (pmk_init tk D hr hg ha.pe hdb he hpl), fun F μ H ρ σ D0 Ds s h _ => ?_⟩
  refine ha.dn F μ H ρ σ _ _ s h fun F1 μ1 H1 ds vs g1 s1 dvs ⟨d0, l, ed, el, hE⟩ => ?_
  subst ed
  obtain ⟨v, r, rfl, dv, rfl⟩ := dvs
  obtain ⟨q, ys, rfl, sq, dl⟩ := lvr_ok s1.ok dv el
  refine ⟨Nat.le_of_ble_eq_true rfl, fun a ha0 => ⟨a, q, ys, rfl, upd_same, .inl ((Grow.new ha0).sl sq), fun l0 hl dx hdx hne => ?_⟩⟩
  have l0a : l0 ≠ a := fun z => by rw [z, upd_same] at hl; cases hl
  rw [upd_ne l0a] at hl
  have dl0 : dx ≠ l0 := fun z => by rw [z, upd_same] at hdx; cases hdx
  have hdx1 : upd H1 l0 (.lst ys) dx = none := by
    rw [upd_ne dl0] at hdx ⊢
    rwa [upd_ne hne] at hdx
  have eH : upd (del (upd (upd (upd (upd H1 a (exo a C none)) l0 (.lst ys)) dx (exd dx [(f, V.ref l0)])) a (exo a C (some dx))) a) dx (.xd [(f, V.ref l0)]) = upd (upd H1 l0 (.lst ys)) dx (.xd [(f, V.ref l0)]) := by
    funext b
    by_cases c1 : b = dx
    · rw [c1, upd_same, upd_same]
    · rw [upd_ne c1, upd_ne c1]
      by_cases c2 : b = a
      · rw [c2, del_same, upd_ne (Ne.symm l0a), ha0]
      · rw [del_ne c2, upd_ne c2, upd_ne c1]
        by_cases c3 : b = l0
        · rw [c3, upd_same, upd_same]
        · rw [upd_ne c3, upd_ne c3, upd_ne c2]
  refine ⟨rfl, dx, [(f, .ref l0)], upd_same, by rw [upd_ne hne, upd_same], by rw [upd_ne dl0] at hdx1; exact hdx1, ?_⟩
  rw [eH]
  have f1 := s1.ok.free hl
  have S1 := s1.ok.put (o := .lst ys) hl
  have f2 := S1.free hdx1
  have S2 := S1.put (o := .xd [(f, V.ref l0)]) hdx1
  have gg : Grow F1 (upd (upd F1 l0 (.lst ys)) dx (.xd [(f, V.ref l0)])) := (Grow.new f1.1).trans (Grow.new f2.1)
  refine s1.wok _ μ1 _ ρ σ C (some dx) [(f, .lst l)] gg S2 (s1.env.mono gg) (.inr ⟨fun z => (nomatch z), dx, _, rfl, upd_same, rfl, ?_⟩) hE
  exact DVs.cons ⟨l0, ys, rfl, by rw [upd_ne (Ne.symm dl0), upd_same], dl.mono gg⟩ DVs.nil
theorem sraiseV (tk : L2N.Takes X W) (D : DfI X.prog X.w X.K X.mg X.base x C (spIV X.K C f)) (hr : Room 2 X.A) (ha : DA X W E (e :: es) ta wa) (hg : Gl X x := by rfl) (hc : X.calm = true := by rfl)
    (hdb : (x == ("__debug__" : Str)) = false := by decide) (he : starEach (e :: es) X.env = (false, eval e X.env) :: starEach es X.env := by rfl) (hpl : (backTo pos (starEach es X.env)).any (·.1) = false := by rfl) :
    DS X W E (.Raise (some (.Call (.Name x p) (e :: es) [] pos)) none pos') (fun _ σ H => tMkO C (spIV X.K C f) [] ta σ H fun cls d H' => W cls d σ H') (wRaiseV C f E wa) := by
  refine ⟨L2N.ps_raise hc tk (pmk_init tk D hr hg ha.pe hdb he hpl), fun F μ H ρ σ D0 Ds s h _ => ?_⟩
  refine ha.dn F μ H ρ σ _ _ s h fun F1 μ1 H1 ds vs g1 s1 dvs ⟨d0, ed, hE⟩ => ?_
  subst ed
  obtain ⟨v, r, rfl, dv, rfl⟩ := dvs
  refine ⟨Nat.le_of_ble_eq_true rfl, fun a ha0 => ⟨a, v, rfl, upd_same, fun dx hdx hne => ?_⟩⟩
  rw [upd_ne hne] at hdx
  have eH : upd (del (upd (upd (upd H1 a (exo a C none)) dx (exd dx [(f, v)])) a (exo a C (some dx))) a) dx (.xd [(f, v)]) = upd H1 dx (.xd [(f, v)]) := by
    funext b
    by_cases c1 : b = dx
    · rw [c1, upd_same, upd_same]
    · rw [upd_ne c1, upd_ne c1]
      by_cases c2 : b = a
      · rw [c2, del_same, ha0]
      · rw [del_ne c2, upd_ne c2, upd_ne c1, upd_ne c2]
  refine ⟨rfl, dx, [(f, v)], upd_same, by rw [upd_ne hne, upd_same], hdx, ?_⟩
  rw [eH]
  have f1 := s1.ok.free hdx
  have S1 := s1.ok.put (o := .xd [(f, v)]) hdx
  have gg : Grow F1 (upd F1 dx (.xd [(f, v)])) := Grow.new f1.1
  refine s1.wok _ μ1 _ ρ σ C (some dx) [(f, d0)] gg S1 (s1.env.mono gg) (.inr ⟨fun z => (nomatch z), dx, _, rfl, upd_same, rfl, ?_⟩) hE
  exact DVs.cons (dv.mono gg) DVs.nil
end
end DL
set_option maxHeartbeats 4000000
namespace DL
open PySem L2 PySem.Spec PyProof.Rows HotX L2H
/-! ### where an exception is handled: a comprehension over range(n) -/
section
variable {X : Cx}
theorem lc_hotR {pins : List (Addr × Obj)} {s : Shared} {σ : L2.St} {H : Hp} {Q : VK} {elt tg a : Expr} {ifs : List Expr} {sc : Scope} {own : List (Str × Nat)} {pos ps p pr : Pos} {ta : TA} {g : TG} {tt : TT} {te : TE}
    (hot : HotC X) (nd : X.N.Nodup) (I : Inv X pins σ H s) (hgr : Gl X "range") (hmr : X.mg "range" = none) (ha : PA X [a] ta) (ok : BlkOk X.N X.env.scope sc own) (hg : ∀ u J C cl fp, PG (X.blk u J sc (compEnvC sc cl C X.env) fp) tg g)
    (ht : ∀ u J C cl fp, PTs (X.blk u J sc (compEnvC sc cl C X.env) fp) ifs tt) (he : ∀ u J C cl fp, PE (X.blk u J sc (compEnvC sc cl C X.env) fp) elt te) (hs : ∀ x, foldedSetIterable (.Call (.Name "range" p) [a] [] pr) X.env x = pure x)
    (hst : starEach [a] X.env = [(false, eval a X.env)])
    (h : tLc (iRng1 ta) g tt te (own.map (·.2)) σ H Q) : wpAny (model X.prog X.w) X.A (comprehension (.ListComp elt [⟨tg, .Call (.Name "range" p) [a] [] pr, ifs, 0⟩] sc pos) sc X.env ps (newList []) false (eval (.Call (.Name "range" p) [a] [] pr) X.env) none) (EP X pins σ Q) X.xe s := by
  have fr : ∀ y ∈ sc.names, y.2 = .free → ∃ c, X.env.cells.lookup y.1 = some c := fun y hy e => (ok.free y hy e).elim (fun k => I.ok.has _ (.inl k)) fun k => I.ok.has _ (.inr k)
  refine wpAny_comprehension_free (use := none) rfl hs (closure_ok fr) ok.kind (fun y hy e => by rw [ok.uniq y hy, e]) ?_
  refine Call_ (ld_blt I hgr hmr boot_range (PyProof.Rows.callWith_type1 (thn (ha.run pr pins s σ H _ I h) fun us s1 ⟨vs, H1, I1, r1, j, ej, j1, j2, q⟩ => ?_) hst rfl))
  subst ej
  obtain ⟨u1, rfl, t1, rfl⟩ := vals1 r1
  refine call_range_1 ?_
  refine wpAny_pyIter_range (IsRange.new ..) (small_one (by omega) (by omega) j1 j2) ?_
  generalize hb : ({ s1 with heap := s1.heap.push { cls := .type "range", data := .fields #[.int 0 (s1.toks), .int j t1, .int 1 (s1.toks + 1)] }, toks := s1.toks + 1 + 1 } : Shared) = sR
  have IR : Inv X pins σ H1 sR := by rw [← hb]; exact I1.kept fun b o e => Heap.get?_push_of_some _ e
  generalize hit : sR.heap.objs.size = it
  have fpI : FpOk X pins H1 it := IR.fpOk (Nat.le_of_eq hit) (IR.hok.fresh (Nat.le_of_eq hit))
  generalize hu2 : ({ sR with heap := sR.heap.push { cls := .type "range_iterator", data := .fields #[rawInt 0, rawInt (Builtin.Range.rangeSize 0 j 1), rawInt 1] } } : Shared) = u2
  have I2 : Inv X pins σ H1 u2 := by rw [← hu2]; exact IR.kept (t' := sR.toks) fun b o e => Heap.get?_push_of_some _ e
  have li2 : IsRangeIter u2.heap it (0 + ((0 : Nat) : Int) * 1) ((j.toNat : Nat) - ((0 : Nat) : Int)) 1 := by
    have e2 : ((j.toNat : Nat) : Int) - ((0 : Nat) : Int) = Builtin.Range.rangeSize 0 j 1 := by rw [rangeSize_one]; split <;> omega
    rw [e2, ← hu2, ← hit]
    exact Heap.get?_push_size _ rfl
  have T := turn_rangeH (P := X.prog) (w := X.w) (K := X.K) (tg := tg) it 0 j.toNat
  refine wpAny_newObj_type (newEnv_comp ?_) (Nat.zero_le _)
  generalize hD : u2.heap.objs.size = D
  have lt2 : it < u2.heap.objs.size := Heap.lt_size li2
  have hDn : H1 D = none := I2.hok.fresh (Nat.le_of_eq hD)
  obtain ⟨W, ⟨m0, w0⟩, turn⟩ := q D hDn
  generalize hu3 : ({ u2 with heap := u2.heap.push { cls := .type "list", data := .seq ([] : List Value).toArray } } : Shared) = u3
  have I3 : Inv X pins σ (upd H1 D (.lst [])) u3 := by
    rw [← hu3]
    refine I2.laid (t' := u2.toks) (fun b o e => Heap.get?_push_of_some _ e) (Nat.le_of_eq hD) ⟨Nat.zero_le _, [], 0, .nil, ?_⟩
    rw [← hD]; exact Heap.get?_push_size _ rfl
  have e3 : u3.heap = u2.heap.push { cls := .type "list", data := .seq ([] : List Value).toArray } := by rw [← hu3]
  have nDi : it ≠ D := by rw [← hD]; exact Nat.ne_of_lt lt2
  have fp3 : ∀ b ∈ [it], FpOk X pins (upd H1 D (.lst [])) b ∧ b < u3.heap.objs.size := fun b hb => by
    obtain rfl : b = it := by simpa using hb
    exact ⟨⟨by rw [upd_ne nDi]; exact fpI.1, fpI.2⟩, by rw [e3, Heap.size_push]; exact Nat.lt_succ_of_lt lt2⟩
  have lt3 := (fp3 it (by simp)).2
  have li3 : IsRangeIter u3.heap it (0 + ((0 : Nat) : Int) * 1) ((j.toNat : Nat) - ((0 : Nat) : Int)) 1 := T.keep 0 _ _ li2 fun b _ o e => by rw [e3]; exact Heap.get?_push_of_some _ e
  have I4 := block_start I3 ok nd fp3
  have pg := hg u3 (upd H1 D (.lst [])) u3.heap.objs.size (cellsFrom (u3.heap.objs.size + 1) sc.names (cloFrom X.env.cells sc.names [])) [it]
  have pt := ht u3 (upd H1 D (.lst [])) u3.heap.objs.size (cellsFrom (u3.heap.objs.size + 1) sc.names (cloFrom X.env.cells sc.names [])) [it]
  have pe := he u3 (upd H1 D (.lst [])) u3.heap.objs.size (cellsFrom (u3.heap.objs.size + 1) sc.names (cloFrom X.env.cells sc.names [])) [it]
  show codeAny _ _ (.compStart (.ListComp elt [⟨tg, .Call (.Name "range" p) [a] [] pr, ifs, 0⟩] sc pos) 0 (.ref it) (.ref D) (compEnvC sc (cellsFrom (u3.heap.objs.size + 1) sc.names (cloFrom X.env.cells sc.names [])) u3.heap.objs.size X.env)) (compPost (model X.prog X.w) X.A X.xe none (EP X pins σ Q) (.ref D) u3.heap.objs.size) { u3 with heap := pushCells (u3.heap.push { cls := .type "dict", data := .dict #[] }) sc.names }
  generalize hce : compEnvC sc (cellsFrom (u3.heap.objs.size + 1) sc.names (cloFrom X.env.cells sc.names [])) u3.heap.objs.size X.env = ce at I4 pg pt pe ⊢
  have cL : ce.locals = u3.heap.objs.size := by subst hce; rfl
  generalize hH3 : upd H1 D (.lst []) = H3 at I3 I4 pg pt pe w0 fp3
  generalize hu4 : ({ u3 with heap := pushCells (u3.heap.push { cls := .type "dict", data := .dict #[] }) sc.names } : Shared) = u4 at I4 ⊢
  have li4 : IsRangeIter u4.heap it (0 + ((0 : Nat) : Int) * 1) ((j.toNat : Nat) - ((0 : Nat) : Int)) 1 := T.keep 0 _ _ li3 fun b _ o e => by rw [← hu4]; exact pushCells_keeps _ _ _ _ (Heap.get?_push_of_some _ e)
  have stat : ∀ {τ : L2.St} {H' : Hp} {u : Shared}, Inv (X.blk u3 H3 sc ce [it]) [] τ H' u → H' it = none → ∀ b ∈ [it], FpOk (X.blk u3 H3 sc ce [it]) [] H' b := fun {τ H' u} J hn b hb => by
    obtain rfl : b = it := by simpa using hb
    exact ⟨hn, (J.ok.exf b hb).1, J.ok.exfs b hb, .inl hb, fun x c e => (J.ok.exf b hb).2 x c e, fun p hp => absurd (show p ∈ ([] : List (Addr × Obj)) ++ [] from hp) (by simp)⟩
  have loop : codeAny (model X.prog X.w) X.A (.compLoop (.ListComp elt [⟨tg, .Call (.Name "range" p) [a] [] pr, ifs, 0⟩] sc pos) 0 (.ref it) (.ref D) ce) (compPost (model X.prog X.w) X.A X.xe none (EP X pins σ Q) (.ref D) u3.heap.objs.size) u4 := by
    refine compLoop_any (fun n u => ∃ i H', Inv (X.blk u3 H3 sc ce [it]) [] (wipe σ (own.map (·.2))) H' u ∧ IsRangeIter u.heap it (0 + ((i : Nat) : Int) * 1) ((j.toNat : Nat) - ((i : Nat) : Int)) 1 ∧ H' it = none ∧ W i n H') ?_ m0 ⟨0, H3, I4, li4, (fp3 it (by simp)).1.1, w0⟩
    rintro n u5 ⟨i, H5, I5, li5, n5, w5⟩
    rcases turn i n H5 w5 with ⟨stop, qq⟩ | ⟨go, Nx, hNx, step⟩
    · have stop : j.toNat ≤ i := stop
      have hf := (fp3 it (by simp)).1
      have I7 : Inv X pins σ H5 u5 := I3.call' (ch := [it]) I5.os I5.base I5.hok I5.bare fun b hb => by
        obtain rfl : b = it := by simpa using hb
        exact ⟨hf.2.2.2.1, hf.2.1, hf.2.2.2.2.1, hf.2.2.2.2.2⟩
      obtain ⟨pp, ⟨hh, v1, d1, c1⟩, hp⟩ := hot
      have nC : H5 u3.heap.objs.size = none := by have z : H5 ce.locals = none := I5.free; rw [cL] at z; exact z
      obtain ⟨m, hn, _⟩ := I5.loc
      have hn : u5.heap.Ns ce.locals m := hn
      rw [cL] at hn
      refine HotX.pyNext_range_end_hot (x1 := pp.1) ⟨hh, pp.2, v1, (I7.pin pp (List.mem_append_left _ hp)).1, d1, c1⟩ li5 (by omega) fun h' kk => ?_
      have I8 : Inv X pins σ H5 { u5 with heap := h' } := I7.turned (it := it) (t' := u5.toks) (fun b o _ e => kk b o e) n5 hf.2.1 hf.2.2.2.1 hf.2.2.2.2.1 hf.2.2.2.2.2
      have fC : FpOk X pins H5 u3.heap.objs.size := I3.fpOk (Nat.le_refl _) nC
      obtain ⟨o, es, ep, eo, dd, rr⟩ := hn
      refine ⟨m, ⟨o, es, ep, kk _ o eo, dd, rr⟩, fun h'' sb => ?_⟩
      exact ⟨.ref D, H5, I8.turned (t' := u5.toks) (fun b o hb e => (sb.2 b hb).trans e) fC.1 fC.2.1 fC.2.2.2.1 fC.2.2.2.2.1 fC.2.2.2.2.2, rfl, qq⟩
    · have go : i < j.toNat := go
      obtain ⟨f0, f1, f2, f3, f4, f5⟩ := stat I5 n5 it (by simp)
      refine wpAny_pyNext_range_item li5 (by omega) fun h6 li6' sb => ?_
      have li6 : IsRangeIter h6 it (0 + ((i + 1 : Nat) : Int) * 1) ((j.toNat : Nat) - ((i + 1 : Nat) : Int)) 1 := by
        have e1 : (0 : Int) + ((i : Nat) : Int) * 1 + 1 = 0 + ((i + 1 : Nat) : Int) * 1 := by omega
        have e2 : ((j.toNat : Nat) : Int) - ((i : Nat) : Int) - 1 = ((j.toNat : Nat) : Int) - ((i + 1 : Nat) : Int) := by omega
        rw [← e1, ← e2]
        exact li6'
      have I6 : Inv (X.blk u3 H3 sc ce [it]) [] (wipe σ (own.map (·.2))) H5 { u5 with heap := h6, toks := u5.toks + 1 } := I5.turned (it := it) (t' := u5.toks + 1) (fun b o hb e => (sb.2 b hb).trans e) f0 f1 f3 f4 f5
      refine go_of (s := { u5 with heap := h6, toks := u5.toks + 1 }) (n := "range_iterator") li6 rfl rfl (by decide) ?_
      have I6' := I6.pinned (stat I6 n5) (T.obj (i + 1) h6 li6)
      have yl : (Itr 0 j.toNat).yld i H5 (V.int (0 + (i : Nat))) H5 := ⟨rfl, rfl⟩
      have ru : RelV (V.int (0 + (i : Nat))) (.int (0 + ((i : Nat) : Int) * 1) u5.toks) := ⟨u5.toks, by rw [Int.mul_one]⟩
      refine thnF (pg.run _ _ _ H5 _ _ _ I6' ru (step _ H5 yl)) fun _ u8 ⟨σ8, H8, I8, hw8, q8⟩ => ?_
      refine thnF (pt.run _ u8 σ8 H8 _ I8 q8) fun b u9 ⟨H9, I9, q9⟩ => ?_
      have fin : ∀ {u : Shared} {H' : Hp}, Inv (X.blk u3 H3 sc ce [it]) ([] ++ pinsAt [it] h6) σ8 H' u → Nx H' → ∃ m, m < n ∧ ∃ i H', Inv (X.blk u3 H3 sc ce [it]) [] (wipe σ (own.map (·.2))) H' u ∧ IsRangeIter u.heap it (0 + ((i : Nat) : Int) * 1) ((j.toNat : Nat) - ((i : Nat) : Int)) 1 ∧ H' it = none ∧ W i m H' := fun {u H'} J nx => by
        obtain ⟨m', hm, w'⟩ := hNx H' nx
        have pp := J.pin (it, _) (List.mem_append_right _ (List.mem_append_right _ (mem_pinsAt (by simp) li6)))
        have ll : (wipe σ (own.map (·.2))).length = σ8.length := by rw [← hw8, wipe_length]
        exact ⟨m', hm, i + 1, H', (J.unpinned (pins := [])).weak ll (fun j v e => by rw [← hw8] at e; exact (wipe_some e).1), pp.1, pp.2.1, w'⟩
      cases b with
      | false =>
        simp only [Bool.false_eq_true, if_false] at q9 ⊢
        exact fin I9 q9
      | true =>
        simp only [if_true] at q9 ⊢
        refine thnF (pe.run _ u9 σ8 H9 _ I9 q9) fun z u10 ⟨yv, H10, I10, r10, acc, hD10, hz10, nx⟩ => ?_
        exact app_ok (X := X.blk u3 H3 sc ce [it]) I10 hD10 hz10 r10 fun u11 I11 => fin I11 nx
  exact codeAny_compStart_list loop (T.self X.A 0 _ _ _ li4 loop)
theorem pe_lcHR {elt tg a : Expr} {ifs : List Expr} {sc : Scope} {own : List (Str × Nat)} {pos p pr : Pos} {ta : TA} {g : TG} {tt : TT} {te : TE} (hot : HotC X) (nd : X.N.Nodup) (hgr : Gl X "range") (hmr : X.mg "range" = none) (ha : PA X [a] ta) (ok : BlkOk X.N X.env.scope sc own)
    (hg : ∀ u J C cl fp, PG (X.blk u J sc (compEnvC sc cl C X.env) fp) tg g) (ht : ∀ u J C cl fp, PTs (X.blk u J sc (compEnvC sc cl C X.env) fp) ifs tt) (he : ∀ u J C cl fp, PE (X.blk u J sc (compEnvC sc cl C X.env) fp) elt te) (hs : ∀ x, foldedSetIterable (.Call (.Name "range" p) [a] [] pr) X.env x = pure x)
    (hst : starEach [a] X.env = [(false, eval a X.env)]) :
    PE X (.ListComp elt [⟨tg, .Call (.Name "range" p) [a] [] pr, ifs, 0⟩] sc pos) (tLc (iRng1 ta) g tt te (own.map (·.2))) := ⟨fun pins s σ H Q I h => by rw [eval_ListComp]; exact lc_hotR hot nd I hgr hmr ha ok hg ht he hs hst h⟩
end
section
variable {X : Cx} {W : WX} {E : EX} {elt a : Expr} {n : Str} {np pos p pr : Pos} {ifs : List Expr} {sc : Scope} {own : List (Str × Nat)} {ta : TA} {wa : WA} {wt : WT} {we : WEx}
theorem elcHR (hot : HotC X) (nd : X.N.Nodup) (own : List (Str × Nat)) (i : Nat) {vs : List Nat} (hmr : X.mg "range" = none) (hl : DA X W E [a] ta wa) (hg : ∀ u J C cl fp, PG (X.blk u J sc (compEnvC sc cl C X.env) fp) (.Name n np) (gName i)) (ht : ∀ u J C cl fp, ∃ tt, DTs (X.blk u J sc (compEnvC sc cl C X.env) fp) W E ifs tt wt)
    (he : ∀ u J C cl fp, ∃ te, DE (X.blk u J sc (compEnvC sc cl C X.env) fp) W E elt te we) (hgr : Gl X "range" := by rfl) (hvs : own.map (·.2) = vs := by rfl) (ok : blkC X.N X.env.scope sc own = true := by rfl) (hv : i ∈ own.map (·.2) := by decide) (hs : ∀ x, foldedSetIterable (.Call (.Name "range" p) [a] [] pr) X.env x = pure x := by intro _; rfl) (hst : starEach [a] X.env = [(false, eval a X.env)] := by rfl) :
    DE X W E (.ListComp elt [⟨.Name n np, .Call (.Name "range" p) [a] [] pr, ifs, 0⟩] sc pos) (tLc (iRng1 ta) (gName i) (tOfT X.K W E wt) (tOfE X.K W E we) vs) (wLc (iR1 wa) i vs wt we) := by
  subst hvs
  exact ⟨pe_lcHR hot nd hgr hmr hl.pe (blkOk_by ok) hg (fun u J C cl fp => (ht u J C cl fp).elim fun _ h => h.of) (fun u J C cl fp => (he u J C cl fp).elim fun _ h => h.of) hs hst, dn_lc (di_r1 hl.dn) dn_ofT dn_ofE hv⟩
end
end DL
set_option maxHeartbeats 4000000
namespace DL
open PySem L2 PySem.Spec PyProof.Rows He
/-! ### a head's facts, defs at any address, with a Bool of one's own -/
abbrev AlZ : Type := AlD × Bool
def obsZ (n : Nat) (fa : List Fa) (fn : List He5.DefA) (ex : PySem.W.Frag → Bool) (g : Addr → Option Obj) : AlZ := (He5.obsA fa fn (frG g (He5.asA g n)), ex (frG g (He5.asA g n)))
def hookZ (n : Nat) (fa : List Fa) (fn : List He5.DefA) (ex : PySem.W.Frag → Bool) : PySem.W.Hook where
  α := AlZ
  obs := fun s => obsZ n fa fn ex s.heap.get?
  val := fun _ => (He5.valA fn, true)
  says := fun _ h => ∃ K : PySem.W.Frag, K.In h ∧ He5.SaysA fa fn K ∧ ex K = true
  of := fun _ _ e => ⟨_, frG_in, congrArg (fun z : AlZ => z.1) e, congrArg (fun z : AlZ => z.2) e⟩
  keeps := fun _ _ _ ⟨K, hK, c⟩ k => ⟨K, PySem.W.Frag.In.keeps hK k, c⟩
theorem obsZ_eq {n : Nat} {fa : List Fa} {fn : List He5.DefA} {ex : PySem.W.Frag → Bool} {g : Addr → Option Obj} {s : Shared} (h : ∀ a, g a = s.heap.get? a) : obsZ n fa fn ex g = (hookZ n fa fn ex).obs s := by
  have e : g = s.heap.get? := funext h
  rw [e] <;> rfl
/-- a global def, a class's method, a property's getter -/
def dfG (x : Str) (st : Stmt) : He5.DefA := { at_ := fun K => ga K x, name := x, qual := x, params := defArgs st, body := defBody st, scope := defScope st }
def dfM (C m q : Str) (st : Stmt) : He5.DefA := { at_ := fun K => ma K (ga K C) m, name := m, qual := q, params := defArgs st, body := defBody st, scope := defScope st }
def dfP (C m q : Str) (st : Stmt) : He5.DefA := { at_ := fun K => He5.wf K (ga K C) "property" m, name := m, qual := q, params := defArgs st, body := defBody st, scope := defScope st }
section
variable {K : PySem.W.Frag} {h : Heap} {mg : Str → Option Value} {fa : List Fa} {fn : List He5.DefA}
theorem funA (c : He5.SaysA fa fn K) {d : He5.DefA} {x q : Str} {st : Stmt} (i : Nat) (hi : fn[i]? = some d) (h1 : d.name = x) (h2 : d.qual = q) (h3 : d.params = defArgs st) (h4 : d.body = defBody st) (h5 : d.scope = defScope st) (h6 : d.dfl = []) : ∃ fd, Fun K x q st (d.at_ K) fd := by
  obtain ⟨fd, F⟩ := c.def_ i hi
  have e : d.dvs K = [] := by unfold He5.DefA.dvs; rw [h6]; rfl
  rw [h1, h2, h3, h4, h5, e] at F
  exact ⟨fd, He5.fun_of F⟩
theorem dfn_ofA (X : K.In h) (G : h.Ns mainGlobals mg) (c : He5.SaysA fa fn K) {x : Str} {st : Stmt} {ps : List Str} (i j : Nat) (hi : fn[i]? = some (dfG x st)) (hj : fa[j]? = some (.glo x))
    (hb : ∀ (kV doc pm : Value) (an : Option Addr) (cdv ct : Value) (us : List Value), us.length = ps.length → bindArgs (PySem.W.fnOf x x (defArgs st) (defBody st) (defScope st) .none kV doc pm an cdv ct) ⟨us, []⟩ = pure (ps.zip us)) : Dfn K mg x x st ps := by
  obtain ⟨fd, F⟩ := funA c i hi (x := x) (q := x) (st := st) rfl rfl rfl rfl rfl rfl
  exact ⟨_, fd, F, glo_ok X G (c.fact j hj), F.binds hb⟩
end
/-! ### classes of errors with an own __init__ -/
def oexB (K : PySem.W.Frag) (C : Addr) : Bool := (match K.lookup C with
  | some ⟨.type "type", _, .cls cd, sl⟩ => (match cd.mro, sl.toList with
    | .ref C' :: bm, [_, _, _, _, some (.builtin n), _] => C' == C && n == "ValueError.__new__" && !cd.hasDel && cd.hasDict && PySem.HandSPX.refsVE bm
    | _, _ => false)
  | _ => false) && (decide (PySem.W.findIn K (.ref C) "__setattr__" = some (some (.builtin "object.__setattr__"))) && (decide (PySem.W.subIn K (.ref C) (.type "BaseException") = some true) && (decide (PySem.W.typeIn K (.ref C) = some (.type "type")) && PySem.W.keepIn K (.ref C))))
theorem oexB_ok {K : PySem.W.Frag} {C : Addr} (h : oexB K C = true) : OexC K C := by
  obtain ⟨q, h⟩ := ba h
  obtain ⟨h1, h⟩ := ba h
  obtain ⟨h2, h⟩ := ba h
  obtain ⟨h3, h4⟩ := ba h
  refine ⟨?_, of_decide_eq_true h1, of_decide_eq_true h2, of_decide_eq_true h3, h4⟩
  clear h1 h2 h3 h4
  split at q
  · rename_i dd cd sl ho
    split at q
    · rename_i C' bm k0 k1 k2 k3 n k5 hm hs
      simp only [Bool.and_eq_true, beq_iff_eq, Bool.not_eq_true'] at q
      obtain ⟨⟨⟨⟨rfl, rfl⟩, hdel⟩, hdict⟩, hve⟩ := q
      obtain ⟨nm, bs, mro, ns, qn, hd, sn, sub, ab, col, del⟩ := cd
      dsimp only at hm hdel hdict
      subst hm hdel hdict
      have hsl : sl = #[k0, k1, k2, k3, some (.builtin "ValueError.__new__"), k5] := by
        obtain ⟨l⟩ := sl
        simp only at hs
        rw [hs]
      subst hsl
      exact ⟨nm, qn, ns, bs, bm, sn, sub, ab, col, dd, k0, k1, k2, k3, k5, ho, hve⟩
    · cases q
  · cases q
/-- C's own __init__ -/
def oinB (K : PySem.W.Frag) (C : Addr) : Bool := decide (PySem.W.findIn K (.ref C) "__init__" = some (some (.ref (ma K C "__init__")))) && decide (PySem.W.typeIn K (.ref (ma K C "__init__")) = some (.type "function"))
/-! ### properties -/
def propB (K : PySem.W.Frag) (C : Addr) (f : Str) : Bool := decide (PySem.W.findIn K (.ref C) f = some (some (.ref (ma K C f)))) && (decide (PySem.W.specialIn K (.ref (ma K C f)) "__get__" = some (some (.builtin "property.__get__"))) && (decide (PySem.W.takesIn K (.ref (ma K C f)) = some true) && (match PySem.W.recIn K (ma K C f) "property" with
  | some (.ref _ :: _) => true
  | _ => false)))
theorem propB_ok {K : PySem.W.Frag} {C : Addr} {f : Str} (h : propB K C f = true) : PropOf K C f (ma K C f) (He5.wf K C "property" f) := by
  obtain ⟨h1, h⟩ := ba h
  obtain ⟨h2, h⟩ := ba h
  obtain ⟨h3, h4⟩ := ba h
  refine ⟨of_decide_eq_true h1, of_decide_eq_true h2, of_decide_eq_true h3, ?_⟩
  unfold He5.wf
  split at h4
  · rename_i g r e
    exact ⟨r, by rw [e]⟩
  · cases h4
end DL
set_option maxHeartbeats 4000000
namespace DL
open PySem L2 PySem.Spec PyProof.Rows He
/-! ### a head's facts in parts: each its own run -/
section
variable {S α β : Type} {Z : Option S} {x : S → α} {y : S → β} {n : Nat} {fa fa2 : List Fa} {fn fn2 : List He5.DefA} {ex ex2 : PySem.W.Frag → Bool} {g : S → Addr → Option Obj} {a : α} {b : β}
theorem run_join (h1 : Z.map (fun s => (x s, y s, obsZ n fa fn ex (g s))) = some (a, b, (He5.valA fn, true))) (h2 : Z.map (fun s => obsZ n fa2 fn2 ex2 (g s)) = some (He5.valA fn2, true)) :
    Z.map (fun s => (x s, y s, obsZ n (fa ++ fa2) (fn ++ fn2) (fun K => ex K && ex2 K) (g s))) = some (a, b, (He5.valA (fn ++ fn2), true)) := by
  cases Z with
  | none => cases h1
  | some s =>
    simp only [Option.map_some, Option.some.injEq, Prod.mk.injEq] at h1 h2 ⊢
    obtain ⟨e1, e2, e3⟩ := h1
    refine ⟨e1, e2, ?_⟩
    unfold obsZ He5.obsA He5.valA at *
    generalize frG (g s) (He5.asA (g s) n) = K at *
    simp only [Prod.mk.injEq, Bool.and_eq_true] at e3 h2 ⊢
    obtain ⟨⟨⟨a1, a2⟩, a3⟩, a4⟩ := e3
    obtain ⟨⟨⟨b1, b2⟩, b3⟩, b4⟩ := h2
    simp only [List.all_append, List.map_append, a1, a2, a3, a4, b1, b2, b3, b4, Bool.and_self, and_self]
theorem run_pair (h1 : Z.map (fun s => (x s, y s)) = some (a, b)) (h2 : Z.map (fun s => obsZ n fa fn ex (g s)) = some (He5.valA fn, true)) :
    Z.map (fun s => (x s, y s, obsZ n fa fn ex (g s))) = some (a, b, (He5.valA fn, true)) := by
  cases Z with
  | none => cases h1
  | some s =>
    simp only [Option.map_some, Option.some.injEq, Prod.mk.injEq] at h1 h2 ⊢
    exact ⟨h1.1, h1.2, h2⟩
end
end DL
set_option maxHeartbeats 0
namespace K03H
open PySem L2 DL PySem.Spec PyProof.Rows
def top (i : Nat) : Stmt := PySem.Challenge.pw_twothick_k03_catalogue_refusals.main.body.getD i (.Pass ⟨0, 0, 0, 0⟩)
def errs : List Str := (["BadText", "BadNumber", "BadVector", "BadSize", "BadCatalogue", "BadAxis", "BadLook", "NoTag", "DoubleTag", "BadBox", "BadRow", "BadStops", "BadCut", "NoDeed", "NotPlane", "NotLevel", "TooFewThick", "TooMany", "Overlap", "Hit", "Unturnable", "TooManyLoose", "Blocked", "NoRow", "Locked", "NoTree", "Jammed"] : List Str)
def raised : List Str := (["BadVector", "BadSize", "BadCatalogue", "Unturnable", "TooFewThick", "TooManyLoose", "NoRow", "Locked", "NoTree", "Jammed"] : List Str)
def flds : List Str := (["size", "few", "loose", "circle", "knot", "jam"] : List Str)
abbrev R : PySem.W.OpenRow := PySem.W.OpenLaw.row PySem.Challenge.rw_twothick_k03_catalogue_refusals
def hfn : List He5.DefA := ([dfG "check_size" (top 35), dfG "check_catalogue" (top 36), dfG "each_once" (top 37), dfG "thick_axes" (top 38), dfG "_law_mix" (top 41), dfG "_law_store" (top 42), dfG "_law_take" (top 43), dfG "_law_pick" (top 44), dfG "_law_rare" (top 45), dfG "_law_shuffled" (top 46), dfG "_law_once" (top 47), dfG "_law_whole" (top 48), dfG "_law_dim" (top 49), dfG "_law_pitch" (top 50), dfG "_law_slim_size" (top 51), dfG "_law_catalogue" (top 52), dfG "_law_number" (top 53), dfG "_law_same" (top 54), dfG "_law_thick" (top 55), dfG "_law_names" (top 56)] : List He5.DefA) ++ ([dfG "_law_numbers_of" (top 57), dfG "_law_read" (top 58), dfG "_law_raised_with" (top 59), dfG "_law_refusals" (top 60), dfG "_law_asked" (top 61), dfG "_law_wanted_of" (top 62), dfG "_law_good" (top 63), dfG "_law_spoilt" (top 64), dfG "_law_bent_pair" (top 65), dfG "law" (top 66), dfM "Catalogue" "__init__" "Catalogue.__init__" (inClass (top 39) 0), dfP "Catalogue" "pitch" "Catalogue.pitch" (inClass (top 39) 1), dfP "Catalogue" "sizes" "Catalogue.sizes" (inClass (top 39) 2), dfP "Catalogue" "axes" "Catalogue.axes" (inClass (top 39) 3), dfP "Catalogue" "thick" "Catalogue.thick" (inClass (top 39) 4), dfM "Unturnable" "__init__" "Unturnable.__init__" (inClass (top 23) 0), dfM "TooFewThick" "__init__" "TooFewThick.__init__" (inClass (top 19) 0), dfM "TooManyLoose" "__init__" "TooManyLoose.__init__" (inClass (top 24) 0), dfM "NoRow" "__init__" "NoRow.__init__" (inClass (top 26) 0), dfM "Locked" "__init__" "Locked.__init__" (inClass (top 27) 0)] : List He5.DefA) ++ ([dfM "NoTree" "__init__" "NoTree.__init__" (inClass (top 28) 0), dfM "Jammed" "__init__" "Jammed.__init__" (inClass (top 29) 0)] : List He5.DefA)
def hfa : List He.Fa := ([.glo "check_size", .glo "check_catalogue", .glo "each_once", .glo "thick_axes", .glo "_law_mix", .glo "_law_store", .glo "_law_take", .glo "_law_pick", .glo "_law_rare", .glo "_law_shuffled", .glo "_law_once", .glo "_law_whole", .glo "_law_dim", .glo "_law_pitch", .glo "_law_slim_size", .glo "_law_catalogue", .glo "_law_number", .glo "_law_same", .glo "_law_thick", .glo "_law_names", .glo "_law_numbers_of", .glo "_law_read", .glo "_law_raised_with", .glo "_law_refusals", .glo "_law_asked", .glo "_law_wanted_of", .glo "_law_good", .glo "_law_spoilt", .glo "_law_bent_pair", .glo "law"] : List He.Fa) ++ ([.glo "YardError", .glo "BadText", .glo "BadNumber", .glo "BadVector", .glo "BadSize", .glo "BadCatalogue", .glo "BadAxis", .glo "BadLook", .glo "NoTag", .glo "DoubleTag", .glo "BadBox", .glo "BadRow", .glo "BadStops", .glo "BadCut", .glo "NoDeed", .glo "NotPlane", .glo "NotLevel", .glo "TooFewThick", .glo "TooMany", .glo "Overlap", .glo "Hit", .glo "Unturnable", .glo "TooManyLoose", .glo "Blocked", .glo "NoRow", .glo "Locked", .glo "NoTree", .glo "Jammed", .glo "Catalogue", .free "len"] : List He.Fa) ++ ([.free "abs", .free "int", .free "list", .free "range", .free "isinstance", .free "bool", .free "str", .free "tuple", .free "dict", .free "enumerate", .free "any", .free "max", .free "min", .free "ValueError", .int "MOST_AXES" (5), .int "MOST_SIZES" (12), .int "LONGEST" (1000000), .int "WIDEST" (1000), .exc "BadVector", .exc "BadSize", .exc "BadCatalogue", .noat "Catalogue" "own_thick", .noat "Catalogue" "own_sizes", .noat "Catalogue" "own_pitch", .mkr "Catalogue", .cls "Catalogue", .noat "Unturnable" "size", .noat "TooFewThick" "few", .noat "TooManyLoose" "loose", .noat "NoRow" "circle"] : List He.Fa) ++ ([.noat "Locked" "circle", .noat "NoTree" "knot", .noat "Jammed" "jam"] : List He.Fa)
def nmK (K : PySem.W.Frag) (a : Addr) : Str := (errs.find? fun n => He.ga K n == a).getD ""
def excB (K : PySem.W.Frag) (C : Addr) : Bool := decide (PySem.W.findIn K (.ref C) "__getattribute__" = some (some (.builtin "BaseException.__getattribute__"))) && (decide (PySem.W.findIn K (.ref C) "__getattr__" = some none) && (decide (PySem.W.subIn K (.ref C) (.type "BaseException") = some true) && (PySem.W.hasDictIn K C && (decide (PySem.W.findIn K (.ref C) "__class__" = some (some (.builtin "object.__class__"))) && (decide (PySem.W.specialIn K (.builtin "object.__class__") "__get__" = some (some (.builtin "getset_descriptor.__get__"))) && (decide (PySem.W.takesIn K (.builtin "object.__class__") = some true) && decide (PySem.W.mroIn K C (.type "object") = some true)))))))
theorem excB_ok {K : PySem.W.Frag} {C : Addr} (h : excB K C = true) : ExcC K C := by
  unfold excB at h
  simp only [Bool.and_eq_true, decide_eq_true_eq] at h
  obtain ⟨h1, h2, h3, h4, h5, h6, h7, h8⟩ := h
  exact ⟨h1, h2, h3, h4, h5, h6, h7, h8⟩
def hx0 (K : PySem.W.Frag) : Bool := errs.all fun n => decide (nmK K (He.ga K n) = n)
def hx1 (K : PySem.W.Frag) : Bool := raised.all fun n => excB K (He.ga K n)
def hx2 (K : PySem.W.Frag) : Bool := raised.all fun n => xfB K (He.ga K n)
def hx3 (K : PySem.W.Frag) : Bool := raised.all fun n => flds.all fun f => decide (PySem.W.findIn K (.ref (He.ga K n)) f = some none)
def hx4 (K : PySem.W.Frag) : Bool := raised.all fun n => decide (PySem.W.exmOne K (.ref (He.ga K n)) (.ref (He.ga K "YardError")) = some true)
def hx5 (K : PySem.W.Frag) : Bool := raised.all fun n => decide (PySem.W.kitOne K (.ref (He.ga K n)) (.type "ValueError") = some true)
def hx6 (K : PySem.W.Frag) : Bool := raised.all fun n => errs.all fun m => decide (PySem.W.kitOne K (.ref (He.ga K n)) (.ref (He.ga K m)) = some (decide (n = m)))
def hx7 (K : PySem.W.Frag) : Bool := (["Unturnable", "TooFewThick", "TooManyLoose", "NoRow", "Locked", "NoTree", "Jammed"] : List Str).all fun n => oexB K (He.ga K n) && oinB K (He.ga K n)
def hx8 (K : PySem.W.Frag) : Bool := ([("Catalogue", "pitch"), ("Catalogue", "sizes"), ("Catalogue", "axes"), ("Catalogue", "thick")] : List (Str × Str)).all fun z => propB K (He.ga K z.1) z.2
def hex (K : PySem.W.Frag) : Bool := hx0 K && (hx1 K && (hx2 K && (hx3 K && (hx4 K && (hx5 K && (hx6 K && (hx7 K && (hx8 K))))))))
def hnames : List Str := (["MOST_AXES", "MOST_SIZES", "LONGEST", "WIDEST", "_wall", "YardError", "BadText", "BadNumber", "BadVector", "BadSize", "BadCatalogue", "BadAxis", "BadLook", "NoTag", "DoubleTag", "BadBox", "BadRow", "BadStops", "BadCut", "NoDeed", "NotPlane", "NotLevel", "TooFewThick", "TooMany", "Overlap", "Hit", "Unturnable", "TooManyLoose", "Blocked", "NoRow"] : List Str) ++ (["Locked", "NoTree", "Jammed", "check_size", "check_catalogue", "each_once", "thick_axes", "Catalogue", "_law_mix", "_law_store", "_law_take", "_law_pick", "_law_rare", "_law_shuffled", "_law_once", "_law_whole", "_law_dim", "_law_pitch", "_law_slim_size", "_law_catalogue", "_law_number", "_law_same", "_law_thick", "_law_names", "_law_numbers_of", "_law_read", "_law_raised_with", "_law_refusals", "_law_asked", "_law_wanted_of"] : List Str) ++ (["_law_good", "_law_spoilt", "_law_bent_pair"] : List Str)
abbrev hk : PySem.W.Hook := DL.hookZ 5 ([] ++ hfa ++ []) (hfn ++ [] ++ []) (fun K => (true && true) && hex K)
def hob (s : PySem.W.SharedT) : DL.AlZ := DL.obsZ 5 ([] ++ hfa ++ []) (hfn ++ [] ++ []) (fun K => (true && true) && hex K) (HandSHeadRun.getT s)
theorem hob_eq (s : PySem.W.SharedT) : hob s = hk.obs s.abs := DL.obsZ_eq (HandSHeadRun.getT_eq s)
open PySem.W PySem.Calls in
noncomputable abbrev hz (w : World) (os : OsState) := HandSHeadRun.endF (HandSHeadRun.stepQ (HandSHeadRun.denQ HandSHeadRun.tabQ) R.prog w) 20000 R.prog w os
open PySem.W PySem.Calls in
theorem hrun1 (w : World) (os : OsState) : (hz w os).map (fun s => (HandSHeadRun.looksF R.prog (boot_heap w.params) s.abs, HandSHeadRun.seenQ (PySem.W.view R.prog [66]) hnames (importedModules R.prog.main.body) (fun s => PySem.W.xlAt (PySem.W.view R.prog [66]) [] s && recOk R.toRowW.records s) s.abs)) = some (true, openGood (PySem.W.view R.prog [66]) hnames) := by
  kernel_rfl
open PySem.W PySem.Calls in
theorem hrun0 (w : World) (os : OsState) : (hz w os).map (fun s => DL.obsZ 5 [] hfn (fun _ => true) (HandSHeadRun.getT s)) = some (He5.valA hfn, true) := by
  kernel_rfl
open PySem.W PySem.Calls in
theorem hrun2 (w : World) (os : OsState) : (hz w os).map (fun s => DL.obsZ 5 hfa [] (fun _ => true) (HandSHeadRun.getT s)) = some (He5.valA [], true) := by
  kernel_rfl
open PySem.W PySem.Calls in
theorem hrun3 (w : World) (os : OsState) : (hz w os).map (fun s => DL.obsZ 5 [] [] hex (HandSHeadRun.getT s)) = some (He5.valA [], true) := by
  kernel_rfl
theorem hrun (w : World) : HandSHeadRun.RunEq R (PySem.W.view R.prog [66]) hk hob 20000 hnames w := by
  intro os
  exact DL.run_join (DL.run_join (DL.run_pair (hrun1 w os) (hrun0 w os)) (hrun2 w os)) (hrun3 w os)
end K03H
set_option maxHeartbeats 800000
namespace K03
open PySem L2 DL
/-- the classes of errors, by name -/
def errs : List Str := ["BadText", "BadNumber", "BadVector", "BadSize", "BadCatalogue", "BadAxis", "BadLook", "NoTag", "DoubleTag", "BadBox", "BadRow", "BadStops", "BadCut", "NoDeed", "NotPlane", "NotLevel", "TooFewThick", "TooMany", "Overlap", "Hit", "Unturnable", "TooManyLoose", "Blocked", "NoRow", "Locked", "NoTree", "Jammed"]
/-- where the classes stand, and which class stands there -/
structure Ad where
  g : Str → Addr
  nm : Addr → Str
  inv : ∀ n ∈ errs, nm (g n) = n
abbrev Ad.BadVector (A : Ad) : Addr := A.g "BadVector"
abbrev Ad.BadSize (A : Ad) : Addr := A.g "BadSize"
abbrev Ad.BadCatalogue (A : Ad) : Addr := A.g "BadCatalogue"
/-- what the top has written -/
structure Tx (P : Program) (base : Heap) (K : PySem.W.Frag) (mg : Str → Option Value) (A : Ad) : Prop where
  seer : base.NoSeer
  tree : P.given.tree = none
  b_len : mg "len" = none
  b_abs : mg "abs" = none
  b_int : mg "int" = none
  b_list : mg "list" = none
  b_range : mg "range" = none
  b_isinstance : mg "isinstance" = none
  b_bool : mg "bool" = none
  b_str : mg "str" = none
  b_tuple : mg "tuple" = none
  b_dict : mg "dict" = none
  b_enumerate : mg "enumerate" = none
  b_any : mg "any" = none
  b_max : mg "max" = none
  b_min : mg "min" = none
  g_MOST_AXES : ∃ v, mg "MOST_AXES" = some v ∧ RelV (.int 5) v
  g_MOST_SIZES : ∃ v, mg "MOST_SIZES" = some v ∧ RelV (.int 12) v
  g_LONGEST : ∃ v, mg "LONGEST" = some v ∧ RelV (.int 1000000) v
  g_WIDEST : ∃ v, mg "WIDEST" = some v ∧ RelV (.int 1000) v
  x_BadVector : Xc K mg "BadVector" A.BadVector
  x_BadSize : Xc K mg "BadSize" A.BadSize
  x_BadCatalogue : Xc K mg "BadCatalogue" A.BadCatalogue
def top (i : Nat) : Stmt := PySem.Challenge.pw_twothick_k03_catalogue_refusals.main.body.getD i (.Pass ⟨0, 0, 0, 0⟩)
end K03
set_option maxHeartbeats 800000
namespace K03
open PySem L2 DL
local macro_rules | `(tactic| walk_at "w") => `(tactic| simp only [wSeq, wNext, wIf, wRet, wRetN, wDrop, wAsg, gN, wVar, wC, wOp, wUn, wNil, wCons, wCB, wTup, wLst, wLstF, wTe, tB0, wAnd, wOr, wNot, wAndV, wOrV, wNotV, wIfE, wCall, wCallG, wRaise, wFrz, fFrz, rets, fI, fI0, fAdd, fSub, fMul, fLt, fLe, fGt, fGe, fMod, fModN, fPow, fDiv, fDivG, fNeg, fEq, fNe, eqF_int, eqF_bl, eqF_str, scal_int, scal_bl, scal_str, fLen, sv, fIx, fAbs, fInt, fList, wSl, fSlL, oNo, oSo, lvr, lv, fCat, wMeL, fApp, fPop, fSetL, gSb, iLs, iTp, iR1, iR2, wFor, gTp, gCn, gNl, wPar, wBrk, wCnt, fIsi, wIsx, wLc, wYes, wip, wTr, truD, wTry, clrD, wFld, fieldsD, wSetF, wMeth, wMake, fStrI, fFmt, wJoin, wJs, wChain, fAddS, fIsN, fNotN, um_same, um_um, st0, List.map_cons, List.map_nil, List.length_cons, List.length_nil, List.getElem?_cons_zero, List.getElem?_cons_succ, List.set_cons_zero, List.set_cons_succ, List.cons_append, List.nil_append, List.replicate, atI_c0, atI_c1, atI_c2, atI_c3, atI_c4, atI_c5, atI_c6, ixN_70, ixN_71, ixN_72, ixN_73, ixN_74, ixN_75, ixN_76, Nat.reduceAdd, ite_T, ite_F, if_dec, if_ndec, if_nb, true_and, if_true, Bool.false_eq_true, if_false])
/-! ### the law's draws -/
def c_law_mix (A : Ad) : Ct := fun ds μ Q _ => match ds with
  | [.int _] => ∀ r : Int, 0 ≤ r → r < 2 ^ 64 → Q (.int r) μ
  | _ => False
abbrev s_law_mix : Stmt := top 41
theorem sc_law_mix : FnScope ["number", "prime", "mixed"] ["number"] (defScope s_law_mix) := ⟨rfl, rfl, rfl, by decide +kernel, rfl, by decide +kernel, by decide +kernel⟩
def w_law_mix_5 (A : Ad) (E : EX) : WS := (wRet (wOp fMod (wCB fInt (wCons (wOp fAdd (wOp fMul (wVar 2) (wC (.int (48271)))) (wOp fDiv (wVar 2) (wC (.int (4294967296))))) wNil)) (wVar 1)))
def w_law_mix_4 (A : Ad) (E : EX) : WS := (wSeq (wAsg (wOp fMod (wCB fInt (wCons (wOp fMul (wOp fMod (wCB fInt (wCons (wOp fMul (wVar 2) (wVar 2)) wNil)) (wVar 1)) (wVar 2)) wNil)) (wVar 1)) (gN 2))
  (w_law_mix_5 A E))
def w_law_mix_3 (A : Ad) (E : EX) : WS := (wSeq (wAsg (wOp fMod (wCB fInt (wCons (wOp fAdd (wOp fAdd (wVar 2) (wOp fMul (wOp fDiv (wVar 2) (wC (.int (2147483648)))) (wC (.int (40503))))) (wC (.int (3037000493)))) wNil)) (wVar 1)) (gN 2))
  (w_law_mix_4 A E))
def w_law_mix_2 (A : Ad) (E : EX) : WS := (wSeq (wAsg (wOp fMod (wCB fInt (wCons (wOp fMul (wOp fMod (wCB fInt (wCons (wOp fMul (wVar 2) (wVar 2)) wNil)) (wVar 1)) (wVar 2)) wNil)) (wVar 1)) (gN 2))
  (w_law_mix_3 A E))
def w_law_mix (A : Ad) (E : EX) : WS := (wSeq (wAsg (wC (.int (18446744073709551557))) (gN 1))
  (wSeq (wAsg (wOp fMod (wCB fInt (wCons (wOp fAdd (wVar 0) (wC (.int (1442695040888963407)))) wNil)) (wVar 1)) (gN 2))
  (w_law_mix_2 A E)))
theorem mlS {x y : Int} (h0 : 0 ≤ x) (h1 : x < 18446744073709551557) : MulOk x y := mulL ⟨by omega, by omega⟩
theorem mod_lt' (x : Int) : 0 ≤ x % 18446744073709551557 ∧ x % 18446744073709551557 < 18446744073709551557 := ⟨Int.emod_nonneg _ (by decide), Int.emod_lt_of_pos _ (by decide)⟩
theorem divW {x y : Int} (h : 0 < y) (h' : y.natAbs.log2 < 9000) : CDivW x y := ⟨h, h'⟩
theorem pure_law_mix (A : Ad) (ds μ Q E0) (h : c_law_mix A ds μ Q E0) : w_law_mix A (fun C fs _ μ => dwx E0 C fs μ) (rets Q) (st0 3 ds) μ := by
  unfold c_law_mix at h
  split at h
  · rename_i n
    have s5 : ∀ m : Int, 0 ≤ m → m < 18446744073709551557 → w_law_mix_5 A (fun C fs _ μ => dwx E0 C fs μ) (rets Q) [some (.int n), some (.int 18446744073709551557), some (.int m)] μ := by
      intro m h0 h1
      unfold w_law_mix_5; walk_at "w"
      refine ⟨mlS h0 h1, divW (by decide) (by decide +kernel), by decide, dwn.of (h _ (mod_lt' _).1 (by have := (mod_lt' (m * 48271 + m / 4294967296)).2; omega))⟩
    have s4 : ∀ m : Int, 0 ≤ m → m < 18446744073709551557 → w_law_mix_4 A (fun C fs _ μ => dwx E0 C fs μ) (rets Q) [some (.int n), some (.int 18446744073709551557), some (.int m)] μ := by
      intro m h0 h1
      unfold w_law_mix_4; walk_at "w"
      exact ⟨mlS h0 h1, by decide, mlS (mod_lt' _).1 (mod_lt' _).2, by decide, s5 _ (mod_lt' _).1 (mod_lt' _).2⟩
    have s3 : ∀ m : Int, 0 ≤ m → m < 18446744073709551557 → w_law_mix_3 A (fun C fs _ μ => dwx E0 C fs μ) (rets Q) [some (.int n), some (.int 18446744073709551557), some (.int m)] μ := by
      intro m h0 h1
      unfold w_law_mix_3; walk_at "w"
      exact ⟨divW (by decide) (by decide +kernel), mulR (by decide), by decide, s4 _ (mod_lt' _).1 (mod_lt' _).2⟩
    have s2 : ∀ m : Int, 0 ≤ m → m < 18446744073709551557 → w_law_mix_2 A (fun C fs _ μ => dwx E0 C fs μ) (rets Q) [some (.int n), some (.int 18446744073709551557), some (.int m)] μ := by
      intro m h0 h1
      unfold w_law_mix_2; walk_at "w"
      exact ⟨mlS h0 h1, by decide, mlS (mod_lt' _).1 (mod_lt' _).2, by decide, s3 _ (mod_lt' _).1 (mod_lt' _).2⟩
    unfold w_law_mix
    walk_at "w"
    exact ⟨by decide, s2 _ (mod_lt' _).1 (mod_lt' _).2⟩
  · exact h.elim
theorem len_law_mix (A : Ad) : ∀ ds μ Q E, c_law_mix A ds μ Q E → ds.length = 1 := by
  intro ds μ Q E h
  unfold c_law_mix at h
  first | (split at h) | (split at h)
  all_goals first | rfl | exact h.elim
theorem ok_law_mix {P : Program} {w : World} {K : PySem.W.Frag} {mg : Str → Option Value} {base : Heap} {A : Ad} (D : Dfn K mg "_law_mix" "_law_mix" s_law_mix ["number"]) (T : Tx P base K mg A)  : DfOk P w K mg base "_law_mix" 1 ["number"] (c_law_mix A) := by
  obtain ⟨f, fd, F, hm, hb⟩ := D
  refine ⟨f, fd, okD F sc_law_mix (by decide) (len_law_mix A) ?_, hm, F.kp, hb⟩
  intro X W E cdv B outer s H Ex hX tk hp hr
  subst hX
  exact ⟨_, w_law_mix A E, (scons (sset (i := 1) ei sc_law_mix.nd)
  (scons (sset (i := 2) (emod (ecty call_int1 dc_int T.b_int (acons (eadd (ev 0) ei) anil)) (ev 1)) sc_law_mix.nd)
  (scons (sset (i := 2) (emod (ecty call_int1 dc_int T.b_int (acons (emul (emod (ecty call_int1 dc_int T.b_int (acons (emul (ev 2) (ev 2)) anil)) (ev 1)) (ev 2)) anil)) (ev 1)) sc_law_mix.nd)
  (scons (sset (i := 2) (emod (ecty call_int1 dc_int T.b_int (acons (eadd (eadd (ev 2) (emul (ediv (ev 2) ei) ei)) ei) anil)) (ev 1)) sc_law_mix.nd)
  (scons (sset (i := 2) (emod (ecty call_int1 dc_int T.b_int (acons (emul (emod (ecty call_int1 dc_int T.b_int (acons (emul (ev 2) (ev 2)) anil)) (ev 1)) (ev 2)) anil)) (ev 1)) sc_law_mix.nd)
  (sone (sret (emod (ecty call_int1 dc_int T.b_int (acons (eadd (emul (ev 2) ei) (ediv (ev 2) ei)) anil)) (ev 1))))))))), fun ds μ Q E0 hc hE => by subst hE; exact pure_law_mix A ds μ Q E0 hc⟩
/-! the store: cells, place, rest, owed, seed, turn, number -/
structure StOk (st : List D) : Prop where
  ex : ∃ (cs : List Int) (i1 i2 i3 i4 i5 i6 : Int), st = [.lst (cs.map D.int), .int i1, .int i2, .int i3, .int i4, .int i5, .int i6] ∧ (∀ c ∈ cs, Bd 800 c) ∧ 0 ≤ i1 ∧ 0 ≤ i2 ∧ Bd 800 i2 ∧ 0 ≤ i3
def c_law_store (A : Ad) : Ct := fun ds μ Q _ => match ds with
  | [.lsr l] => ∃ ns : List Int, l = ns.map D.int ∧ ns.length ≤ 63 ∧ ∀ p st, StOk st → μ p = none → Q (.mut p) (um μ p (.lst st))
  | _ => False
abbrev s_law_store : Stmt := top 42
theorem sc_law_store : FnScope ["script", "top", "cells", "seed", "number", "cell"] ["script"] (defScope s_law_store) := ⟨rfl, rfl, rfl, by decide +kernel, rfl, by decide +kernel, by decide +kernel⟩
def w_law_store_5 (A : Ad) (E : EX) : WS := (wRet (wLst (wCons (wFrz (wVar 2)) (wCons (wC (.int (0))) (wCons (wC (.int (0))) (wCons (wC (.int (0))) (wCons (wVar 3) (wCons (wC (.int (0))) (wCons (wC (.int (0))) wNil)))))))))
def w_law_store_b1 (A : Ad) (E : EX) : WS := (wSeq (wAsg (wOp fMod (wCB fInt (wCons (wCB fAbs (wCons (wVar 4) wNil)) wNil)) (wVar 1)) (gN 5))
  (wSeq (wIf (wTe (wOp fLt (wVar 4) (wC (.int (0))))) (wAsg (wOp fSub (wC (.int (0))) (wVar 5)) (gN 5)) wNext)
  (wSeq (wDrop (wMeL fApp (wVar 2) (wCons (wVar 5) wNil)))
  (wAsg (wCall (c_law_mix A) E (wCons (wOp fAdd (wVar 3) (wVar 5)) wNil)) (gN 3)))))
def w_law_store_4 (A : Ad) (E : EX) : WS := (wSeq (wFor (iLs (wSl fSlL (wVar 0) oNo (oSo (wC (.int (63)))))) (gN 4) (w_law_store_b1 A E))
  (w_law_store_5 A E))
def w_law_store (A : Ad) (E : EX) : WS := (wSeq (wAsg (wOp fPow (wC (.int (10))) (wC (.int (60)))) (gN 1))
  (wSeq (wAsg (wOp fMul (wOp fMul (wOp fMul (wVar 1) (wVar 1)) (wVar 1)) (wVar 1)) (gN 1))
  (wSeq (wAsg (wLst wNil) (gN 2))
  (wSeq (wAsg (wCall (c_law_mix A) E (wCons (wCB fLen (wCons (wSl fSlL (wVar 0) oNo (oSo (wC (.int (63))))) wNil)) wNil)) (gN 3))
  (w_law_store_4 A E)))))
theorem cut63 {ns : List Int} (h : ns.length ≤ 63) : cutD (ns.map D.int) none (some 63) = ns.map D.int := by
  have e0 : HT.sIx ns.length 0 none = 0 := rfl
  have e1 : HT.sIx ns.length ns.length (some 63) = ns.length := by
    rw [show (some (63 : Int)) = some ((63 : Nat) : Int) from rfl, HT.sIx_nat]
    omega
  unfold cutD
  rw [List.length_map, e0, e1, List.drop_zero, Nat.sub_zero, List.take_of_length_le (by rw [List.length_map]; exact Nat.le_refl _)]
theorem bd60 : Bd 200 (10 ^ Int.toNat 60) := by unfold Bd; decide +kernel
theorem pure_law_store (A : Ad) (ds μ Q E0) (h : c_law_store A ds μ Q E0) : w_law_store A (fun C fs _ μ => dwx E0 C fs μ) (rets Q) (st0 6 ds) μ := by
  unfold c_law_store at h
  split at h
  · rename_i l
    obtain ⟨ns, rfl, hl, h⟩ := h
    unfold w_law_store
    walk_at "w"
    rw [cut63 hl]
    have hT : (0 : Int) < 10 ^ Int.toNat 60 * 10 ^ Int.toNat 60 * 10 ^ Int.toNat 60 * 10 ^ Int.toNat 60 ∧ (10 ^ Int.toNat 60 * 10 ^ Int.toNat 60 * 10 ^ Int.toNat 60 * 10 ^ Int.toNat 60 : Int) < 2 ^ 799 := by decide +kernel
    refine ⟨⟨by decide, by decide, by decide⟩, mulOk bd60 bd60 (by decide), mulOk (bd60.mul bd60) bd60 (by decide), mulOk ((bd60.mul bd60).mul bd60) bd60 (by decide), by decide, fun p hp => ?_⟩
    generalize (10 ^ Int.toNat 60 * 10 ^ Int.toNat 60 * 10 ^ Int.toNat 60 * 10 ^ Int.toNat 60 : Int) = T at hT
    intro r h0 h1
    unfold w_law_store_4
    walk_at "w"
    rw [cut63 hl]
    refine ⟨fun i ρ μ' => ∃ (cs : List Int) (seed : Int) (c4 c5 : Option D), ρ = [some (.lsr (ns.map D.int)), some (.int T), some (.mut p), some (.int seed), c4, c5] ∧ μ' = um μ p (.lst (cs.map D.int)) ∧ cs.length = i ∧ ∀ c ∈ cs, Bd 800 c, ⟨[], r, none, none, rfl, rfl, rfl, fun _ hc => nomatch hc⟩, fun _ _ _ _ => trivial, ?_, ?_⟩
    · rintro i d ρ μ' hd ⟨cs, seed, c4, c5, rfl, rfl, hi, hb⟩
      have hil : i < ns.length := by
        have := (List.getElem?_eq_some_iff.mp hd).1
        simpa [Wk.items] using this
      obtain ⟨n, rfl⟩ : ∃ n, d = D.int n := by
        rw [show (Wk.fix (ns.map D.int)).items = ns.map D.int from rfl, List.getElem?_map] at hd
        cases e : ns[i]? with
        | none => rw [e] at hd; cases hd
        | some n => rw [e] at hd; exact ⟨n, (Option.some.inj hd).symm⟩
      have fin : ∀ c : Int, Bd 800 c → ∃ (p_1 : Addr) (l : List D), D.mut p = D.mut p_1 ∧ um μ p (MO.lst (cs.map D.int)) p_1 = some (MO.lst l) := fun c _ => ⟨p, _, rfl, um_same⟩
      unfold w_law_store_b1
      walk_at "w"
      have hm : ((n.natAbs : Nat) : Int) % T < T ∧ 0 ≤ ((n.natAbs : Nat) : Int) % T := ⟨Int.emod_lt_of_pos _ hT.1, Int.emod_nonneg _ (by omega)⟩
      have hbd : Bd 800 (((n.natAbs : Nat) : Int) % T) := by unfold Bd; omega
      refine ⟨hT.1, ite2 (fun _ => ?_) (fun _ => ?_)⟩
      all_goals
        refine ⟨⟨p, _, rfl, um_same⟩, by rw [List.length_map]; omega, fun r' _ _ => ⟨_, _, leE.refl, le.refl, cs ++ [_], r', _, _, rfl, by rw [List.map_append]; rfl, by rw [List.length_append, hi]; rfl, fun c hc => ?_⟩⟩
        rcases List.mem_append.mp hc with hc | hc
        · exact hb c hc
        · rw [List.mem_singleton.mp hc]
          first | exact hbd | (unfold Bd at *; omega)
    · rintro ρ μ' ⟨cs, seed, c4, c5, rfl, rfl, hi, hb⟩
      unfold w_law_store_5
      walk_at "w"
      refine ⟨by decide, fun p' hp' => ?_⟩
      rw [rm_um hp] at hp' ⊢
      exact dwn.of (h p' _ ⟨cs, 0, 0, 0, seed, 0, 0, rfl, hb, by decide, by decide, by unfold Bd; decide, by decide⟩ hp')
  · exact h.elim
theorem len_law_store (A : Ad) : ∀ ds μ Q E, c_law_store A ds μ Q E → ds.length = 1 := by
  intro ds μ Q E h
  unfold c_law_store at h
  first | (split at h) | (split at h)
  all_goals first | rfl | exact h.elim
theorem ok_law_store {P : Program} {w : World} {K : PySem.W.Frag} {mg : Str → Option Value} {base : Heap} {A : Ad} (D : Dfn K mg "_law_store" "_law_store" s_law_store ["script"]) (T : Tx P base K mg A) (G_law_mix : DfOk P w K mg base "_law_mix" 1 ["number"] (c_law_mix A)) : DfOk P w K mg base "_law_store" 2 ["script"] (c_law_store A) := by
  obtain ⟨f, fd, F, hm, hb⟩ := D
  refine ⟨f, fd, okD F sc_law_store (by decide) (len_law_store A) ?_, hm, F.kp, hb⟩
  intro X W E cdv B outer s H Ex hX tk hp hr
  subst hX
  exact ⟨_, w_law_store A E, (scons (sset (i := 1) (epow ei ei) sc_law_store.nd)
  (scons (sset (i := 1) (emul (emul (emul (ev 1) (ev 1)) (ev 1)) (ev 1)) sc_law_store.nd)
  (scons (sset (i := 2) (elst anil) sc_law_store.nd)
  (scons (sset (i := 3) (ecall2 tk G_law_mix (hr.mono (by decide)) (acons (ecb call_len_seq dc_len T.b_len (acons (eslL (ev 0) onone (osome ei)) anil)) anil)) sc_law_store.nd)
  (scons (sfor hp (il (eslL (ev 0) onone (osome ei))) (gnm 4 sc_law_store.nd) (scons (sset (i := 5) (emod (ecty call_int1 dc_int T.b_int (acons (ecb call_abs dc_abs T.b_abs (acons (ev 4) anil)) anil)) (ev 1)) sc_law_store.nd)
  (scons (sif (tc' op_lt do_lt (ev 4) ei) (sone (sset (i := 5) (esub ei (ev 5)) sc_law_store.nd)) snil)
  (scons (sexpr (eapp (ev 2) (acons (ev 5) anil)))
  (sone (sset (i := 3) (ecall2 tk G_law_mix (hr.mono (by decide)) (acons (eadd (ev 3) (ev 5)) anil)) sc_law_store.nd))))))
  (sone (sret (elst (acons (efrz (ev 2)) (acons ei (acons ei (acons ei (acons (ev 3) (acons ei (acons ei anil))))))))))))))), fun ds μ Q E0 hc hE => by subst hE; exact pure_law_store A ds μ Q E0 hc⟩
end K03
set_option maxHeartbeats 800000
namespace K03
open PySem L2 DL
local macro_rules | `(tactic| walk_at "w") => `(tactic| simp only [wSeq, wNext, wIf, wRet, wRetN, wDrop, wAsg, gN, wVar, wC, wOp, wUn, wNil, wCons, wCB, wTup, wLst, wLstF, wTe, tB0, wAnd, wOr, wNot, wAndV, wOrV, wNotV, wIfE, wCall, wCallG, wRaise, wFrz, fFrz, rets, fI, fI0, fAdd, fSub, fMul, fLt, fLe, fGt, fGe, fMod, fModN, fPow, fDiv, fDivG, fNeg, fEq, fNe, eqF_int, eqF_bl, eqF_str, scal_int, scal_bl, scal_str, fLen, sv, fIx, fAbs, fInt, fList, wSl, fSlL, oNo, oSo, lvr, lv, fCat, wMeL, fApp, fPop, fSetL, gSb, iLs, iTp, iR1, iR2, wFor, gTp, gCn, gNl, wPar, wBrk, wCnt, fIsi, wIsx, wLc, wYes, wip, wTr, truD, wTry, clrD, wFld, fieldsD, wSetF, wMeth, wMake, fStrI, fFmt, wJoin, wJs, wChain, fAddS, fIsN, fNotN, um_same, um_um, st0, List.map_cons, List.map_nil, List.length_cons, List.length_nil, List.getElem?_cons_zero, List.getElem?_cons_succ, List.set_cons_zero, List.set_cons_succ, List.cons_append, List.nil_append, List.replicate, atI_c0, atI_c1, atI_c2, atI_c3, atI_c4, atI_c5, atI_c6, ixN_70, ixN_71, ixN_72, ixN_73, ixN_74, ixN_75, ixN_76, Nat.reduceAdd, ite_T, ite_F, if_dec, if_ndec, if_nb, true_and, if_true, Bool.false_eq_true, if_false])
/-- a draw: of 0 .. many - 1 (0 where many is below 2); the store is another one behind it -/
def c_law_take (A : Ad) : Ct := fun ds μ Q _ => match ds with
  | [.mut p, .int many] => ∃ st, μ p = some (.lst st) ∧ StOk st ∧ Bd 3000 many ∧ ∀ (n : Int) (st' : List D), StOk st' → 0 ≤ n → (2 ≤ many → n < many) → (many < 2 → n = 0) → Q (.int n) (um μ p (.lst st'))
  | _ => False
abbrev s_law_take : Stmt := top 43
theorem sc_law_take : FnScope ["store", "many", "cell", "left", "mixed", "k"] ["store", "many"] (defScope s_law_take) := ⟨rfl, rfl, rfl, by decide +kernel, rfl, by decide +kernel, by decide +kernel⟩
def w_law_take_7 (A : Ad) (E : EX) : WS := (wRet (wOp fMod (wCB fInt (wCons (wVar 4) wNil)) (wVar 1)))
def w_law_take_b1 (A : Ad) (E : EX) : WS := (wAsg (wOp fAdd (wOp fMul (wVar 4) (wC (.int (18446744073709551557)))) (wCall (c_law_mix A) E (wCons (wOp fAdd (wVar 4) (wVar 5)) wNil))) (gN 4))
def w_law_take_6 (A : Ad) (E : EX) : WS := (wSeq (wIf (wTe (wOp fGt (wVar 1) (wOp fPow (wC (.int (10))) (wC (.int (12)))))) (wFor (iR1 (wCons (wC (.int (4))) wNil)) (gN 5) (w_law_take_b1 A E)) wNext)
  (w_law_take_7 A E))
def w_law_take_4 (A : Ad) (E : EX) : WS := (wSeq (wAsg (wOp fAdd (wOp fIx (wVar 0) (wC (.int (5)))) (wC (.int (1)))) (gSb fSetL (wVar 0) (wC (.int (5)))))
  (wSeq (wAsg (wCall (c_law_mix A) E (wCons (wOp fAdd (wOp fAdd (wOp fIx (wVar 0) (wC (.int (4)))) (wOp fMul (wOp fIx (wVar 0) (wC (.int (6)))) (wC (.int (40503))))) (wOp fMul (wOp fIx (wVar 0) (wC (.int (5)))) (wC (.int (69621))))) wNil)) (gN 4))
  (w_law_take_6 A E)))
def w_law_take_3 (A : Ad) (E : EX) : WS := (wSeq (wIf (wTe (wOp fGt (wOp fIx (wVar 0) (wC (.int (2)))) (wC (.int (0))))) (wSeq (wAsg (wCB fInt (wCons (wOp fIx (wVar 0) (wC (.int (2)))) wNil)) (gN 3))
  (wSeq (wAsg (wOp fDiv (wVar 3) (wVar 1)) (gSb fSetL (wVar 0) (wC (.int (2)))))
  (wSeq (wIf (wOr (wTe (wOp fEq (wOp fIx (wVar 0) (wC (.int (2)))) (wC (.int (0))))) (wTe (wOp fEq (wOp fIx (wVar 0) (wC (.int (3)))) (wC (.int (0)))))) (wSeq (wAsg (wC (.int (0))) (gSb fSetL (wVar 0) (wC (.int (2)))))
  (wAsg (wC (.int (0))) (gSb fSetL (wVar 0) (wC (.int (3)))))) wNext)
  (wRet (wOp fMod (wVar 3) (wVar 1)))))) wNext)
  (w_law_take_4 A E))
def w_law_take_2 (A : Ad) (E : EX) : WS := (wSeq (wIf (wTe (wOp fGt (wOp fIx (wVar 0) (wC (.int (3)))) (wC (.int (0))))) (wAsg (wOp fSub (wOp fIx (wVar 0) (wC (.int (3)))) (wC (.int (1)))) (gSb fSetL (wVar 0) (wC (.int (3))))) wNext)
  (w_law_take_3 A E))
def w_law_take (A : Ad) (E : EX) : WS := (wSeq (wIf (wTe (wOp fLt (wVar 1) (wC (.int (2))))) (wRet (wC (.int (0)))) wNext)
  (wSeq (wIf (wAnd (wTe (wOp fEq (wOp fIx (wVar 0) (wC (.int (3)))) (wC (.int (0))))) (wTe (wOp fLt (wOp fIx (wVar 0) (wC (.int (1)))) (wCB fLen (wCons (wOp fIx (wVar 0) (wC (.int (0)))) wNil))))) (wSeq (wAsg (wOp fIx (wOp fIx (wVar 0) (wC (.int (0)))) (wOp fIx (wVar 0) (wC (.int (1))))) (gN 2))
  (wSeq (wAsg (wOp fAdd (wOp fIx (wVar 0) (wC (.int (1)))) (wC (.int (1)))) (gSb fSetL (wVar 0) (wC (.int (1)))))
  (wSeq (wAsg (wVar 2) (gSb fSetL (wVar 0) (wC (.int (6)))))
  (wSeq (wAsg (wC (.int (4))) (gSb fSetL (wVar 0) (wC (.int (3)))))
  (wIf (wTe (wOp fGe (wCB fAbs (wCons (wVar 2) wNil)) (wOp fPow (wC (.int (10))) (wC (.int (18)))))) (wSeq (wAsg (wCB fAbs (wCons (wVar 2) wNil)) (gSb fSetL (wVar 0) (wC (.int (2)))))
  (wAsg (wC (.int (60))) (gSb fSetL (wVar 0) (wC (.int (3)))))) wNext))))) wNext)
  (w_law_take_2 A E)))
theorem bd_log {n : Nat} {x : Int} (h : Bd n x) (h0 : 0 < n) (l : n ≤ 9000) : x.natAbs.log2 < 9000 := Nat.lt_of_lt_of_le (PySem.Flt.log2_lt_of h0 h) l
theorem pure_law_take (A : Ad) (ds μ Q E0) (h : c_law_take A ds μ Q E0) : w_law_take A (fun C fs _ μ => dwx E0 C fs μ) (rets Q) (st0 6 ds) μ := by
  unfold c_law_take at h
  split at h
  · rename_i p many
    obtain ⟨st, hp, hst, hb, h⟩ := h
    -- the draw by mixing
    have r7 : ∀ (st : List D) (c l k : Option D) (m : Int), 2 ≤ many → StOk st → w_law_take_7 A (fun C fs _ μ => dwx E0 C fs μ) (rets Q) [some (.mut p), some (.int many), c, l, some (.int m), k] (um μ p (.lst st)) := by
      intro st c l k m hm hst
      unfold w_law_take_7
      walk_at "w"
      exact ⟨by omega, dwn.of (h _ _ hst (Int.emod_nonneg _ (by omega)) (fun _ => Int.emod_lt_of_pos _ (by omega)) (fun z => by omega))⟩
    have r6 : ∀ (st : List D) (c l k : Option D) (m : Int), 2 ≤ many → StOk st → w_law_take_6 A (fun C fs _ μ => dwx E0 C fs μ) (rets Q) [some (.mut p), some (.int many), c, l, some (.int m), k] (um μ p (.lst st)) := by
      intro st c l k m hm hst
      unfold w_law_take_6
      walk_at "w"
      refine ⟨⟨by decide, by decide, by decide⟩, ite2 (fun _ => ?_) (fun _ => r7 st c l k m hm hst)⟩
      refine ⟨by decide, fun i ρ μ' => ∃ (m : Int) (k : Option D), ρ = [some (.mut p), some (.int many), c, l, some (.int m), k] ∧ μ' = um μ p (.lst st), ⟨m, k, rfl, rfl⟩, fun _ _ _ _ => trivial, ?_, ?_⟩
      · rintro i d ρ μ' hd ⟨m, k, rfl, rfl⟩
        have hi : i < 4 := by
          have := (List.getElem?_eq_some_iff.mp hd).1
          simpa [Wk.items, rng_len] using this
        obtain rfl : d = D.int (0 + (i : Nat)) := by
          have e := rng_get (lo := 0) (n := 4) hi
          exact Option.some.inj (hd.symm.trans e)
        unfold w_law_take_b1
        walk_at "w"
        exact ⟨mulR (by decide), fun r _ _ => wk.of ⟨_, _, rfl, rfl⟩⟩
      · rintro ρ μ' ⟨m, k, rfl, rfl⟩
        exact r7 st c l k m hm hst
    have r4 : ∀ (st : List D) (c l : Option D), 2 ≤ many → StOk st → w_law_take_4 A (fun C fs _ μ => dwx E0 C fs μ) (rets Q) [some (.mut p), some (.int many), c, l, none, none] (um μ p (.lst st)) := by
      rintro st c l hm ⟨cs, i1, i2, i3, i4, i5, i6, rfl, hc, h1, h2, h2b, h3⟩
      unfold w_law_take_4
      walk_at "w"
      refine ⟨mulR (by decide), mulR (by decide), fun r _ _ => r6 _ _ _ _ _ hm ⟨cs, i1, i2, i3, i4, _, i6, rfl, hc, h1, h2, h2b, h3⟩⟩
    have r3 : ∀ (st : List D) (c : Option D), 2 ≤ many → StOk st → w_law_take_3 A (fun C fs _ μ => dwx E0 C fs μ) (rets Q) [some (.mut p), some (.int many), c, none, none, none] (um μ p (.lst st)) := by
      rintro st c hm hst
      obtain ⟨cs, i1, i2, i3, i4, i5, i6, rfl, hc, h1, h2, h2b, h3⟩ := id hst
      unfold w_law_take_3
      walk_at "w"
      refine ite2 (fun hi => ?_) (fun hi => r4 _ _ _ hm hst)
      have hq : 0 ≤ i2 / many := Int.ediv_nonneg h2 (by omega)
      have hqb : Bd 800 (i2 / many) := h2b.le (by
        have : i2 / many ≤ i2 := Int.ediv_le_self _ h2
        omega)
      have fin : ∀ st', StOk st' → dwn Q (.int (i2 % many)) (um μ p (.lst st')) := fun st' hs => dwn.of (h _ _ hs (Int.emod_nonneg _ (by omega)) (fun _ => Int.emod_lt_of_pos _ (by omega)) (fun z => by omega))
      refine ⟨⟨by omega, bd_log hb (by decide) (by decide)⟩, ?_⟩
      refine ite2 (fun _ => ?_) (fun _ => ite2 (fun _ => ?_) (fun _ => ?_))
      · exact ⟨by omega, fin _ ⟨cs, i1, 0, 0, i4, i5, i6, rfl, hc, h1, by decide, by unfold Bd; decide, by decide⟩⟩
      · exact ⟨by omega, fin _ ⟨cs, i1, 0, 0, i4, i5, i6, rfl, hc, h1, by decide, by unfold Bd; decide, by decide⟩⟩
      · exact ⟨by omega, fin _ ⟨cs, i1, _, i3, i4, i5, i6, rfl, hc, h1, hq, hqb, h3⟩⟩
    have r2 : ∀ (st : List D) (c : Option D), 2 ≤ many → StOk st → w_law_take_2 A (fun C fs _ μ => dwx E0 C fs μ) (rets Q) [some (.mut p), some (.int many), c, none, none, none] (um μ p (.lst st)) := by
      rintro st c hm hst
      obtain ⟨cs, i1, i2, i3, i4, i5, i6, rfl, hc, h1, h2, h2b, h3⟩ := id hst
      unfold w_law_take_2
      walk_at "w"
      refine ite2 (fun hi => ?_) (fun hi => r3 _ _ hm hst)
      exact r3 _ _ hm ⟨cs, i1, i2, i3 - 1, i4, i5, i6, rfl, hc, h1, h2, h2b, by omega⟩
    have e0 : μ = um μ p (.lst st) := (um_id hp).symm
    rw [e0]
    obtain ⟨cs, i1, i2, i3, i4, i5, i6, rfl, hc, h1, h2, h2b, h3⟩ := id hst
    unfold w_law_take
    walk_at "w"
    refine ite2 (fun hm => ?_) (fun hm => ?_)
    · exact dwn.of (h 0 _ hst (by decide) (fun z => by omega) (fun _ => rfl))
    · refine ite2 (fun _ => ite2 (fun hl => ?_) (fun _ => r2 _ _ (by omega) hst)) (fun _ => r2 _ _ (by omega) hst)
      rw [List.length_map] at hl
      obtain ⟨d, ed, hd, _⟩ := atI_in (l := cs) h1 hl
      have ed' : atI (cs.map D.int) i1 = some (.int d) := by
        obtain ⟨d', e1, _, e3⟩ := atI_in (l := cs.map D.int) h1 (by rw [List.length_map]; exact hl)
        obtain ⟨_, _, _, e4⟩ := atI_in (l := cs) h1 hl
        rw [e1, ← e3, List.getElem?_map]
        obtain ⟨d2, f1, _, f3⟩ := atI_in (l := cs) h1 hl
        rw [f3, ← f1, ed]; rfl
      rw [ed']
      walk_at "w"
      refine ⟨⟨by decide, by decide, by decide⟩, ite2 (fun _ => ?_) (fun _ => ?_)⟩
      · exact r2 _ _ (by omega) ⟨cs, i1 + 1, _, 60, i4, i5, d, rfl, hc, by omega, by omega, (hc d hd).le (by omega), by decide⟩
      · exact r2 _ _ (by omega) ⟨cs, i1 + 1, i2, 4, i4, i5, d, rfl, hc, by omega, h2, h2b, by decide⟩
  · exact h.elim
theorem len_law_take (A : Ad) : ∀ ds μ Q E, c_law_take A ds μ Q E → ds.length = 2 := by
  intro ds μ Q E h
  unfold c_law_take at h
  first | (split at h) | (split at h)
  all_goals first | rfl | exact h.elim
theorem ok_law_take {P : Program} {w : World} {K : PySem.W.Frag} {mg : Str → Option Value} {base : Heap} {A : Ad} (D : Dfn K mg "_law_take" "_law_take" s_law_take ["store", "many"]) (T : Tx P base K mg A) (G_law_mix : DfOk P w K mg base "_law_mix" 1 ["number"] (c_law_mix A)) : DfOk P w K mg base "_law_take" 2 ["store", "many"] (c_law_take A) := by
  obtain ⟨f, fd, F, hm, hb⟩ := D
  refine ⟨f, fd, okD F sc_law_take (by decide) (len_law_take A) ?_, hm, F.kp, hb⟩
  intro X W E cdv B outer s H Ex hX tk hp hr
  subst hX
  exact ⟨_, w_law_take A E, (scons (sif (tc' op_lt do_lt (ev 1) ei) (sone (sret ei)) snil)
  (scons (sif (tbo (tand (tc' op_eq do_eq (eix (ev 0) ei) ei) (tand1 (tc' op_lt do_lt (eix (ev 0) ei) (ecb call_len_seq dc_len T.b_len (acons (eix (ev 0) ei) anil)))))) (scons (sset (i := 2) (eix (eix (ev 0) ei) (eix (ev 0) ei)) sc_law_take.nd)
  (scons (sasg (eadd (eix (ev 0) ei) ei) (gsl (ev 0) ei))
  (scons (sasg (ev 2) (gsl (ev 0) ei))
  (scons (sasg ei (gsl (ev 0) ei))
  (sone (sif (tc' op_ge do_ge (ecb call_abs dc_abs T.b_abs (acons (ev 2) anil)) (epow ei ei)) (scons (sasg (ecb call_abs dc_abs T.b_abs (acons (ev 2) anil)) (gsl (ev 0) ei))
  (sone (sasg ei (gsl (ev 0) ei)))) snil)))))) snil)
  (scons (sif (tc' op_gt do_gt (eix (ev 0) ei) ei) (sone (sasg (esub (eix (ev 0) ei) ei) (gsl (ev 0) ei))) snil)
  (scons (sif (tc' op_gt do_gt (eix (ev 0) ei) ei) (scons (sset (i := 3) (ecty call_int1 dc_int T.b_int (acons (eix (ev 0) ei) anil)) sc_law_take.nd)
  (scons (sasg (ediv (ev 3) (ev 1)) (gsl (ev 0) ei))
  (scons (sif (tbo (tor (tc' op_eq do_eq (eix (ev 0) ei) ei) (tor1 (tc' op_eq do_eq (eix (ev 0) ei) ei)))) (scons (sasg ei (gsl (ev 0) ei))
  (sone (sasg ei (gsl (ev 0) ei)))) snil)
  (sone (sret (emod (ev 3) (ev 1))))))) snil)
  (scons (sasg (eadd (eix (ev 0) ei) ei) (gsl (ev 0) ei))
  (scons (sset (i := 4) (ecall2 tk G_law_mix (hr.mono (by decide)) (acons (eadd (eadd (eix (ev 0) ei) (emul (eix (ev 0) ei) ei)) (emul (eix (ev 0) ei) ei)) anil)) sc_law_take.nd)
  (scons (sif (tc' op_gt do_gt (ev 1) (epow ei ei)) (sone (sfor hp (ir1 T.b_range (acons ei anil)) (gnm 5 sc_law_take.nd) (sone (sset (i := 4) (eadd (emul (ev 4) ei) (ecall2 tk G_law_mix (hr.mono (by decide)) (acons (eadd (ev 4) (ev 5)) anil))) sc_law_take.nd)))) snil)
  (sone (sret (emod (ecty call_int1 dc_int T.b_int (acons (ev 4) anil)) (ev 1))))))))))), fun ds μ Q E0 hc hE => by subst hE; exact pure_law_take A ds μ Q E0 hc⟩
end K03
set_option maxHeartbeats 800000
namespace K03
open PySem L2 DL
local macro_rules | `(tactic| walk_at "w") => `(tactic| simp only [wSeq, wNext, wIf, wRet, wRetN, wDrop, wAsg, gN, wVar, wC, wOp, wUn, wNil, wCons, wCB, wTup, wLst, wLstF, wTe, tB0, wAnd, wOr, wNot, wAndV, wOrV, wNotV, wIfE, wCall, wCallG, wRaise, wFrz, fFrz, rets, fI, fI0, fAdd, fSub, fMul, fLt, fLe, fGt, fGe, fMod, fModN, fPow, fDiv, fDivG, fNeg, fEq, fNe, eqF_int, eqF_bl, eqF_str, scal_int, scal_bl, scal_str, fLen, sv, fIx, fAbs, fInt, fList, wSl, fSlL, oNo, oSo, lvr, lv, fCat, wMeL, fApp, fPop, fSetL, gSb, iLs, iTp, iR1, iR2, wFor, gTp, gCn, gNl, wPar, wBrk, wCnt, fIsi, wIsx, wLc, wYes, wip, wTr, truD, wTry, clrD, wFld, fieldsD, wSetF, wMeth, wMake, fStrI, fFmt, wJoin, wJs, wChain, fAddS, fIsN, fNotN, um_same, um_um, st0, List.map_cons, List.map_nil, List.length_cons, List.length_nil, List.getElem?_cons_zero, List.getElem?_cons_succ, List.set_cons_zero, List.set_cons_succ, List.cons_append, List.nil_append, List.replicate, atI_c0, atI_c1, atI_c2, atI_c3, atI_c4, atI_c5, atI_c6, ixN_70, ixN_71, ixN_72, ixN_73, ixN_74, ixN_75, ixN_76, Nat.reduceAdd, ite_T, ite_F, if_dec, if_ndec, if_nb, true_and, if_true, Bool.false_eq_true, if_false])
def c_law_pick (A : Ad) : Ct := fun ds μ Q _ => match ds with
  | [.mut p, .lst l] => ∃ st, μ p = some (.lst st) ∧ StOk st ∧ 0 < l.length ∧ l.length < 1000 ∧ ∀ (d : D) (st' : List D), d ∈ l → StOk st' → Q d (um μ p (.lst st'))
  | [.mut p, .mut q] => ∃ st l, μ p = some (.lst st) ∧ StOk st ∧ μ q = some (.lst l) ∧ q ≠ p ∧ 0 < l.length ∧ l.length < 1000 ∧ ∀ (d : D) (st' : List D), d ∈ l → StOk st' → Q d (um μ p (.lst st'))
  | _ => False
abbrev s_law_pick : Stmt := top 44
theorem sc_law_pick : FnScope ["store", "things"] ["store", "things"] (defScope s_law_pick) := ⟨rfl, rfl, rfl, by decide +kernel, rfl, by decide +kernel, by decide +kernel⟩
def w_law_pick (A : Ad) (E : EX) : WS := (wRet (wOp fIx (wVar 1) (wCall (c_law_take A) E (wCons (wVar 0) (wCons (wCB fLen (wCons (wVar 1) wNil)) wNil)))))
theorem bd_small {n : Nat} {x : Int} (h0 : 0 ≤ x) (h1 : x < 1000) : Bd (n + 10) x := by
  refine Bd.mono (n := 10) ?_ (Nat.le_add_left _ _)
  unfold Bd; omega
theorem pure_law_pick (A : Ad) (ds μ Q E0) (h : c_law_pick A ds μ Q E0) : w_law_pick A (fun C fs _ μ => dwx E0 C fs μ) (rets Q) (st0 2 ds) μ := by
  unfold c_law_pick at h
  split at h
  · rename_i p l
    obtain ⟨st, hp, hst, h0, h1, h⟩ := h
    unfold w_law_pick
    walk_at "w"
    refine ⟨st, hp, hst, bd_small (n := 2990) (by omega) (by omega), fun n st' hs hn hm hm0 => ?_⟩
    have hlt : n < l.length := by
      by_cases c : 2 ≤ (l.length : Int)
      · exact hm c
      · have := hm0 (by omega); omega
    obtain ⟨d, e1, e2, _⟩ := atI_in hn hlt
    walk_at "w"
    rw [e1]
    exact dwn.of (h d st' e2 hs)
  · rename_i p q
    obtain ⟨st, l, hp, hst, hq, hne, h0, h1, h⟩ := h
    unfold w_law_pick
    walk_at "w"
    rw [hq]
    refine ⟨st, hp, hst, bd_small (n := 2990) (by omega) (by omega), fun n st' hs hn hm hm0 => ?_⟩
    have hlt : n < l.length := by
      by_cases c : 2 ≤ (l.length : Int)
      · exact hm c
      · have := hm0 (by omega); omega
    obtain ⟨d, e1, e2, _⟩ := atI_in hn hlt
    walk_at "w"
    rw [um_ne hne, hq]
    dsimp only
    rw [e1]
    exact dwn.of (h d st' e2 hs)
  · exact h.elim
theorem len_law_pick (A : Ad) : ∀ ds μ Q E, c_law_pick A ds μ Q E → ds.length = 2 := by
  intro ds μ Q E h
  unfold c_law_pick at h
  first | (split at h) | (split at h)
  all_goals first | rfl | exact h.elim
theorem ok_law_pick {P : Program} {w : World} {K : PySem.W.Frag} {mg : Str → Option Value} {base : Heap} {A : Ad} (D : Dfn K mg "_law_pick" "_law_pick" s_law_pick ["store", "things"]) (T : Tx P base K mg A) (G_law_take : DfOk P w K mg base "_law_take" 2 ["store", "many"] (c_law_take A)) : DfOk P w K mg base "_law_pick" 3 ["store", "things"] (c_law_pick A) := by
  obtain ⟨f, fd, F, hm, hb⟩ := D
  refine ⟨f, fd, okD F sc_law_pick (by decide) (len_law_pick A) ?_, hm, F.kp, hb⟩
  intro X W E cdv B outer s H Ex hX tk hp hr
  subst hX
  exact ⟨_, w_law_pick A E, (sone (sret (eix (ev 1) (ecall2 tk G_law_take (hr.mono (by decide)) (acons (ev 0) (acons (ecb call_len_seq dc_len T.b_len (acons (ev 1) anil)) anil)))))), fun ds μ Q E0 hc hE => by subst hE; exact pure_law_pick A ds μ Q E0 hc⟩
def c_law_rare (A : Ad) : Ct := fun ds μ Q _ => match ds with
  | [.mut p, .int many] => ∃ st, μ p = some (.lst st) ∧ StOk st ∧ Bd 3000 many ∧ ∀ (b : Bool) (st' : List D), StOk st' → Q (.bl b) (um μ p (.lst st'))
  | _ => False
abbrev s_law_rare : Stmt := top 45
theorem sc_law_rare : FnScope ["store", "many"] ["store", "many"] (defScope s_law_rare) := ⟨rfl, rfl, rfl, by decide +kernel, rfl, by decide +kernel, by decide +kernel⟩
def w_law_rare (A : Ad) (E : EX) : WS := (wRet (wOp fEq (wCall (c_law_take A) E (wCons (wVar 0) (wCons (wVar 1) wNil))) (wC (.int (0)))))
theorem pure_law_rare (A : Ad) (ds μ Q E0) (h : c_law_rare A ds μ Q E0) : w_law_rare A (fun C fs _ μ => dwx E0 C fs μ) (rets Q) (st0 2 ds) μ := by
  unfold c_law_rare at h
  split at h
  · rename_i p many
    obtain ⟨st, hp, hst, hb, h⟩ := h
    unfold w_law_rare
    walk_at "w"
    refine ⟨st, hp, hst, hb, fun n st' hs _ _ _ => ?_⟩
    walk_at "w"
    exact dwn.of (h _ _ hs)
  · exact h.elim
theorem len_law_rare (A : Ad) : ∀ ds μ Q E, c_law_rare A ds μ Q E → ds.length = 2 := by
  intro ds μ Q E h
  unfold c_law_rare at h
  first | (split at h) | (split at h)
  all_goals first | rfl | exact h.elim
theorem ok_law_rare {P : Program} {w : World} {K : PySem.W.Frag} {mg : Str → Option Value} {base : Heap} {A : Ad} (D : Dfn K mg "_law_rare" "_law_rare" s_law_rare ["store", "many"]) (T : Tx P base K mg A) (G_law_take : DfOk P w K mg base "_law_take" 2 ["store", "many"] (c_law_take A)) : DfOk P w K mg base "_law_rare" 3 ["store", "many"] (c_law_rare A) := by
  obtain ⟨f, fd, F, hm, hb⟩ := D
  refine ⟨f, fd, okD F sc_law_rare (by decide) (len_law_rare A) ?_, hm, F.kp, hb⟩
  intro X W E cdv B outer s H Ex hX tk hp hr
  subst hX
  exact ⟨_, w_law_rare A E, (sone (sret (ec op_eq do_eq (ecall2 tk G_law_take (hr.mono (by decide)) (acons (ev 0) (acons (ev 1) anil))) ei))), fun ds μ Q E0 hc hE => by subst hE; exact pure_law_rare A ds μ Q E0 hc⟩
/-- of at most 61 digits -/
def D61 (n : Int) : Prop := -10000000000000000000000000000000000000000000000000000000000000 < n ∧ n < 10000000000000000000000000000000000000000000000000000000000000
def c_law_whole (A : Ad) : Ct := fun ds μ Q _ => match ds with
  | [.mut p] => ∃ st, μ p = some (.lst st) ∧ StOk st ∧ ∀ (n : Int) (st' : List D), D61 n → StOk st' → Q (.int n) (um μ p (.lst st'))
  | _ => False
abbrev s_law_whole : Stmt := top 48
theorem sc_law_whole : FnScope ["store", "way", "edges"] ["store"] (defScope s_law_whole) := ⟨rfl, rfl, rfl, by decide +kernel, rfl, by decide +kernel, by decide +kernel⟩
def w_law_whole (A : Ad) (E : EX) : WS := (wSeq (wAsg (wCall (c_law_take A) E (wCons (wVar 0) (wCons (wC (.int (6))) wNil))) (gN 1))
  (wSeq (wIf (wTe (wOp fLt (wVar 1) (wC (.int (2))))) (wSeq (wAsg (wLstF (wCons (wC (.int (0))) (wCons (wC (.int (1))) (wCons (wUn fNeg (wC (.int (1)))) (wCons (wC (.int (2))) (wCons (wUn fNeg (wC (.int (2)))) (wCons (wOp fPow (wC (.int (10))) (wC (.int (60)))) (wCons (wOp fSub (wC (.int (0))) (wOp fPow (wC (.int (10))) (wC (.int (60))))) (wCons (wOp fSub (wOp fPow (wC (.int (10))) (wC (.int (61)))) (wC (.int (1)))) (wCons (wOp fSub (wC (.int (1))) (wOp fPow (wC (.int (10))) (wC (.int (61))))) (wCons (wOp fPow (wC (.int (10))) (wC (.int (18)))) (wCons (wOp fSub (wC (.int (1))) (wOp fPow (wC (.int (10))) (wC (.int (9))))) wNil)))))))))))) (gN 2))
  (wRet (wCall (c_law_pick A) E (wCons (wVar 0) (wCons (wVar 2) wNil))))) wNext)
  (wSeq (wIf (wTe (wOp fLt (wVar 1) (wC (.int (4))))) (wRet (wOp fSub (wCall (c_law_take A) E (wCons (wVar 0) (wCons (wC (.int (41))) wNil))) (wC (.int (20))))) wNext)
  (wSeq (wIf (wTe (wOp fEq (wVar 1) (wC (.int (4))))) (wRet (wOp fSub (wCall (c_law_take A) E (wCons (wVar 0) (wCons (wOp fAdd (wOp fMul (wC (.int (2))) (wOp fPow (wC (.int (10))) (wC (.int (9))))) (wC (.int (1)))) wNil))) (wOp fPow (wC (.int (10))) (wC (.int (9)))))) wNext)
  (wRet (wOp fSub (wCall (c_law_take A) E (wCons (wVar 0) (wCons (wOp fSub (wOp fMul (wC (.int (2))) (wOp fPow (wC (.int (10))) (wC (.int (61))))) (wC (.int (1)))) wNil))) (wOp fSub (wOp fPow (wC (.int (10))) (wC (.int (61)))) (wC (.int (1))))))))))
theorem bd_le {n : Nat} {x : Int} (h : x.natAbs < 2 ^ 250) : Bd (n + 250) x := Bd.mono (n := 250) h (Nat.le_add_left _ _)
local macro_rules | `(tactic| walk_at "num") => `(tactic| simp only [Int.reduceToNat, Int.reducePow, Int.reduceMul, Int.reduceAdd, Int.reduceSub])
theorem pw {j : Int} (h : 0 ≤ j ∧ j ≤ 1000000) : CPow 10 j := ⟨h.1, h.2, by decide⟩
theorem pure_law_whole (A : Ad) (ds μ Q E0) (h : c_law_whole A ds μ Q E0) : w_law_whole A (fun C fs _ μ => dwx E0 C fs μ) (rets Q) (st0 3 ds) μ := by
  unfold c_law_whole at h
  split at h
  · rename_i p
    obtain ⟨st, hp, hst, h⟩ := h
    unfold w_law_whole
    walk_at "w"
    walk_at "num"
    refine ⟨st, hp, hst, bd_small (n := 2990) (by decide) (by decide), fun n st1 hs1 hn0 hn1 _ => ?_⟩
    walk_at "w"
    refine ite2 (fun _ => ?_) (fun _ => ite2 (fun _ => ?_) (fun _ => ?_))
    · refine ⟨pw (by decide), pw (by decide), pw (by decide), pw (by decide), pw (by decide), pw (by decide), by decide, st1, um_same, hs1, by decide, by decide, fun d st2 hd hs2 => ?_⟩
      have : ∃ k : Int, d = .int k ∧ D61 k := by
        simp only [List.mem_cons, List.not_mem_nil, or_false] at hd
        unfold D61
        rcases hd with rfl | rfl | rfl | rfl | rfl | rfl | rfl | rfl | rfl | rfl | rfl <;> exact ⟨_, rfl, by decide, by decide⟩
      obtain ⟨k, rfl, hk⟩ := this
      rw [um_um]
      exact dwn.of (h k st2 hk hs2)
    · refine ⟨st1, um_same, hs1, bd_small (n := 2990) (by decide) (by decide), fun m st2 hs2 h0 h1 _ => ?_⟩
      walk_at "w"
      have := h1 (by decide)
      exact dwn.of (h _ st2 (by unfold D61; omega) hs2)
    · refine ite2 (fun _ => ?_) (fun _ => ?_)
      · refine ⟨pw (by decide), mulL (by decide), st1, um_same, hs1, bd_le (n := 2750) (by decide), fun m st2 hs2 h0 h1 _ => ?_⟩
        walk_at "w"
        have := h1 (by decide)
        exact ⟨pw (by decide), dwn.of (h _ st2 (by unfold D61; omega) hs2)⟩
      · refine ⟨pw (by decide), mulL (by decide), st1, um_same, hs1, bd_le (n := 2750) (by decide), fun m st2 hs2 h0 h1 _ => ?_⟩
        walk_at "w"
        have := h1 (by decide)
        exact ⟨pw (by decide), dwn.of (h _ st2 (by unfold D61; omega) hs2)⟩
  · exact h.elim
theorem len_law_whole (A : Ad) : ∀ ds μ Q E, c_law_whole A ds μ Q E → ds.length = 1 := by
  intro ds μ Q E h
  unfold c_law_whole at h
  first | (split at h) | (split at h)
  all_goals first | rfl | exact h.elim
theorem ok_law_whole {P : Program} {w : World} {K : PySem.W.Frag} {mg : Str → Option Value} {base : Heap} {A : Ad} (D : Dfn K mg "_law_whole" "_law_whole" s_law_whole ["store"]) (T : Tx P base K mg A) (G_law_take : DfOk P w K mg base "_law_take" 2 ["store", "many"] (c_law_take A)) (G_law_pick : DfOk P w K mg base "_law_pick" 3 ["store", "things"] (c_law_pick A)) : DfOk P w K mg base "_law_whole" 4 ["store"] (c_law_whole A) := by
  obtain ⟨f, fd, F, hm, hb⟩ := D
  refine ⟨f, fd, okD F sc_law_whole (by decide) (len_law_whole A) ?_, hm, F.kp, hb⟩
  intro X W E cdv B outer s H Ex hX tk hp hr
  subst hX
  exact ⟨_, w_law_whole A E, (scons (sset (i := 1) (ecall2 tk G_law_take (hr.mono (by decide)) (acons (ev 0) (acons ei anil))) sc_law_whole.nd)
  (scons (sif (tc' op_lt do_lt (ev 1) ei) (scons (sset (i := 2) (elstF (acons ei (acons ei (acons (eneg ei) (acons ei (acons (eneg ei) (acons (epow ei ei) (acons (esub ei (epow ei ei)) (acons (esub (epow ei ei) ei) (acons (esub ei (epow ei ei)) (acons (epow ei ei) (acons (esub ei (epow ei ei)) anil)))))))))))) sc_law_whole.nd)
  (sone (sret (ecall2 tk G_law_pick (hr.mono (by decide)) (acons (ev 0) (acons (ev 2) anil)))))) snil)
  (scons (sif (tc' op_lt do_lt (ev 1) ei) (sone (sret (esub (ecall2 tk G_law_take (hr.mono (by decide)) (acons (ev 0) (acons ei anil))) ei))) snil)
  (scons (sif (tc' op_eq do_eq (ev 1) ei) (sone (sret (esub (ecall2 tk G_law_take (hr.mono (by decide)) (acons (ev 0) (acons (eadd (emul ei (epow ei ei)) ei) anil))) (epow ei ei)))) snil)
  (sone (sret (esub (ecall2 tk G_law_take (hr.mono (by decide)) (acons (ev 0) (acons (esub (emul ei (epow ei ei)) ei) anil))) (esub (epow ei ei) ei)))))))), fun ds μ Q E0 hc hE => by subst hE; exact pure_law_whole A ds μ Q E0 hc⟩
end K03
set_option maxHeartbeats 800000
namespace K03
open PySem L2 DL
local macro_rules | `(tactic| walk_at "w") => `(tactic| simp only [wSeq, wNext, wIf, wRet, wRetN, wDrop, wAsg, gN, wVar, wC, wOp, wUn, wNil, wCons, wCB, wTup, wLst, wLstF, wTe, tB0, wAnd, wOr, wNot, wAndV, wOrV, wNotV, wIfE, wCall, wCallG, wRaise, wFrz, fFrz, rets, fI, fI0, fAdd, fSub, fMul, fLt, fLe, fGt, fGe, fMod, fModN, fPow, fDiv, fDivG, fNeg, fEq, fNe, eqF_int, eqF_bl, eqF_str, scal_int, scal_bl, scal_str, fLen, sv, fIx, fAbs, fInt, fList, wSl, fSlL, oNo, oSo, lvr, lv, fCat, wMeL, fApp, fPop, fSetL, gSb, iLs, iTp, iR1, iR2, wFor, gTp, gCn, gNl, wPar, wBrk, wCnt, fIsi, wIsx, wLc, wYes, wip, wTr, truD, wTry, clrD, wFld, fieldsD, wSetF, wMeth, wMake, fStrI, fFmt, wJoin, wJs, wChain, fAddS, fIsN, fNotN, um_same, um_um, st0, List.map_cons, List.map_nil, List.length_cons, List.length_nil, List.getElem?_cons_zero, List.getElem?_cons_succ, List.set_cons_zero, List.set_cons_succ, List.cons_append, List.nil_append, List.replicate, atI_c0, atI_c1, atI_c2, atI_c3, atI_c4, atI_c5, atI_c6, ixN_70, ixN_71, ixN_72, ixN_73, ixN_74, ixN_75, ixN_76, Nat.reduceAdd, ite_T, ite_F, if_dec, if_ndec, if_nb, true_and, if_true, Bool.false_eq_true, if_false])
def isI : D → Bool
  | .int _ => true
  | _ => false
def c_law_number (A : Ad) : Ct := fun ds μ Q _ => match ds with
  | [d] => (∃ t, tyD μ d = some t) ∧ Q (.bl (isI d)) μ
  | _ => False
abbrev s_law_number : Stmt := top 53
theorem sc_law_number : FnScope ["told"] ["told"] (defScope s_law_number) := ⟨rfl, rfl, rfl, by decide +kernel, rfl, by decide +kernel, by decide +kernel⟩
def w_law_number (A : Ad) (E : EX) : WS := (wRet (wAndV (wUn (fIsi .int) (wVar 0)) (wNotV (wUn (fIsi .bl) (wVar 0)))))
theorem isI_ty {μ : Mu} {d : D} {t : Ty} (h : tyD μ d = some t) : (isB t .int && !isB t .bl) = isI d := by
  cases d with
  | «mut» a =>
    have h : (match μ a with
      | some (.lst _) => some Ty.lst
      | some (.dK _) => some Ty.dic
      | some (.dT _) => some Ty.dic
      | _ => none) = some t := h
    split at h <;> first | (cases h; rfl) | cases h
  | _ => first | (cases h; rfl) | cases h
theorem pure_law_number (A : Ad) (ds μ Q E0) (h : c_law_number A ds μ Q E0) : w_law_number A (fun C fs _ μ => dwx E0 C fs μ) (rets Q) (st0 1 ds) μ := by
  unfold c_law_number at h
  split at h
  · rename_i d
    obtain ⟨⟨t, ht⟩, h⟩ := h
    unfold w_law_number
    walk_at "w"
    rw [ht]
    refine ⟨by decide, ?_⟩
    have e := isI_ty ht
    show (if isB t .int = true then (Ty.bl ≠ Ty.non ∧ dwn Q (D.bl !isB t Ty.bl) μ) else dwn Q (D.bl false) μ)
    cases c : isB t .int with
    | true =>
      rw [c, Bool.true_and] at e
      rw [if_pos rfl, e]
      exact ⟨by decide, dwn.of h⟩
    | false =>
      rw [c, Bool.false_and] at e
      rw [if_neg Bool.false_ne_true, e]
      exact dwn.of h
  · exact h.elim
theorem len_law_number (A : Ad) : ∀ ds μ Q E, c_law_number A ds μ Q E → ds.length = 1 := by
  intro ds μ Q E h
  unfold c_law_number at h
  first | (split at h) | (split at h)
  all_goals first | rfl | exact h.elim
theorem ok_law_number {P : Program} {w : World} {K : PySem.W.Frag} {mg : Str → Option Value} {base : Heap} {A : Ad} (D : Dfn K mg "_law_number" "_law_number" s_law_number ["told"]) (T : Tx P base K mg A)  : DfOk P w K mg base "_law_number" 1 ["told"] (c_law_number A) := by
  obtain ⟨f, fd, F, hm, hb⟩ := D
  refine ⟨f, fd, okD F sc_law_number (by decide) (len_law_number A) ?_, hm, F.kp, hb⟩
  intro X W E cdv B outer s H Ex hX tk hp hr
  subst hX
  exact ⟨_, w_law_number A E, (sone (sret (eand (eisi .int T.b_isinstance T.b_int (by decide +kernel) (ev 0)) (eone (enot (eisi .bl T.b_isinstance T.b_bool (by decide +kernel) (ev 0))))))), fun ds μ Q E0 hc hE => by subst hE; exact pure_law_number A ds μ Q E0 hc⟩
end K03
set_option maxHeartbeats 800000
namespace K03
open PySem L2 DL
local macro_rules | `(tactic| walk_at "w") => `(tactic| simp only [wSeq, wNext, wIf, wRet, wRetN, wDrop, wAsg, gN, wVar, wC, wOp, wUn, wNil, wCons, wCB, wTup, wLst, wLstF, wTe, tB0, wAnd, wOr, wNot, wAndV, wOrV, wNotV, wIfE, wCall, wCallG, wRaise, wFrz, fFrz, rets, fI, fI0, fAdd, fSub, fMul, fLt, fLe, fGt, fGe, fMod, fModN, fPow, fDiv, fDivG, fNeg, fEq, fNe, eqF_int, eqF_bl, eqF_str, scal_int, scal_bl, scal_str, fLen, sv, fIx, fAbs, fInt, fList, wSl, fSlL, oNo, oSo, lvr, lv, fCat, wMeL, fApp, fPop, fSetL, gSb, iLs, iTp, iR1, iR2, wFor, gTp, gCn, gNl, wPar, wBrk, wCnt, fIsi, wIsx, wLc, wYes, wip, wTr, truD, wTry, clrD, wFld, fieldsD, wSetF, wMeth, wMake, fStrI, fFmt, wJoin, wJs, wChain, fAddS, fIsN, fNotN, um_same, um_um, st0, List.map_cons, List.map_nil, List.length_cons, List.length_nil, List.getElem?_cons_zero, List.getElem?_cons_succ, List.set_cons_zero, List.set_cons_succ, List.cons_append, List.nil_append, List.replicate, atI_c0, atI_c1, atI_c2, atI_c3, atI_c4, atI_c5, atI_c6, ixN_70, ixN_71, ixN_72, ixN_73, ixN_74, ixN_75, ixN_76, Nat.reduceAdd, ite_T, ite_F, if_dec, if_ndec, if_nb, true_and, if_true, Bool.false_eq_true, if_false])
/-! ### the same, kinds too -/
mutual
/-- plain data: no dicts, no cells -/
def pd : D → Bool
  | .tup l => pds l
  | .lst l => pds l
  | .non => true | .bl _ => true | .int _ => true | .str _ => true
  | _ => false
def pds : List D → Bool
  | [] => true
  | d :: l => pd d && pds l
end
mutual
/-- how many parts -/
def szD : D → Nat
  | .tup l => 1 + szs l
  | .lst l => 1 + szs l
  | _ => 1
def szs : List D → Nat
  | [] => 0
  | d :: l => szD d + szs l
end
theorem pds_mem : ∀ {l : List D} {d : D}, pds l = true → d ∈ l → pd d = true
  | d :: l, x, h, hx => by
    have h : (pd d && pds l) = true := h
    rw [Bool.and_eq_true] at h
    rcases List.mem_cons.mp hx with rfl | hx
    · exact h.1
    · exact pds_mem h.2 hx
theorem sz_pos : ∀ d : D, 1 ≤ szD d
  | .tup l => Nat.le_add_right 1 _
  | .lst l => Nat.le_add_right 1 _
  | .non => Nat.le_refl 1 | .bl _ => Nat.le_refl 1 | .int _ => Nat.le_refl 1 | .str _ => Nat.le_refl 1
  | .lsr _ => Nat.le_refl 1 | .dK _ _ => Nat.le_refl 1 | .dT _ _ => Nat.le_refl 1 | .ins _ _ _ => Nat.le_refl 1 | .exc _ _ _ _ => Nat.le_refl 1 | .mut _ => Nat.le_refl 1
def c_law_same (A : Ad) : Ct := fun ds μ Q _ => match ds with
  | [.mut q, .lst m] => ∃ l, μ q = some (.lst l) ∧ pds l = true ∧ pds m = true ∧ 1 + szs m < 100000 ∧ ∀ b : Bool, (b = true ↔ l = m) → Q (.bl b) μ
  | [one, two] => pd one = true ∧ pd two = true ∧ szD two < 100000 ∧ ∀ b : Bool, (b = true ↔ one = two) → Q (.bl b) μ
  | _ => False
abbrev s_law_same : Stmt := top 54
theorem sc_law_same : FnScope ["told", "wanted", "pairs", "turn", "one", "two", "key", "k"] ["told", "wanted"] (defScope s_law_same) := ⟨rfl, rfl, rfl, by decide +kernel, rfl, by decide +kernel, by decide +kernel⟩
def w_law_same_2 (A : Ad) (E : EX) : WS := (wRet (wC (.bl false)))
def w_law_same_b1 (A : Ad) (E : EX) : WS := (wDrop (wMeL fApp (wVar 2) (wCons (wTup (wCons (wOp fIx (wVar 4) (wVar 7)) (wCons (wOp fIx (wVar 5) (wVar 7)) wNil))) wNil)))
def w_law_same_b2 (A : Ad) (E : EX) : WS := (wSeq (wIf (wTe (wOp fEq (wCB fLen (wCons (wVar 2) wNil)) (wC (.int (0))))) (wRet (wC (.bl true))) wNext)
  (wSeq (wAsg (wMeL fPop (wVar 2) wNil) (gTp 2 (gCn (gN 4) (gCn (gN 5) gNl))))
  (wIf (wOr (wTe (wOp fIsN (wVar 5) (wC .non))) (wTe (wUn (fIsi .bl) (wVar 5)))) (wIf (wNot (wOr (wAnd (wTe (wOp fIsN (wVar 4) (wC .non))) (wTe (wOp fIsN (wVar 5) (wC .non)))) (wAnd (wTe (wUn (fIsi .bl) (wVar 4))) (wAnd (wTe (wUn (fIsi .bl) (wVar 5))) (wTe (wOp fEq (wVar 4) (wVar 5))))))) (wRet (wC (.bl false))) wNext) (wIf (wTe (wUn (fIsi .int) (wVar 5))) (wIf (wOr (wNot (wTe (wCall (c_law_number A) E (wCons (wVar 4) wNil)))) (wTe (wOp fNe (wVar 4) (wVar 5)))) (wRet (wC (.bl false))) wNext) (wIf (wTe (wUn (fIsi .str) (wVar 5))) (wIf (wOr (wNot (wTe (wUn (fIsi .str) (wVar 4)))) (wTe (wOp fNe (wVar 4) (wVar 5)))) (wRet (wC (.bl false))) wNext) (wIf (wTe (wUn (fIsi .dic) (wVar 5))) wNever (wSeq (wIf (wOr (wTe (wOp fNe (wUn (fIsi .tup) (wVar 5)) (wUn (fIsi .tup) (wVar 4)))) (wTe (wOp fNe (wUn (fIsi .lst) (wVar 5)) (wUn (fIsi .lst) (wVar 4))))) (wRet (wC (.bl false))) wNext)
  (wSeq (wIf (wOr (wAnd (wNot (wTe (wUn (fIsi .tup) (wVar 4)))) (wNot (wTe (wUn (fIsi .lst) (wVar 4))))) (wTe (wOp fNe (wCB fLen (wCons (wVar 4) wNil)) (wCB fLen (wCons (wVar 5) wNil))))) (wRet (wC (.bl false))) wNext)
  (wFor (iR1 (wCons (wCB fLen (wCons (wVar 5) wNil)) wNil)) (gN 7) (w_law_same_b1 A E))))))))))
def w_law_same (A : Ad) (E : EX) : WS := (wSeq (wAsg (wLst (wCons (wTup (wCons (wVar 0) (wCons (wVar 1) wNil))) wNil)) (gN 2))
  (wSeq (wFor (iR1 (wCons (wC (.int (100000))) wNil)) (gN 3) (w_law_same_b2 A E))
  (w_law_same_2 A E)))
def tyP : D → Ty
  | .bl _ => .bl | .int _ => .int | .str _ => .str | .tup _ => .tup | .lst _ => .lst | _ => .non
theorem tyP_ok {d : D} (μ : Mu) (h : pd d = true) : tyD μ d = some (tyP d) := by
  cases d <;> first | rfl | cases h
theorem zip_eq : ∀ {l m : List D}, l.length = m.length → ((∀ q ∈ l.zip m, q.1 = q.2) ↔ l = m)
  | [], [], _ => ⟨fun _ => rfl, fun _ q h => nomatch h⟩
  | a :: l, b :: m, h => by
    have h' : l.length = m.length := by simpa using h
    rw [List.zip_cons_cons, List.forall_mem_cons, zip_eq h']
    exact ⟨fun ⟨x, y⟩ => by rw [show a = b from x, y], fun z => by cases z; exact ⟨rfl, rfl⟩⟩
theorem zip_sz : ∀ {l m : List D}, l.length = m.length → ((l.zip m).map fun q => szD q.2).sum = szs m
  | [], [], _ => rfl
  | a :: l, b :: m, h => by
    have h' : l.length = m.length := by simpa using h
    rw [List.zip_cons_cons, List.map_cons, List.sum_cons, zip_sz h']
    rfl
theorem szs_len : ∀ l : List D, l.length ≤ szs l
  | [] => Nat.le_refl 0
  | d :: l => by
    have := szs_len l
    have := sz_pos d
    show l.length + 1 ≤ szD d + szs l
    omega
theorem sum_len : ∀ st : List (D × D), st.length ≤ (st.map fun q => szD q.2).sum
  | [] => Nat.le_refl 0
  | q :: l => by
    have := sum_len l
    have := sz_pos q.2
    rw [List.map_cons, List.sum_cons, List.length_cons]
    omega
theorem rng_at {lo : Int} {n i : Nat} {d : D} (h : (rng lo n)[i]? = some d) : i < n ∧ d = .int (lo + (i : Nat)) := by
  have hi : i < n := by
    have := (List.getElem?_eq_some_iff.mp h).1
    rwa [rng_len] at this
  rw [rng_get hi] at h
  cases h
  exact ⟨hi, rfl⟩
theorem fixi (l : List D) : (Wk.fix l).items = l := rfl
def I_same (one two : D) (P : Prop) (n : Nat) (μ : Mu) (p : Addr) (i : Nat) (ρ : En) (μ' : Mu) : Prop := ∃ (st : List (D × D)) (r3 r4 r5 r6 r7 : Option D), μ' = um μ p (.lst (st.map fun q => .tup [q.1, q.2])) ∧ ρ = [some one, some two, some (.mut p), r3, r4, r5, r6, r7] ∧
  (∀ q ∈ st, pd q.1 = true ∧ pd q.2 = true) ∧ ((∀ q ∈ st, q.1 = q.2) ↔ P) ∧ i + (st.map fun q => szD q.2).sum ≤ n
local macro_rules | `(tactic| walk_at "s") => `(tactic| simp (decide := true) only [tyD, c_law_number, isI, isN, Bool.not_true, Bool.not_false, ite_true, ite_false, if_true, if_false, true_and])
theorem same_step (A : Ad) {one two : D} {P : Prop} {n : Nat} {μ : Mu} {p : Addr} {Q : D → Mu → Prop} {E0} {NX BK : En → Mu → Prop} (hp : μ p = none) (hz : n < 100000) (hq : ∀ b : Bool, (b = true ↔ P) → Q (.bl b) μ) (i : Nat) (d : D) (ρ : En) (μ' : Mu) (hI : I_same one two P n μ p i ρ μ')
    (hNX : ∀ ρ μ', I_same one two P n μ p (i + 1) ρ μ' → NX ρ μ') : w_law_same_b2 A (fun C fs _ μ => dwx E0 C fs μ) { nx := wk NX, rt := (rets Q).rt, ct := wk NX, bk := BK } (ρ.set 3 (some d)) μ' := by
  obtain ⟨st, r3, r4, r5, r6, r7, rfl, rfl, hp1, hiff, hsz⟩ := hI
  unfold w_law_same_b2
  rcases List.eq_nil_or_concat st with rfl | ⟨st, ⟨a, b⟩, rfl⟩
  · walk_at "w"
    exact ⟨μ, le.um hp, hq true (by simpa using hiff)⟩
  · have fin : ∀ m, a ≠ b → dwn Q (.bl false) (um μ p m) := fun m n => ⟨μ, le.um hp, hq false (by
      simp only [List.concat_eq_append, List.mem_append, List.mem_singleton] at hiff
      rw [← hiff]
      simp only [Bool.false_eq_true, false_iff]
      exact fun z => n (z (a, b) (.inr rfl)))⟩
    have hab := hp1 (a, b) (by simp)
    have ha : pd a = true := hab.1
    have hb : pd b = true := hab.2
    have nxt : ∀ r3 r4 r5 r6 r7, a = b → wk NX [some one, some two, some (.mut p), r3, r4, r5, r6, r7] (um μ p (.lst (st.map fun q => .tup [q.1, q.2]))) := fun r3 r4 r5 r6 r7 e => wk.of (hNX _ _ ⟨st, r3, r4, r5, r6, r7, rfl, rfl, fun q hq => hp1 q (by simp [hq]), by
      rw [← hiff]
      simp only [List.concat_eq_append, List.mem_append, List.mem_singleton]
      exact ⟨fun z q hq => hq.elim (z q) (fun w => by rw [w]; exact e), fun z q hq => z q (.inl hq)⟩, by
      simp only [List.concat_eq_append, List.map_append, List.sum_append, List.map_cons, List.map_nil, List.sum_cons, List.sum_nil] at hsz
      have := sz_pos b
      omega⟩)
    simp only [List.concat_eq_append, List.map_append, List.map_cons, List.map_nil]
    walk_at "w"
    simp only [List.getLast?_concat, List.dropLast_concat, List.length_append, List.length_cons, List.length_nil]
    rw [if_neg (by omega)]
    walk_at "w"
    cases b <;> first | (cases hb; done) | (cases a <;> first | (cases ha; done) | skip)
    all_goals (walk_at "s"; try walk_at "w"; try walk_at "s")
    all_goals (refine ⟨⟨p, _, rfl, um_same⟩, ?_⟩; try refine ⟨⟨_, rfl⟩, ?_⟩)
    all_goals first | exact fin _ (fun z => nomatch z) | exact nxt _ _ _ _ _ rfl | (refine ite2 (fun c => nxt _ _ _ _ _ ?_) (fun c => fin _ fun z => c ?_) <;> first | (rw [eq_of_beq c]; done) | (rw [c]; done) | (cases z; exact beq_self_eq_true _) | (cases z; rfl)) | skip
    all_goals (
      rename_i m l
      refine ite2 (fun c => ?_) (fun c => fin _ (fun z => c (by cases z; rfl)))
      have c : l.length = m.length := by omega
      have hm : i + ((st.map fun q => szD q.2).sum + (1 + szs m)) ≤ n := by
        simp only [List.concat_eq_append, List.map_append, List.sum_append, List.map_cons, List.map_nil, List.sum_cons, List.sum_nil] at hsz
        exact hsz
      have e1 := szs_len m
      have e2 := sum_len st
      refine ⟨⟨by omega, by omega⟩, fun j ρ μ' => ∃ r7, μ' = um μ p (.lst ((st ++ (l.zip m).take j).map fun q => .tup [q.1, q.2])) ∧ ρ = [some one, some two, some (.mut p), some d, some _, some _, r6, r7], ⟨r7, by rw [List.take_zero, List.append_nil], rfl⟩, fun _ _ _ _ => trivial, ?_, ?_⟩
      · rintro j dj ρ μ' hdj ⟨r7, rfl, rfl⟩
        rw [fixi] at hdj
        obtain ⟨hj, rfl⟩ := rng_at hdj
        have hj : j < m.length := by omega
        unfold w_law_same_b1
        walk_at "w"
        rw [Int.zero_add, atI_0, atI_0, List.getElem?_eq_getElem (by omega), List.getElem?_eq_getElem hj]
        refine ⟨⟨p, _, rfl, um_same⟩, by decide, ?_, wk.of ⟨_, ?_, rfl⟩⟩
        · rw [List.length_map, List.length_append, List.length_take]; omega
        · rw [List.take_succ, List.getElem?_eq_getElem (by rw [List.length_zip]; omega), List.getElem_zip]
          simp only [Option.toList_some, List.map_append, List.map_cons, List.map_nil, List.append_assoc]
      · rintro ρ μ' ⟨r7, rfl, rfl⟩
        rw [fixi, rng_len, List.take_of_length_le (by rw [List.length_zip]; omega)]
        refine wk.of (hNX _ _ ⟨_, _, _, _, _, _, rfl, rfl, ?_, ?_, ?_⟩)
        · intro q hq
          rcases List.mem_append.mp hq with hq | hq
          · exact hp1 q (by simp [hq])
          · have := List.of_mem_zip (a := q.1) (b := q.2) hq
            exact ⟨pds_mem ha this.1, pds_mem hb this.2⟩
        · rw [← hiff]
          simp only [List.concat_eq_append, List.mem_append, List.mem_singleton]
          have z := zip_eq c
          refine ⟨fun w q hq => hq.elim (fun h => w q (.inl h)) (fun h => ?_), fun w q hq => hq.elim (fun h => w q (.inl h)) (fun h => ?_)⟩
          · rw [h, z.mp fun q h => w q (.inr h)]
          · have := w _ (.inr rfl)
            cases this
            exact z.mpr rfl q h
        · rw [List.map_append, List.sum_append, zip_sz c]
          omega)
theorem pure_law_same (A : Ad) (ds μ Q E0) (h : c_law_same A ds μ Q E0) : w_law_same A (fun C fs _ μ => dwx E0 C fs μ) (rets Q) (st0 8 ds) μ := by
  unfold c_law_same at h
  split at h
  · rename_i q m
    obtain ⟨l, hq0, h1, h2, hz, hq⟩ := h
    unfold w_law_same
    walk_at "w"
    refine ⟨by decide, by decide, fun p hp => ⟨by decide, fun i ρ μ' => (i = 0 ∧ μ' = um μ p (.lst [.tup [.mut q, .lst m]]) ∧ ∃ r3 r4 r5 r6 r7 : Option D, ρ = [some (.mut q), some (.lst m), some (.mut p), r3, r4, r5, r6, r7]) ∨ I_same (.mut q) (.lst m) (l = m) (1 + szs m) μ p i ρ μ', .inl ⟨rfl, rfl, _, _, _, _, _, rfl⟩, fun _ _ _ _ => trivial, ?_, ?_⟩⟩
    · rintro i d ρ μ' hd (⟨rfl, rfl, r3, r4, r5, r6, r7, rfl⟩ | hI)
      · have hpq : q ≠ p := ne_nm hq0 hp
        have fin : ∀ x, l ≠ m → dwn Q (.bl false) (um μ p x) := fun x n => ⟨μ, le.um hp, hq false ⟨fun z => (nomatch z), fun z => absurd z n⟩⟩
        unfold w_law_same_b2
        walk_at "w"
        rw [if_neg (by decide)]
        try walk_at "w"
        refine ⟨⟨p, _, rfl, um_same⟩, ?_⟩
        have g1 : [D.tup [.mut q, .lst m]].getLast? = some (D.tup [.mut q, .lst m]) := rfl
        have g2 : [D.tup [.mut q, .lst m]].dropLast = [] := rfl
        rw [g1, g2]
        dsimp only
        simp (decide := true) only [tyD, isN, um_ne hpq, hq0, List.length_cons, List.length_nil, if_true, if_false, true_and, ite_true, ite_false, Bool.not_true, Bool.not_false]
        have e1 := szs_len m
        refine ite2 (fun c => ?_) (fun c => fin _ (fun z => c (by rw [z])))
        have c : l.length = m.length := by omega
        refine ⟨⟨by omega, by omega⟩, fun j ρ μ' => ∃ r7, μ' = um μ p (.lst (((l.zip m).take j).map fun q => .tup [q.1, q.2])) ∧ ρ = [some (.mut q), some (.lst m), some (.mut p), some d, some (.mut q), some (.lst m), r6, r7], ⟨r7, by rw [List.take_zero]; rfl, rfl⟩, fun _ _ _ _ => trivial, ?_, ?_⟩
        · rintro j dj ρ μ' hdj ⟨r7, rfl, rfl⟩
          rw [fixi] at hdj
          obtain ⟨hj, rfl⟩ := rng_at hdj
          have hj : j < m.length := by omega
          unfold w_law_same_b1
          walk_at "w"
          rw [um_ne hpq, hq0]
          dsimp only
          rw [Int.zero_add, atI_0, atI_0, List.getElem?_eq_getElem (by omega), List.getElem?_eq_getElem hj]
          refine ⟨⟨p, _, rfl, um_same⟩, by decide, ?_, wk.of ⟨_, ?_, rfl⟩⟩
          · rw [List.length_map, List.length_take]; omega
          · rw [List.take_succ, List.getElem?_eq_getElem (by rw [List.length_zip]; omega), List.getElem_zip]
            simp only [Option.toList_some, List.map_append, List.map_cons, List.map_nil]
        · rintro ρ μ' ⟨r7, rfl, rfl⟩
          rw [fixi, rng_len, List.take_of_length_le (by rw [List.length_zip]; omega)]
          refine wk.of (.inr ⟨l.zip m, _, _, _, _, _, rfl, rfl, fun x hx => ?_, zip_eq c, ?_⟩)
          · have := List.of_mem_zip (a := x.1) (b := x.2) hx
            exact ⟨pds_mem h1 this.1, pds_mem h2 this.2⟩
          · rw [zip_sz c]
            exact Nat.le_refl _
      · exact same_step A hp hz hq i d ρ μ' hI (fun ρ μ' h => .inr h)
    · rintro ρ μ' (⟨h0, _⟩ | ⟨st, r3, r4, r5, r6, r7, rfl, rfl, hp1, hiff, hsz⟩)
      · rw [fixi, rng_len] at h0; cases h0
      · exfalso
        rw [fixi, rng_len] at hsz
        omega
  · rename_i one two _
    obtain ⟨h1, h2, hz, hq⟩ := h
    unfold w_law_same
    walk_at "w"
    refine ⟨by decide, by decide, fun p hp => ⟨by decide, I_same one two (one = two) (szD two) μ p, ⟨[(one, two)], _, _, _, _, _, rfl, rfl, ?_, ?_, ?_⟩, fun _ _ _ _ => trivial, fun i d ρ μ' hd hI => same_step A hp hz hq i d ρ μ' hI (fun ρ μ' h => h), ?_⟩⟩
    · simp [h1, h2]
    · simp
    · simp
    · rintro ρ μ' ⟨st, r3, r4, r5, r6, r7, rfl, rfl, hp1, hiff, hsz⟩
      exfalso
      rw [fixi, rng_len] at hsz
      omega
  · exact h.elim
theorem len_law_same (A : Ad) : ∀ ds μ Q E, c_law_same A ds μ Q E → ds.length = 2 := by
  intro ds μ Q E h
  unfold c_law_same at h
  first | (split at h) | (split at h)
  all_goals first | rfl | exact h.elim
theorem ok_law_same {P : Program} {w : World} {K : PySem.W.Frag} {mg : Str → Option Value} {base : Heap} {A : Ad} (D : Dfn K mg "_law_same" "_law_same" s_law_same ["told", "wanted"]) (T : Tx P base K mg A) (G_law_number : DfOk P w K mg base "_law_number" 1 ["told"] (c_law_number A)) : DfOk P w K mg base "_law_same" 2 ["told", "wanted"] (c_law_same A) := by
  obtain ⟨f, fd, F, hm, hb⟩ := D
  refine ⟨f, fd, okD F sc_law_same (by decide) (len_law_same A) ?_, hm, F.kp, hb⟩
  intro X W E cdv B outer s H Ex hX tk hp hr
  subst hX
  exact ⟨_, w_law_same A E, (scons (sset (i := 2) (elst (acons (etup (acons (ev 0) (acons (ev 1) anil))) anil)) sc_law_same.nd)
  (scons (sfor hp (ir1 T.b_range (acons ei anil)) (gnm 3 sc_law_same.nd) (scons (sif (tc' op_eq do_eq (ecb call_len_seq dc_len T.b_len (acons (ev 2) anil)) ei) (sone (sret eb)) snil)
  (scons (sasg (epop (ev 2)) (gtp (n := 2) (gcn (gnm 4 sc_law_same.nd) (gcn (gnm 5 sc_law_same.nd) gnl))))
  (sone (sif (tbo (tor (tc' op_isN do_isN (ev 5) en) (tor1 (tval (eisi .bl T.b_isinstance T.b_bool (by decide +kernel) (ev 5)))))) (sone (sif (tnot (tbo (tor (tbo (tand (tc' op_isN do_isN (ev 4) en) (tand1 (tc' op_isN do_isN (ev 5) en)))) (tor1 (tbo (tand (tval (eisi .bl T.b_isinstance T.b_bool (by decide +kernel) (ev 4))) (tand (tval (eisi .bl T.b_isinstance T.b_bool (by decide +kernel) (ev 5))) (tand1 (tc' op_eq do_eq (ev 4) (ev 5)))))))))) (sone (sret eb)) snil)) (sone (sif (tval (eisi .int T.b_isinstance T.b_int (by decide +kernel) (ev 5))) (sone (sif (tbo (tor (tnot (tval (ecall2 tk G_law_number (hr.mono (by decide)) (acons (ev 4) anil)))) (tor1 (tc' op_ne do_ne (ev 4) (ev 5))))) (sone (sret eb)) snil)) (sone (sif (tval (eisi .str T.b_isinstance T.b_str (by decide +kernel) (ev 5))) (sone (sif (tbo (tor (tnot (tval (eisi .str T.b_isinstance T.b_str (by decide +kernel) (ev 4)))) (tor1 (tc' op_ne do_ne (ev 4) (ev 5))))) (sone (sret eb)) snil)) (sone (sif (tval (eisi .dic T.b_isinstance T.b_dict (by decide +kernel) (ev 5))) snever (scons (sif (tbo (tor (tc' op_ne do_ne (eisi .tup T.b_isinstance T.b_tuple (by decide +kernel) (ev 5)) (eisi .tup T.b_isinstance T.b_tuple (by decide +kernel) (ev 4))) (tor1 (tc' op_ne do_ne (eisi .lst T.b_isinstance T.b_list (by decide +kernel) (ev 5)) (eisi .lst T.b_isinstance T.b_list (by decide +kernel) (ev 4)))))) (sone (sret eb)) snil)
  (scons (sif (tbo (tor (tbo (tand (tnot (tval (eisi .tup T.b_isinstance T.b_tuple (by decide +kernel) (ev 4)))) (tand1 (tnot (tval (eisi .lst T.b_isinstance T.b_list (by decide +kernel) (ev 4))))))) (tor1 (tc' op_ne do_ne (ecb call_len_seq dc_len T.b_len (acons (ev 4) anil)) (ecb call_len_seq dc_len T.b_len (acons (ev 5) anil)))))) (sone (sret eb)) snil)
  (sone (sfor hp (ir1 T.b_range (acons (ecb call_len_seq dc_len T.b_len (acons (ev 5) anil)) anil)) (gnm 7 sc_law_same.nd) (sone (sexpr (eapp (ev 2) (acons (etup (acons (eix (ev 4) (ev 7)) (acons (eix (ev 5) (ev 7)) anil))) anil)))))))))))))))))))
  (sone (sret eb)))), fun ds μ Q E0 hc hE => by subst hE; exact pure_law_same A ds μ Q E0 hc⟩
end K03
set_option maxHeartbeats 800000
namespace K03
open PySem L2 DL
local macro_rules | `(tactic| walk_at "w") => `(tactic| simp only [wSeq, wNext, wIf, wRet, wRetN, wDrop, wAsg, gN, wVar, wC, wOp, wUn, wNil, wCons, wCB, wTup, wLst, wLstF, wTe, tB0, wAnd, wOr, wNot, wAndV, wOrV, wNotV, wIfE, wCall, wCallG, wRaise, wFrz, fFrz, rets, fI, fI0, fAdd, fSub, fMul, fLt, fLe, fGt, fGe, fMod, fModN, fPow, fDiv, fDivG, fNeg, fEq, fNe, eqF_int, eqF_bl, eqF_str, scal_int, scal_bl, scal_str, fLen, sv, fIx, fAbs, fInt, fList, wSl, fSlL, oNo, oSo, lvr, lv, fCat, wMeL, fApp, fPop, fSetL, gSb, iLs, iTp, iR1, iR2, wFor, gTp, gCn, gNl, wPar, wBrk, wCnt, fIsi, wIsx, wLc, wYes, wip, wTr, truD, wTry, clrD, wFld, fieldsD, wSetF, wMeth, wMake, fStrI, fFmt, wJoin, wJs, wChain, wRev, fRev, wDNew, wDNewF, wDsp1, wDsp1F, fAddS, fIsN, fNotN, um_same, um_um, st0, List.map_cons, List.map_nil, List.length_cons, List.length_nil, List.getElem?_cons_zero, List.getElem?_cons_succ, List.set_cons_zero, List.set_cons_succ, List.cons_append, List.nil_append, List.replicate, atI_c0, atI_c1, atI_c2, atI_c3, atI_c4, atI_c5, atI_c6, ixN_70, ixN_71, ixN_72, ixN_73, ixN_74, ixN_75, ixN_76, Nat.reduceAdd, ite_T, ite_F, if_dec, if_ndec, if_nb, true_and, if_true, Bool.false_eq_true, if_false])
/-! ### what a catalogue refuses -/
def tI (ns : List Int) : D := .tup (ns.map D.int)
def inB (hi : Int) (n : Int) : Bool := decide (1 ≤ n) && decide (n ≤ hi)
theorem inB_yes {hi n : Int} (h : 1 ≤ n ∧ n ≤ hi) : inB hi n = true := by
  unfold inB
  rw [decide_eq_true h.1, decide_eq_true h.2]; rfl
theorem inB_no {hi n : Int} (h : ¬ (1 ≤ n ∧ n ≤ hi)) : inB hi n = false := by
  unfold inB
  by_cases c : 1 ≤ n
  · rw [decide_eq_false (p := n ≤ hi) fun z => h ⟨c, z⟩, Bool.and_false]
  · rw [decide_eq_false c, Bool.false_and]
def c_check_size (A : Ad) : Ct := fun ds μ Q E => match ds with
  | [.tup l, .int axes] => ∃ ns : List Int, l = ns.map D.int ∧ if ((ns.length : Nat) : Int) = axes then (if ns.all (inB 1000000) = true then Q .non μ else E A.BadSize [] μ) else E A.BadVector [] μ
  | _ => False
abbrev s_check_size : Stmt := top 35
theorem sc_check_size : FnScope ["size", "axes", "side"] ["size", "axes"] (defScope s_check_size) := ⟨rfl, rfl, rfl, by decide +kernel, rfl, by decide +kernel, by decide +kernel⟩
def w_check_size_b1 (A : Ad) (E : EX) : WS := (wIf (wOr (wTe (wOp fLt (wVar 2) (wC (.int (1))))) (wTe (wOp fGt (wVar 2) (wC (.int (1000000)))))) (wRaise A.BadSize E) wNext)
def w_check_size_1 (A : Ad) (E : EX) : WS := (wFor (iTp (wVar 0)) (gN 2) (w_check_size_b1 A E))
def w_check_size (A : Ad) (E : EX) : WS := (wSeq (wIf (wTe (wOp fNe (wCB fLen (wCons (wVar 0) wNil)) (wVar 1))) (wRaise A.BadVector E) wNext)
  (w_check_size_1 A E))
theorem pure_check_size (A : Ad) (ds μ Q E0) (h : c_check_size A ds μ Q E0) : w_check_size A (fun C fs _ μ => dwx E0 C fs μ) (rets Q) (st0 3 ds) μ := by
  unfold c_check_size at h
  split at h
  · rename_i l axes
    obtain ⟨ns, rfl, h⟩ := h
    unfold w_check_size
    walk_at "w"
    rw [List.length_map]
    refine ite2 (fun c => ?_) (fun c => ?_)
    · rw [if_pos c] at h
      unfold w_check_size_1
      refine chk_tp (f := D.int) (L := ns) (ok := inB 1000000) rfl rfl (fun x r NX hx hg hb => ?_) (fun ha r => ?_)
      · unfold w_check_size_b1
        walk_at "w"
        have bad : ¬ (1 ≤ x ∧ x ≤ 1000000) → dwx E0 A.BadSize [] μ := fun c => by
          rw [hb (inB_no c), if_neg Bool.false_ne_true] at h
          exact dwx.of h
        refine ite2 (fun c => bad (by omega)) (fun c => ite2 (fun c => bad (by omega)) (fun c2 => wk.of (hg (inB_yes (by omega)))))
      · rw [ha, if_pos rfl] at h
        exact dwn.of h
    · rw [if_neg c] at h
      exact dwx.of h
  · exact h.elim
theorem len_check_size (A : Ad) : ∀ ds μ Q E, c_check_size A ds μ Q E → ds.length = 2 := by
  intro ds μ Q E h
  unfold c_check_size at h
  first | (split at h) | (split at h)
  all_goals first | rfl | exact h.elim
theorem ok_check_size {P : Program} {w : World} {K : PySem.W.Frag} {mg : Str → Option Value} {base : Heap} {A : Ad} (D : Dfn K mg "check_size" "check_size" s_check_size ["size", "axes"]) (T : Tx P base K mg A)  : DfOk P w K mg base "check_size" 4 ["size", "axes"] (c_check_size A) := by
  obtain ⟨f, fd, F, hm, hb⟩ := D
  refine ⟨f, fd, okD F sc_check_size (by decide) (len_check_size A) ?_, hm, F.kp, hb⟩
  intro X W E cdv B outer s H Ex hX tk hp hr
  subst hX
  exact ⟨_, w_check_size A E, (scons (sif (tc' op_ne do_ne (ecb call_len_seq dc_len T.b_len (acons (ev 0) anil)) (ev 1)) (sone (sraise0 tk (pmk_own0 T.x_BadVector))) snil)
  (sone (sfor hp (it (ev 0)) (gnm 2 sc_check_size.nd) (sone (sif (tbo (tor (tc' op_lt do_lt (ev 2) ei) (tor1 (tc' op_gt do_gt (ev 2) (eg rfl T.g_LONGEST.choose_spec.1 T.g_LONGEST.choose_spec.2 rfl rfl))))) (sone (sraise0 tk (pmk_own0 T.x_BadSize))) snil))))), fun ds μ Q E0 hc hE => by subst hE; exact pure_check_size A ds μ Q E0 hc⟩
/-- the earliest refusal -/
def verdict (ps : List Int) (szs : List (List Int)) : Option Str :=
  if ps.length < 1 ∨ 5 < ps.length then some "BadVector"
  else if szs.all (fun s => decide (s.length = ps.length)) = false then some "BadVector"
  else if szs.all (fun s => s.all (inB 1000000)) = false then some "BadSize"
  else if ps.all (inB 1000) = false then some "BadCatalogue" else none
def c_check_catalogue (A : Ad) : Ct := fun ds μ Q E => match ds with
  | [.tup pl, d] => ∃ (ps : List Int) (szs : List (List Int)), pl = ps.map D.int ∧ lv μ d = some (szs.map tI) ∧ (match verdict ps szs with
    | some x => E (A.g x) [] μ
    | none => Q .non μ)
  | _ => False
abbrev s_check_catalogue : Stmt := top 36
theorem sc_check_catalogue : FnScope ["pitch", "sizes", "axes", "size", "step"] ["pitch", "sizes"] (defScope s_check_catalogue) := ⟨rfl, rfl, rfl, by decide +kernel, rfl, by decide +kernel, by decide +kernel⟩
def w_check_catalogue_b1 (A : Ad) (E : EX) : WS := (wIf (wOr (wTe (wOp fLt (wVar 4) (wC (.int (1))))) (wTe (wOp fGt (wVar 4) (wC (.int (1000)))))) (wRaise A.BadCatalogue E) wNext)
def w_check_catalogue_4 (A : Ad) (E : EX) : WS := (wFor (iTp (wVar 0)) (gN 4) (w_check_catalogue_b1 A E))
def w_check_catalogue_b2 (A : Ad) (E : EX) : WS := (wDrop (wCall (c_check_size A) E (wCons (wVar 3) (wCons (wVar 2) wNil))))
def w_check_catalogue_3 (A : Ad) (E : EX) : WS := (wSeq (wFor (iLs (wVar 1)) (gN 3) (w_check_catalogue_b2 A E))
  (w_check_catalogue_4 A E))
def w_check_catalogue_b3 (A : Ad) (E : EX) : WS := (wIf (wTe (wOp fNe (wCB fLen (wCons (wVar 3) wNil)) (wVar 2))) (wRaise A.BadVector E) wNext)
def w_check_catalogue_2 (A : Ad) (E : EX) : WS := (wSeq (wFor (iLs (wVar 1)) (gN 3) (w_check_catalogue_b3 A E))
  (w_check_catalogue_3 A E))
def w_check_catalogue_1 (A : Ad) (E : EX) : WS := (wSeq (wIf (wOr (wTe (wOp fLt (wVar 2) (wC (.int (1))))) (wTe (wOp fGt (wVar 2) (wC (.int (5)))))) (wRaise A.BadVector E) wNext)
  (w_check_catalogue_2 A E))
def w_check_catalogue (A : Ad) (E : EX) : WS := (wSeq (wAsg (wCB fLen (wCons (wVar 0) wNil)) (gN 2))
  (w_check_catalogue_1 A E))
theorem pure_check_catalogue (A : Ad) (ds μ Q E0) (h : c_check_catalogue A ds μ Q E0) : w_check_catalogue A (fun C fs _ μ => dwx E0 C fs μ) (rets Q) (st0 5 ds) μ := by
  unfold c_check_catalogue at h
  split at h
  · rename_i pl d
    obtain ⟨ps, szs, rfl, el, h⟩ := h
    unfold verdict at h
    have r4 : ∀ r3 : Option D, (if ps.all (inB 1000) = true then Q .non μ else E0 A.BadCatalogue [] μ) → w_check_catalogue_4 A (fun C fs x μ => dwx E0 C fs μ) (rets Q) [some (.tup (ps.map D.int)), some d, some (.int (ps.length : Nat)), r3, none] μ := by
      intro r3 h
      unfold w_check_catalogue_4
      refine chk_tp (f := D.int) (L := ps) (ok := inB 1000) rfl rfl (fun x r NX hx hg hb => ?_) (fun ha r => ?_)
      · unfold w_check_catalogue_b1
        walk_at "w"
        have bad : ¬ (1 ≤ x ∧ x ≤ 1000) → dwx E0 A.BadCatalogue [] μ := fun c => by
          rw [hb (inB_no c), if_neg Bool.false_ne_true] at h
          exact dwx.of h
        refine ite2 (fun c => bad (by omega)) (fun c => ite2 (fun c => bad (by omega)) (fun c2 => wk.of (hg (inB_yes (by omega)))))
      · rw [ha, if_pos rfl] at h
        exact dwn.of h
    have r3 : ∀ r3 : Option D, szs.all (fun s => decide (s.length = ps.length)) = true → (if szs.all (fun s => s.all (inB 1000000)) = true then (if ps.all (inB 1000) = true then Q .non μ else E0 A.BadCatalogue [] μ) else E0 A.BadSize [] μ) → w_check_catalogue_3 A (fun C fs x μ => dwx E0 C fs μ) (rets Q) [some (.tup (ps.map D.int)), some d, some (.int (ps.length : Nat)), r3, none] μ := by
      intro r3 hl h
      unfold w_check_catalogue_3 wSeq
      refine chk_lv (f := tI) (L := szs) (ok := fun s => s.all (inB 1000000)) el rfl rfl (fun x r NX hx hg hb => ?_) (fun ha r => ?_)
      · unfold w_check_catalogue_b2 tI
        walk_at "w"
        have lx : x.length = ps.length := of_decide_eq_true (List.all_eq_true.mp hl x hx)
        refine ⟨x, rfl, ?_⟩
        rw [if_pos (by rw [lx])]
        cases c : x.all (inB 1000000) with
        | true => exact wk.of (hg c)
        | false =>
          rw [hb c, if_neg Bool.false_ne_true] at h
          exact dwx.of h
      · rw [ha, if_pos rfl] at h
        exact r4 _ h
    have r2 : (if szs.all (fun s => decide (s.length = ps.length)) = true then (if szs.all (fun s => s.all (inB 1000000)) = true then (if ps.all (inB 1000) = true then Q .non μ else E0 A.BadCatalogue [] μ) else E0 A.BadSize [] μ) else E0 A.BadVector [] μ) → w_check_catalogue_2 A (fun C fs x μ => dwx E0 C fs μ) (rets Q) [some (.tup (ps.map D.int)), some d, some (.int (ps.length : Nat)), none, none] μ := by
      intro h
      unfold w_check_catalogue_2 wSeq
      refine chk_lv (f := tI) (L := szs) (ok := fun s => decide (s.length = ps.length)) el rfl rfl (fun x r NX hx hg hb => ?_) (fun ha r => ?_)
      · unfold w_check_catalogue_b3 tI
        walk_at "w"
        rw [List.length_map]
        refine ite2 (fun c => wk.of (hg (decide_eq_true (by omega)))) (fun c => ?_)
        rw [hb (decide_eq_false (by omega)), if_neg Bool.false_ne_true] at h
        exact dwx.of h
      · rw [if_pos ha] at h
        exact r3 _ ha h
    have h' : if ps.length < 1 ∨ 5 < ps.length then E0 A.BadVector [] μ else (if szs.all (fun s => decide (s.length = ps.length)) = true then (if szs.all (fun s => s.all (inB 1000000)) = true then (if ps.all (inB 1000) = true then Q .non μ else E0 A.BadCatalogue [] μ) else E0 A.BadSize [] μ) else E0 A.BadVector [] μ) := by
      by_cases c : ps.length < 1 ∨ 5 < ps.length
      · rw [if_pos c] at h ⊢; exact h
      · rw [if_neg c] at h ⊢
        cases c1 : szs.all (fun s => decide (s.length = ps.length)) with
        | false => rw [c1, if_pos rfl] at h; exact h
        | true =>
          rw [c1, if_neg (by decide)] at h
          rw [if_pos rfl]
          cases c2 : szs.all (fun s => s.all (inB 1000000)) with
          | false => rw [c2, if_pos rfl] at h; exact h
          | true =>
            rw [c2, if_neg (by decide)] at h
            rw [if_pos rfl]
            cases c3 : ps.all (inB 1000) with
            | false => rw [c3, if_pos rfl] at h; exact h
            | true => rw [c3, if_neg (by decide)] at h; exact h
    unfold w_check_catalogue
    walk_at "w"
    rw [List.length_map]
    unfold w_check_catalogue_1
    walk_at "w"
    refine ite2 (fun c => ?_) (fun c => ite2 (fun c2 => ?_) (fun c2 => ?_))
    · rw [if_pos (.inl (by omega))] at h'; exact dwx.of h'
    · rw [if_pos (.inr (by omega))] at h'; exact dwx.of h'
    · rw [if_neg (by omega)] at h'; exact r2 h'
  · exact h.elim
theorem len_check_catalogue (A : Ad) : ∀ ds μ Q E, c_check_catalogue A ds μ Q E → ds.length = 2 := by
  intro ds μ Q E h
  unfold c_check_catalogue at h
  first | (split at h) | (split at h)
  all_goals first | rfl | exact h.elim
theorem ok_check_catalogue {P : Program} {w : World} {K : PySem.W.Frag} {mg : Str → Option Value} {base : Heap} {A : Ad} (D : Dfn K mg "check_catalogue" "check_catalogue" s_check_catalogue ["pitch", "sizes"]) (T : Tx P base K mg A) (G_check_size : DfOk P w K mg base "check_size" 4 ["size", "axes"] (c_check_size A)) : DfOk P w K mg base "check_catalogue" 5 ["pitch", "sizes"] (c_check_catalogue A) := by
  obtain ⟨f, fd, F, hm, hb⟩ := D
  refine ⟨f, fd, okD F sc_check_catalogue (by decide) (len_check_catalogue A) ?_, hm, F.kp, hb⟩
  intro X W E cdv B outer s H Ex hX tk hp hr
  subst hX
  exact ⟨_, w_check_catalogue A E, (scons (sset (i := 2) (ecb call_len_seq dc_len T.b_len (acons (ev 0) anil)) sc_check_catalogue.nd)
  (scons (sif (tbo (tor (tc' op_lt do_lt (ev 2) ei) (tor1 (tc' op_gt do_gt (ev 2) (eg rfl T.g_MOST_AXES.choose_spec.1 T.g_MOST_AXES.choose_spec.2 rfl rfl))))) (sone (sraise0 tk (pmk_own0 T.x_BadVector))) snil)
  (scons (sfor hp (il (ev 1)) (gnm 3 sc_check_catalogue.nd) (sone (sif (tc' op_ne do_ne (ecb call_len_seq dc_len T.b_len (acons (ev 3) anil)) (ev 2)) (sone (sraise0 tk (pmk_own0 T.x_BadVector))) snil)))
  (scons (sfor hp (il (ev 1)) (gnm 3 sc_check_catalogue.nd) (sone (sexpr (ecall2 tk G_check_size (hr.mono (by decide)) (acons (ev 3) (acons (ev 2) anil))))))
  (sone (sfor hp (it (ev 0)) (gnm 4 sc_check_catalogue.nd) (sone (sif (tbo (tor (tc' op_lt do_lt (ev 4) ei) (tor1 (tc' op_gt do_gt (ev 4) (eg rfl T.g_WIDEST.choose_spec.1 T.g_WIDEST.choose_spec.2 rfl rfl))))) (sone (sraise0 tk (pmk_own0 T.x_BadCatalogue))) snil)))))))), fun ds μ Q E0 hc hE => by subst hE; exact pure_check_catalogue A ds μ Q E0 hc⟩
end K03
set_option maxHeartbeats 800000
namespace K03
open PySem L2 DL
local macro_rules | `(tactic| walk_at "w") => `(tactic| simp only [wSeq, wNext, wIf, wRet, wRetN, wDrop, wAsg, gN, wVar, wC, wOp, wUn, wNil, wCons, wCB, wTup, wLst, wLstF, wTe, tB0, wAnd, wOr, wNot, wAndV, wOrV, wNotV, wIfE, wCall, wCallG, wRaise, wFrz, fFrz, rets, fI, fI0, fAdd, fSub, fMul, fLt, fLe, fGt, fGe, fMod, fModN, fPow, fDiv, fDivG, fNeg, fEq, fNe, eqF_int, eqF_bl, eqF_str, scal_int, scal_bl, scal_str, fLen, sv, fIx, fAbs, fInt, fList, wSl, fSlL, oNo, oSo, lvr, lv, fCat, wMeL, fApp, fPop, fSetL, gSb, iLs, iTp, iR1, iR2, wFor, gTp, gCn, gNl, wPar, wBrk, wCnt, fIsi, wIsx, wLc, wYes, wip, wTr, truD, wTry, clrD, wFld, fieldsD, wSetF, wMeth, wMake, fStrI, fFmt, wJoin, wJs, wChain, wLc2, wLR, wProp, fRepT, wDIn, wDNewT, fSetD, iR3, gLs, fIns, fPopAt, fClear, fTuple, fMin2, fMaxL, fAny, iEn, wRev, fRev, wDNew, wDNewF, wDsp1, wDsp1F, fAddS, fIsN, fNotN, um_same, um_um, st0, List.map_cons, List.map_nil, List.length_cons, List.length_nil, List.getElem?_cons_zero, List.getElem?_cons_succ, List.set_cons_zero, List.set_cons_succ, List.cons_append, List.nil_append, List.replicate, atI_c0, atI_c1, atI_c2, atI_c3, atI_c4, atI_c5, atI_c6, ixN_70, ixN_71, ixN_72, ixN_73, ixN_74, ixN_75, ixN_76, Nat.reduceAdd, ite_T, ite_F, if_dec, if_ndec, if_nb, true_and, if_true, Bool.false_eq_true, if_false])
/-- the different ones, in order -/
def once (szs : List (List Int)) : List (List Int) := szs.foldl (fun acc s => if s ∈ acc then acc else acc ++ [s]) []
def c_each_once (A : Ad) : Ct := fun ds μ Q _ => match ds with
  | [d] => ∃ szs : List (List Int), lv μ d = some (szs.map tI) ∧ szs.length ≤ 1000 ∧ Q (.lst ((once szs).map tI)) μ
  | _ => False
abbrev s_each_once : Stmt := top 37
theorem sc_each_once : FnScope ["sizes", "seen", "told", "size"] ["sizes"] (defScope s_each_once) := ⟨rfl, rfl, rfl, by decide +kernel, rfl, by decide +kernel, by decide +kernel⟩
def w_each_once_b1 (A : Ad) (E : EX) : WS := (wIf (wTe (wDIn true (wVar 3) (wVar 1))) (wSeq (wAsg (wC (.bl true)) (gSb fSetD (wVar 1) (wVar 3)))
  (wDrop (wMeL fApp (wVar 2) (wCons (wVar 3) wNil)))) wNext)
def w_each_once_2 (A : Ad) (E : EX) : WS := (wSeq (wFor (iLs (wVar 0)) (gN 3) (w_each_once_b1 A E))
  (wRet (wFrz (wVar 2))))
def w_each_once_1 (A : Ad) (E : EX) : WS := (wSeq (wAsg (wLst wNil) (gN 2))
  (w_each_once_2 A E))
def w_each_once (A : Ad) (E : EX) : WS := (wSeq (wAsg wDNewT (gN 1))
  (w_each_once_1 A E))
def kOf (s : List Int) : List Key := s.map Sum.inl
theorem kOf_inj : ∀ {s t : List Int}, kOf s = kOf t → s = t
  | [], [], _ => rfl
  | a :: s, b :: t, h => by
    have h : (Sum.inl a : Key) :: kOf s = Sum.inl b :: kOf t := h
    injection h with h1 h2
    injection h1 with h1
    rw [h1, kOf_inj h2]
theorem key_tI (s : List Int) : keyT (tI s) = some (kOf s) := by
  show keysD (s.map D.int) = _
  induction s with
  | nil => rfl
  | cons a s ih =>
    show ((keyD (.int a)).bind fun k => (keysD (s.map D.int)).map fun ks => k :: ks) = _
    rw [ih]; rfl
def seenL (L : List (List Int)) : List (List Key × D) := L.map fun s => (kOf s, .bl true)
theorem seen_get (L : List (List Int)) (x : List Int) : (getD' (seenL L) (kOf x)).isSome = decide (x ∈ L) := by
  unfold getD' seenL
  induction L with
  | nil => rfl
  | cons s L ih =>
    rw [List.map_cons, List.find?_cons]
    by_cases c : kOf s = kOf x
    · have : s = x := kOf_inj c
      subst this
      simp
    · have n : x ≠ s := fun e => c (by rw [e])
      rw [decide_eq_false c]
      dsimp only
      rw [ih]
      simp [n]
theorem seen_put {L : List (List Int)} {x : List Int} (h : x ∉ L) : putKD (seenL L) (kOf x) (.bl true) = seenL (L ++ [x]) := by
  have c : ((seenL L).any fun kv => decide (kv.1 = kOf x)) = false := by
    rw [List.any_eq_false]
    rintro ⟨k, v⟩ hk
    obtain ⟨s, hs, e⟩ := List.mem_map.mp hk
    cases e
    rw [decide_eq_true_eq]
    exact fun e => h (by rw [← kOf_inj e]; exact hs)
  unfold putKD
  rw [c, if_neg Bool.false_ne_true]
  unfold seenL
  rw [List.map_append]; rfl
theorem once_take {szs : List (List Int)} {i : Nat} {s : List Int} (h : szs[i]? = some s) : once (szs.take (i + 1)) = if s ∈ once (szs.take i) then once (szs.take i) else once (szs.take i) ++ [s] := by
  unfold once
  rw [List.take_succ, h, Option.toList_some, List.foldl_append]
  rfl
theorem once_len (szs : List (List Int)) : (once szs).length ≤ szs.length := by
  unfold once
  have : ∀ (l acc : List (List Int)), (l.foldl (fun acc s => if s ∈ acc then acc else acc ++ [s]) acc).length ≤ acc.length + l.length := by
    intro l
    induction l with
    | nil => intro acc; exact Nat.le_refl _
    | cons a l ih =>
      intro acc
      rw [List.foldl_cons]
      refine Nat.le_trans (ih _) ?_
      split
      · rw [List.length_cons]; omega
      · rw [List.length_append, List.length_cons, List.length_cons, List.length_nil]; omega
  have := this szs []
  simpa using this
theorem pure_each_once (A : Ad) (ds μ Q E0) (h : c_each_once A ds μ Q E0) : w_each_once A (fun C fs _ μ => dwx E0 C fs μ) (rets Q) (st0 4 ds) μ := by
  unfold c_each_once at h
  split at h
  · rename_i d
    obtain ⟨szs, el, hl, h⟩ := h
    unfold w_each_once
    walk_at "w"
    intro p hp
    unfold w_each_once_1
    walk_at "w"
    refine ⟨by decide, fun q hq => ?_⟩
    have hne : q ≠ p := fun e => by rw [e, um_same] at hq; cases hq
    rw [um_ne hne] at hq
    unfold w_each_once_2 wSeq
    have lq : ∀ X Y, le μ (um (um μ p X) q Y) := fun X Y => (le.um hp).trans (le.um (by rw [um_ne hne]; exact hq))
    refine for_lv2 (d := d) (lv_mono (lq _ _) el) rfl (fun i ρ' μ' => μ' = um (um μ p (.dT (seenL (once (szs.take i))))) q (.lst ((once (szs.take i)).map tI)) ∧ ∃ r3, ρ' = [some d, some (.mut p), some (.mut q), r3]) ⟨by rw [List.take_zero]; rfl, none, rfl⟩ (fun i ρ' μ' hI => by rw [hI.1]; exact lv_mono (lq _ _) el) ?_ ?_
    · rintro i e ρ' μ' he ⟨rfl, r3, rfl⟩
      rw [List.getElem?_map] at he
      cases hs : szs[i]? with
      | none => rw [hs] at he; cases he
      | some s =>
        rw [hs] at he
        obtain rfl : tI s = e := Option.some.inj he
        have hz := Nat.le_trans (once_len (szs.take i)) (by rw [List.length_take]; exact Nat.min_le_right _ _ : (szs.take i).length ≤ szs.length)
        have tk := once_take hs
        unfold w_each_once_b1
        walk_at "w"
        refine ⟨getD' (seenL (once (szs.take i))) (kOf s), ?_, ?_⟩
        · show (match um _ q _ p with | some (.dK kvs) => _ | some (.dT kvs) => _ | _ => _) = _
          rw [um_ne (Ne.symm hne), um_same, key_tI]; rfl
        · rw [seen_get]
          by_cases c : s ∈ once (szs.take i)
          · rw [if_pos c] at tk
            rw [decide_eq_true c]
            refine wk.of ⟨by rw [tk], _, rfl⟩
          · rw [if_neg c] at tk
            rw [decide_eq_false c]
            walk_at "w"
            rw [um_ne (Ne.symm hne), um_same]
            dsimp only
            refine ⟨by unfold seenL; rw [List.length_map]; omega, kOf s, key_tI s, ⟨q, (once (szs.take i)).map tI, rfl, by rw [um_ne hne, um_same]⟩, ?_⟩
            · rw [um_ne hne, um_same]
              refine ⟨by rw [List.length_map]; omega, wk.of ⟨?_, _, rfl⟩⟩
              rw [seen_put c, um_swap hne, um_um, um_um, tk, List.map_append]
              rfl
    · rintro ρ' μ' ⟨rfl, r3, rfl⟩
      rw [List.length_map, List.take_length]
      walk_at "w"
      rw [rm_um (by rw [um_ne hne]; exact hq)]
      exact ⟨μ, le.um hp, h⟩
  · exact h.elim
theorem len_each_once (A : Ad) : ∀ ds μ Q E, c_each_once A ds μ Q E → ds.length = 1 := by
  intro ds μ Q E h
  unfold c_each_once at h
  first | (split at h) | (split at h)
  all_goals first | rfl | exact h.elim
theorem ok_each_once {P : Program} {w : World} {K : PySem.W.Frag} {mg : Str → Option Value} {base : Heap} {A : Ad} (D : Dfn K mg "each_once" "each_once" s_each_once ["sizes"]) (T : Tx P base K mg A)  : DfOk P w K mg base "each_once" 1 ["sizes"] (c_each_once A) := by
  obtain ⟨f, fd, F, hm, hb⟩ := D
  refine ⟨f, fd, okD F sc_each_once (by decide) (len_each_once A) ?_, hm, F.kp, hb⟩
  intro X W E cdv B outer s H Ex hX tk hp hr
  subst hX
  exact ⟨_, w_each_once A E, (scons (sset (i := 1) ednewT sc_each_once.nd)
  (scons (sset (i := 2) (elst anil) sc_each_once.nd)
  (scons (sfor hp (il (ev 0)) (gnm 3 sc_each_once.nd) (sone (sif (tdnin (Room.units1 hr) (ev 3) (ev 1)) (scons (sasg eb (gsd (Room.units1 hr) (ev 1) (ev 3)))
  (sone (sexpr (eapp (ev 2) (acons (ev 3) anil))))) snil)))
  (sone (sret (efrz (ev 2))))))), fun ds μ Q E0 hc hE => by subst hE; exact pure_each_once A ds μ Q E0 hc⟩
/-- the thick axes -/
def thickP (ps : List Int) (szs : List (List Int)) : List Int := (((List.range ps.length).zip ps).filter fun q => szs.any fun s => decide (q.2 < s.getD q.1 0)).map fun q => (q.1 : Int)
def c_thick_axes (A : Ad) : Ct := fun ds μ Q _ => match ds with
  | [.tup pl, d] => ∃ (ps : List Int) (szs : List (List Int)), pl = ps.map D.int ∧ lv μ d = some (szs.map tI) ∧ szs.length ≤ 1000 ∧ (∀ s ∈ szs, s.length = ps.length) ∧ ps.length ≤ 10 ∧ Q (.lst ((thickP ps szs).map D.int)) μ
  | _ => False
abbrev s_thick_axes : Stmt := top 38
theorem sc_thick_axes : FnScope ["pitch", "sizes", "axis", "step", "size"] ["pitch", "sizes"] (defScope s_thick_axes) := ⟨rfl, rfl, rfl, by decide +kernel, rfl, by decide +kernel, by decide +kernel⟩
def w_thick_axes (A : Ad) (E : EX) : WS := (wRet (wFrz (wLc2 (iEn (wVar 0)) 2 3 [2, 3] (wTe (wCB fAny (wCons (wFrz (wLc (iLs (wVar 1)) 4 [4] wYes (wOp fGt (wOp fIx (wVar 4) (wVar 2)) (wVar 3)))) wNil))) (wVar 2))))
theorem pure_thick_axes (A : Ad) (ds μ Q E0) (h : c_thick_axes A ds μ Q E0) : w_thick_axes A (fun C fs _ μ => dwx E0 C fs μ) (rets Q) (st0 5 ds) μ := by
  unfold c_thick_axes at h
  split at h
  · rename_i pl d
    obtain ⟨ps, szs, rfl, el, hl, hs, hp, h⟩ := h
    unfold w_thick_axes
    have items : numb (ps.map D.int) = ((List.range ps.length).zip ps).map fun q => D.tup [.int (q.1 : Nat), .int q.2] := by
      unfold numb
      rw [List.length_map, List.zip_map_right, List.map_map]
      rfl
    have lenz : ((List.range ps.length).zip ps).length = ps.length := by rw [List.length_zip, List.length_range, Nat.min_self]
    obtain ⟨k, hk, hok, hR⟩ := wi_tp (k := 0) (l := ps.map D.int) (ρ := st0 5 [.tup (ps.map D.int), d]) (μ := μ) rfl
    refine lc2_frz ((List.range ps.length).zip ps) (fun q => .int (q.1 : Nat)) (fun q => .int q.2) (fun q => szs.any fun s => decide (q.2 < s.getD q.1 0)) (fun q => .int (q.1 : Nat)) ⟨.fix _, items, trivial, fun R h => h⟩ (by omega) (fun q hq μ' R hl' hR => ?_) (fun q hq _ μ' R _ hR => hR) ?_
    · have hi : q.1 < ps.length := by
        obtain ⟨j, hj, e⟩ := List.mem_iff_getElem.mp hq
        rw [List.getElem_zip, List.getElem_range] at e
        rw [← e]
        rw [lenz] at hj
        exact hj
      show wFrz _ _ μ' _
      refine lc_frz szs tI (fun _ => true) (fun s => .bl (decide (q.2 < s.getD q.1 0))) (wi_lv rfl (lv_mono hl' el)) (by omega) (fun s hs μ2 R2 _ h2 => h2) (fun s hsm _ μ2 R2 _ h2 => ?_) ?_
      · unfold tI
        walk_at "w"
        have ls := hs s hsm
        have e1 : atI (s.map D.int) ((q.1 : Nat) : Int) = some (.int (s.getD q.1 0)) := by
          rw [atI_0, List.getElem?_map, List.getD_eq_getElem?_getD, List.getElem?_eq_getElem (by omega)]
          rfl
        rw [e1]
        exact h2
      · refine ⟨_, szs.map fun s => decide (q.2 < s.getD q.1 0), rfl, ?_, ?_⟩
        · rw [List.filter_eq_self.mpr fun _ _ => rfl]
          have := blsD_map (szs.map fun s => decide (q.2 < s.getD q.1 0))
          rw [List.map_map] at this
          exact this
        · rw [List.any_map]
          exact hR
    · unfold thickP at h
      rw [List.map_map] at h
      exact dwn.of h
  · exact h.elim
theorem len_thick_axes (A : Ad) : ∀ ds μ Q E, c_thick_axes A ds μ Q E → ds.length = 2 := by
  intro ds μ Q E h
  unfold c_thick_axes at h
  first | (split at h) | (split at h)
  all_goals first | rfl | exact h.elim
theorem ok_thick_axes {P : Program} {w : World} {K : PySem.W.Frag} {mg : Str → Option Value} {base : Heap} {A : Ad} (D : Dfn K mg "thick_axes" "thick_axes" s_thick_axes ["pitch", "sizes"]) (T : Tx P base K mg A)  : DfOk P w K mg base "thick_axes" 1 ["pitch", "sizes"] (c_thick_axes A) := by
  obtain ⟨f, fd, F, hm, hb⟩ := D
  refine ⟨f, fd, okD F sc_thick_axes (by decide) (len_thick_axes A) ?_, hm, F.kp, hb⟩
  intro X W E cdv B outer s H Ex hX tk hp hr
  subst hX
  exact ⟨_, w_thick_axes A E, (sone (sret (efrz (elc2 sc_thick_axes.nd [("axis", 2), ("step", 3)] 2 3 (ienT T.b_enumerate (ev 0)) (fun _ _ _ _ _ => gtpP (gnmP 2 sc_thick_axes.nd) (gnmP 3 sc_thick_axes.nd)) (fun _ _ _ _ _ => ⟨_, (tsone (tval (ecb (cr_any rfl) dc_any T.b_any (acons (efrz (elcN sc_thick_axes.nd [("size", 4)] 4 (il (ev 1)) (fun _ _ _ _ _ => gnmP 4 sc_thick_axes.nd) (fun _ _ _ _ _ => ⟨_, tsnil⟩) (fun _ _ _ _ _ => ⟨_, (ec op_gt do_gt (eix (ev 4) (ev 2)) (ev 3))⟩))) anil))))⟩) (fun _ _ _ _ _ => ⟨_, (ev 2)⟩))))), fun ds μ Q E0 hc hE => by subst hE; exact pure_thick_axes A ds μ Q E0 hc⟩
end K03
set_option maxHeartbeats 800000
namespace K03
open PySem L2 DL
local macro_rules | `(tactic| walk_at "w") => `(tactic| simp only [wSeq, wNext, wIf, wRet, wRetN, wDrop, wAsg, gN, wVar, wC, wOp, wUn, wNil, wCons, wCB, wTup, wLst, wLstF, wTe, tB0, wAnd, wOr, wNot, wAndV, wOrV, wNotV, wIfE, wCall, wCallG, wRaise, wFrz, fFrz, rets, fI, fI0, fAdd, fSub, fMul, fLt, fLe, fGt, fGe, fMod, fModN, fPow, fDiv, fDivG, fNeg, fEq, fNe, eqF_int, eqF_bl, eqF_str, scal_int, scal_bl, scal_str, fLen, sv, fIx, fAbs, fInt, fList, wSl, fSlL, oNo, oSo, lvr, lv, fCat, wMeL, fApp, fPop, fSetL, gSb, iLs, iTp, iR1, iR2, wFor, gTp, gCn, gNl, wPar, wBrk, wCnt, fIsi, wIsx, wLc, wYes, wip, wTr, truD, wTry, clrD, wFld, fieldsD, wSetF, wMeth, wMake, fStrI, fFmt, wJoin, wJs, wChain, wLc2, wLR, wProp, fRepT, wDIn, wDNewT, fSetD, iR3, gLs, fIns, fPopAt, fClear, fTuple, fMin2, fMaxL, fAny, iEn, wRev, fRev, wDNew, wDNewF, wDsp1, wDsp1F, fAddS, fIsN, fNotN, um_same, um_um, st0, List.map_cons, List.map_nil, List.length_cons, List.length_nil, List.getElem?_cons_zero, List.getElem?_cons_succ, List.set_cons_zero, List.set_cons_succ, List.cons_append, List.nil_append, List.replicate, atI_c0, atI_c1, atI_c2, atI_c3, atI_c4, atI_c5, atI_c6, ixN_70, ixN_71, ixN_72, ixN_73, ixN_74, ixN_75, ixN_76, Nat.reduceAdd, ite_T, ite_F, if_dec, if_ndec, if_nb, true_and, if_true, Bool.false_eq_true, if_false])
/-! ### the class Catalogue -/
/-- what a catalogue holds -/
def catF (ps : List Int) (own : List (List Int)) : List (Str × D) := [("own_pitch", tI ps), ("own_sizes", .lst (own.map tI)), ("own_thick", .lst ((thickP ps own).map D.int))]
/-- what the making refuses -/
def refuse (ps : List Int) (szs : List (List Int)) : Option Str := match verdict ps szs with
  | some x => some x
  | none => if (once szs).length < 1 ∨ 12 < (once szs).length then some "BadCatalogue" else none
theorem once_mem {szs : List (List Int)} {s : List Int} : s ∈ once szs → s ∈ szs := by
  unfold once
  have : ∀ (l acc : List (List Int)), s ∈ l.foldl (fun acc s => if s ∈ acc then acc else acc ++ [s]) acc → s ∈ acc ∨ s ∈ l := by
    intro l
    induction l with
    | nil => intro acc h; exact .inl h
    | cons a l ih =>
      intro acc h
      rw [List.foldl_cons] at h
      rcases ih _ h with h | h
      · split at h
        · exact .inl h
        · rcases List.mem_append.mp h with h | h
          · exact .inl h
          · exact .inr (by rw [List.mem_singleton.mp h]; exact List.mem_cons_self)
      · exact .inr (List.mem_cons_of_mem _ h)
  intro h
  rcases this szs [] h with h | h
  · cases h
  · exact h
theorem verdict_none {ps : List Int} {szs : List (List Int)} (h : verdict ps szs = none) : 1 ≤ ps.length ∧ ps.length ≤ 5 ∧ ∀ s ∈ szs, s.length = ps.length := by
  unfold verdict at h
  by_cases c : ps.length < 1 ∨ 5 < ps.length
  · rw [if_pos c] at h; cases h
  · rw [if_neg c] at h
    cases c1 : szs.all (fun s => decide (s.length = ps.length)) with
    | false => rw [c1, if_pos rfl] at h; cases h
    | true => exact ⟨by omega, by omega, fun s hs => of_decide_eq_true (List.all_eq_true.mp c1 s hs)⟩
def c_Catalogue___init__ (A : Ad) : Ct := fun ds μ Q E => match ds with
  | [.mut a, .tup pl, d] => ∃ (ps : List Int) (szs : List (List Int)), pl = ps.map D.int ∧ lv μ d = some (szs.map tI) ∧ szs.length ≤ 1000 ∧ μ a = some (.ins (A.g "Catalogue") []) ∧ (match refuse ps szs with
    | some x => E (A.g x) [] μ
    | none => Q .non (um μ a (.ins (A.g "Catalogue") (catF ps (once szs)))))
  | _ => False
abbrev s_Catalogue___init__ : Stmt := inClass (top 39) 0
theorem sc_Catalogue___init__ : FnScope ["self", "pitch", "sizes", "own_sizes"] ["self", "pitch", "sizes"] (defScope s_Catalogue___init__) := ⟨rfl, rfl, rfl, by decide +kernel, rfl, by decide +kernel, by decide +kernel⟩
def w_Catalogue___init___3 (A : Ad) (E : EX) : WS := (wSeq (wSetF (fun C => C = A.g "Catalogue") "own_pitch" (wVar 0) (wCB fTuple (wCons (wVar 1) wNil)))
  (wSeq (wSetF (fun C => C = A.g "Catalogue") "own_sizes" (wVar 0) (wVar 3))
  (wSetF (fun C => C = A.g "Catalogue") "own_thick" (wVar 0) (wCall (c_thick_axes A) E (wCons (wVar 1) (wCons (wVar 3) wNil))))))
def w_Catalogue___init___2 (A : Ad) (E : EX) : WS := (wSeq (wIf (wOr (wTe (wOp fLt (wCB fLen (wCons (wVar 3) wNil)) (wC (.int (1))))) (wTe (wOp fGt (wCB fLen (wCons (wVar 3) wNil)) (wC (.int (12)))))) (wRaise A.BadCatalogue E) wNext)
  (w_Catalogue___init___3 A E))
def w_Catalogue___init___1 (A : Ad) (E : EX) : WS := (wSeq (wAsg (wCall (c_each_once A) E (wCons (wVar 2) wNil)) (gN 3))
  (w_Catalogue___init___2 A E))
def w_Catalogue___init__ (A : Ad) (E : EX) : WS := (wSeq (wDrop (wCall (c_check_catalogue A) E (wCons (wVar 1) (wCons (wVar 2) wNil))))
  (w_Catalogue___init___1 A E))
theorem pure_Catalogue___init__ (A : Ad) (ds μ Q E0) (h : c_Catalogue___init__ A ds μ Q E0) : w_Catalogue___init__ A (fun C fs _ μ => dwx E0 C fs μ) (rets Q) (st0 4 ds) μ := by
  unfold c_Catalogue___init__ at h
  split at h
  · rename_i a pl d
    obtain ⟨ps, szs, rfl, el, hl, ha, h⟩ := h
    unfold w_Catalogue___init__
    walk_at "w"
    refine ⟨ps, szs, rfl, el, ?_⟩
    unfold refuse at h
    cases hv : verdict ps szs with
    | some x =>
      rw [hv] at h
      exact dwx.of h
    | none =>
      rw [hv] at h
      obtain ⟨p1, p5, hs⟩ := verdict_none hv
      have ol := once_len szs
      unfold w_Catalogue___init___1
      walk_at "w"
      refine ⟨szs, el, hl, ?_⟩
      unfold w_Catalogue___init___2
      walk_at "w"
      rw [List.length_map]
      have h : if (once szs).length < 1 ∨ 12 < (once szs).length then E0 (A.g "BadCatalogue") [] μ else Q .non (um μ a (.ins (A.g "Catalogue") (catF ps (once szs)))) := by
        split at h
        · rename_i x e
          by_cases c : (once szs).length < 1 ∨ 12 < (once szs).length
          · rw [if_pos c] at e ⊢
            cases e
            exact h
          · rw [if_neg c] at e; cases e
        · rename_i e
          by_cases c : (once szs).length < 1 ∨ 12 < (once szs).length
          · rw [if_pos c] at e; cases e
          · rw [if_neg c]
            exact h
      refine ite2 (fun c => ?_) (fun c => ite2 (fun c2 => ?_) (fun c2 => ?_))
      · rw [if_pos (.inl (by omega))] at h; exact dwx.of h
      · rw [if_pos (.inr (by omega))] at h; exact dwx.of h
      · rw [if_neg (by omega)] at h
        unfold w_Catalogue___init___3
        walk_at "w"
        rw [ha]
        have p1' : ∀ x : D, putD "own_pitch" x [] = ([("own_pitch", x)] : List (Str × D)) := fun x => rfl
        have p2' : ∀ x y : D, putD "own_sizes" y ([("own_pitch", x)] : List (Str × D)) = ([("own_pitch", x), ("own_sizes", y)] : List (Str × D)) := fun x y => rfl
        have p3' : ∀ x y z : D, putD "own_thick" z ([("own_pitch", x), ("own_sizes", y)] : List (Str × D)) = ([("own_pitch", x), ("own_sizes", y), ("own_thick", z)] : List (Str × D)) := fun x y z => rfl
        dsimp only
        rw [p1', p2']
        refine ⟨rfl, Nat.lt_of_sub_ne_zero (by simp), rfl, Nat.lt_of_sub_ne_zero (by simp), ps, once szs, rfl, rfl, by omega, fun s hs' => hs s (once_mem hs'), by omega, ?_⟩
        dsimp only
        rw [um_same]
        refine ⟨rfl, Nat.lt_of_sub_ne_zero (by simp), ?_⟩
        rw [p3', um_um]
        exact dwn.of h
  · exact h.elim
theorem len_Catalogue___init__ (A : Ad) : ∀ ds μ Q E, c_Catalogue___init__ A ds μ Q E → ds.length = 3 := by
  intro ds μ Q E h
  unfold c_Catalogue___init__ at h
  first | (split at h) | (split at h)
  all_goals first | rfl | exact h.elim
theorem okm_Catalogue___init__ {P : Program} {w : World} {K : PySem.W.Frag} {mg : Str → Option Value} {base : Heap} {A : Ad} {f : Addr} {fd : FuncData} (F : Fun K "__init__" "Catalogue.__init__" s_Catalogue___init__ f fd) (T : Tx P base K mg A) (G_thick_axes : DfOk P w K mg base "thick_axes" 1 ["pitch", "sizes"] (c_thick_axes A)) (G_each_once : DfOk P w K mg base "each_once" 1 ["sizes"] (c_each_once A)) (G_check_catalogue : DfOk P w K mg base "check_catalogue" 5 ["pitch", "sizes"] (c_check_catalogue A)) (Cl_Catalogue : Cls K (A.g "Catalogue")) (Na_Catalogue_own_thick : NoAttr K (A.g "Catalogue") "own_thick") (Na_Catalogue_own_sizes : NoAttr K (A.g "Catalogue") "own_sizes") (Na_Catalogue_own_pitch : NoAttr K (A.g "Catalogue") "own_pitch") : FnOk P w K mg base (L2N.CX P w) 6 f fd ["self", "pitch", "sizes"] (spD K (c_Catalogue___init__ A)) := by
  refine okD F sc_Catalogue___init__ (by decide) (len_Catalogue___init__ A) ?_
  intro X W E cdv B outer s H Ex hX tk hp hr
  subst hX
  exact ⟨_, w_Catalogue___init__ A E, (scons (sexpr (ecall2 tk G_check_catalogue (hr.mono (by decide)) (acons (ev 1) (acons (ev 2) anil))))
  (scons (sset (i := 3) (ecall2 tk G_each_once (hr.mono (by decide)) (acons (ev 2) anil)) sc_Catalogue___init__.nd)
  (scons (sif (tbo (tor (tc' op_lt do_lt (ecb call_len_seq dc_len T.b_len (acons (ev 3) anil)) ei) (tor1 (tc' op_gt do_gt (ecb call_len_seq dc_len T.b_len (acons (ev 3) anil)) (eg rfl T.g_MOST_SIZES.choose_spec.1 T.g_MOST_SIZES.choose_spec.2 rfl rfl))))) (sone (sraise0 tk (pmk_own0 T.x_BadCatalogue))) snil)
  (scons (ssetf (fun C => C = A.g "Catalogue") (fun C e => by rw [e]; exact ⟨Cl_Catalogue, Na_Catalogue_own_pitch⟩) (ev 0) (ecty call_tuple_of dc_tuple T.b_tuple (acons (ev 1) anil)))
  (scons (ssetf (fun C => C = A.g "Catalogue") (fun C e => by rw [e]; exact ⟨Cl_Catalogue, Na_Catalogue_own_sizes⟩) (ev 0) (ev 3))
  (sone (ssetf (fun C => C = A.g "Catalogue") (fun C e => by rw [e]; exact ⟨Cl_Catalogue, Na_Catalogue_own_thick⟩) (ev 0) (ecall2 tk G_thick_axes (hr.mono (by decide)) (acons (ev 1) (acons (ev 3) anil)))))))))), fun ds μ Q E0 hc hE => by subst hE; exact pure_Catalogue___init__ A ds μ Q E0 hc⟩
def cProp (A : Ad) (r : List Int → List (List Int) → D) : Ct := fun ds μ Q _ => match ds with
  | [.mut a] => ∃ (ps : List Int) (own : List (List Int)), μ a = some (.ins (A.g "Catalogue") (catF ps own)) ∧ Q (r ps own) μ
  | _ => False
def c_Catalogue_pitch (A : Ad) : Ct := cProp A fun ps _ => tI ps
def c_Catalogue_sizes (A : Ad) : Ct := cProp A fun _ own => .lst (own.map tI)
def c_Catalogue_axes (A : Ad) : Ct := cProp A fun ps _ => .int (ps.length : Nat)
def c_Catalogue_thick (A : Ad) : Ct := cProp A fun ps own => .lst ((thickP ps own).map D.int)
abbrev s_Catalogue_pitch : Stmt := inClass (top 39) 1
theorem sc_Catalogue_pitch : FnScope ["self"] ["self"] (defScope s_Catalogue_pitch) := ⟨rfl, rfl, rfl, by decide +kernel, rfl, by decide +kernel, by decide +kernel⟩
def w_Catalogue_pitch (A : Ad) (E : EX) : WS := (wRet (wFld (fun C => C = A.g "Catalogue") "own_pitch" (wVar 0)))
theorem pure_Catalogue_pitch (A : Ad) (ds μ Q E0) (h : c_Catalogue_pitch A ds μ Q E0) : w_Catalogue_pitch A (fun C fs _ μ => dwx E0 C fs μ) (rets Q) (st0 1 ds) μ := by
  unfold c_Catalogue_pitch cProp at h
  split at h
  · rename_i a
    obtain ⟨ps, own, ha, h⟩ := h
    unfold w_Catalogue_pitch
    walk_at "w"
    rw [ha]
    refine ⟨rfl, ?_⟩
    exact dwn.of h
  · exact h.elim
theorem len_Catalogue_pitch (A : Ad) : ∀ ds μ Q E, c_Catalogue_pitch A ds μ Q E → ds.length = 1 := by
  intro ds μ Q E h
  unfold c_Catalogue_pitch at h
  first | (split at h) | (unfold cProp at h; split at h)
  all_goals first | rfl | exact h.elim
theorem okm_Catalogue_pitch {P : Program} {w : World} {K : PySem.W.Frag} {mg : Str → Option Value} {base : Heap} {A : Ad} {f : Addr} {fd : FuncData} (F : Fun K "pitch" "Catalogue.pitch" s_Catalogue_pitch f fd) (T : Tx P base K mg A)  (Cl_Catalogue : Cls K (A.g "Catalogue")) (Na_Catalogue_own_pitch : NoAttr K (A.g "Catalogue") "own_pitch") : FnOk P w K mg base (L2N.CX P w) 1 f fd ["self"] (spD K (c_Catalogue_pitch A)) := by
  refine okD F sc_Catalogue_pitch (by decide) (len_Catalogue_pitch A) ?_
  intro X W E cdv B outer s H Ex hX tk hp hr
  subst hX
  exact ⟨_, w_Catalogue_pitch A E, (sone (sret (efld (fun C => C = A.g "Catalogue") (fun C e => by rw [e]; exact ⟨Cl_Catalogue, Na_Catalogue_own_pitch⟩) (ev 0)))), fun ds μ Q E0 hc hE => by subst hE; exact pure_Catalogue_pitch A ds μ Q E0 hc⟩
abbrev s_Catalogue_sizes : Stmt := inClass (top 39) 2
theorem sc_Catalogue_sizes : FnScope ["self"] ["self"] (defScope s_Catalogue_sizes) := ⟨rfl, rfl, rfl, by decide +kernel, rfl, by decide +kernel, by decide +kernel⟩
def w_Catalogue_sizes (A : Ad) (E : EX) : WS := (wRet (wFrz (wCB fList (wCons (wFld (fun C => C = A.g "Catalogue") "own_sizes" (wVar 0)) wNil))))
theorem pure_Catalogue_sizes (A : Ad) (ds μ Q E0) (h : c_Catalogue_sizes A ds μ Q E0) : w_Catalogue_sizes A (fun C fs _ μ => dwx E0 C fs μ) (rets Q) (st0 1 ds) μ := by
  unfold c_Catalogue_sizes cProp at h
  split at h
  · rename_i a
    obtain ⟨ps, own, ha, h⟩ := h
    unfold w_Catalogue_sizes
    walk_at "w"
    rw [ha]
    refine ⟨rfl, ?_⟩
    show ∀ p, μ p = none → _
    intro p hp
    rw [rm_um hp]
    exact dwn.of h
  · exact h.elim
theorem len_Catalogue_sizes (A : Ad) : ∀ ds μ Q E, c_Catalogue_sizes A ds μ Q E → ds.length = 1 := by
  intro ds μ Q E h
  unfold c_Catalogue_sizes at h
  first | (split at h) | (unfold cProp at h; split at h)
  all_goals first | rfl | exact h.elim
theorem okm_Catalogue_sizes {P : Program} {w : World} {K : PySem.W.Frag} {mg : Str → Option Value} {base : Heap} {A : Ad} {f : Addr} {fd : FuncData} (F : Fun K "sizes" "Catalogue.sizes" s_Catalogue_sizes f fd) (T : Tx P base K mg A)  (Cl_Catalogue : Cls K (A.g "Catalogue")) (Na_Catalogue_own_sizes : NoAttr K (A.g "Catalogue") "own_sizes") : FnOk P w K mg base (L2N.CX P w) 1 f fd ["self"] (spD K (c_Catalogue_sizes A)) := by
  refine okD F sc_Catalogue_sizes (by decide) (len_Catalogue_sizes A) ?_
  intro X W E cdv B outer s H Ex hX tk hp hr
  subst hX
  exact ⟨_, w_Catalogue_sizes A E, (sone (sret (efrz (ecty call_list_of dc_list T.b_list (acons (efld (fun C => C = A.g "Catalogue") (fun C e => by rw [e]; exact ⟨Cl_Catalogue, Na_Catalogue_own_sizes⟩) (ev 0)) anil))))), fun ds μ Q E0 hc hE => by subst hE; exact pure_Catalogue_sizes A ds μ Q E0 hc⟩
abbrev s_Catalogue_axes : Stmt := inClass (top 39) 3
theorem sc_Catalogue_axes : FnScope ["self"] ["self"] (defScope s_Catalogue_axes) := ⟨rfl, rfl, rfl, by decide +kernel, rfl, by decide +kernel, by decide +kernel⟩
def w_Catalogue_axes (A : Ad) (E : EX) : WS := (wRet (wCB fLen (wCons (wFld (fun C => C = A.g "Catalogue") "own_pitch" (wVar 0)) wNil)))
theorem pure_Catalogue_axes (A : Ad) (ds μ Q E0) (h : c_Catalogue_axes A ds μ Q E0) : w_Catalogue_axes A (fun C fs _ μ => dwx E0 C fs μ) (rets Q) (st0 1 ds) μ := by
  unfold c_Catalogue_axes cProp at h
  split at h
  · rename_i a
    obtain ⟨ps, own, ha, h⟩ := h
    unfold w_Catalogue_axes
    walk_at "w"
    rw [ha]
    refine ⟨rfl, ?_⟩
    show dwn Q (.int ((ps.map D.int).length : Nat)) μ
    rw [List.length_map]
    exact dwn.of h
  · exact h.elim
theorem len_Catalogue_axes (A : Ad) : ∀ ds μ Q E, c_Catalogue_axes A ds μ Q E → ds.length = 1 := by
  intro ds μ Q E h
  unfold c_Catalogue_axes at h
  first | (split at h) | (unfold cProp at h; split at h)
  all_goals first | rfl | exact h.elim
theorem okm_Catalogue_axes {P : Program} {w : World} {K : PySem.W.Frag} {mg : Str → Option Value} {base : Heap} {A : Ad} {f : Addr} {fd : FuncData} (F : Fun K "axes" "Catalogue.axes" s_Catalogue_axes f fd) (T : Tx P base K mg A)  (Cl_Catalogue : Cls K (A.g "Catalogue")) (Na_Catalogue_own_pitch : NoAttr K (A.g "Catalogue") "own_pitch") : FnOk P w K mg base (L2N.CX P w) 1 f fd ["self"] (spD K (c_Catalogue_axes A)) := by
  refine okD F sc_Catalogue_axes (by decide) (len_Catalogue_axes A) ?_
  intro X W E cdv B outer s H Ex hX tk hp hr
  subst hX
  exact ⟨_, w_Catalogue_axes A E, (sone (sret (ecb call_len_seq dc_len T.b_len (acons (efld (fun C => C = A.g "Catalogue") (fun C e => by rw [e]; exact ⟨Cl_Catalogue, Na_Catalogue_own_pitch⟩) (ev 0)) anil)))), fun ds μ Q E0 hc hE => by subst hE; exact pure_Catalogue_axes A ds μ Q E0 hc⟩
abbrev s_Catalogue_thick : Stmt := inClass (top 39) 4
theorem sc_Catalogue_thick : FnScope ["self"] ["self"] (defScope s_Catalogue_thick) := ⟨rfl, rfl, rfl, by decide +kernel, rfl, by decide +kernel, by decide +kernel⟩
def w_Catalogue_thick (A : Ad) (E : EX) : WS := (wRet (wFrz (wCB fList (wCons (wFld (fun C => C = A.g "Catalogue") "own_thick" (wVar 0)) wNil))))
theorem pure_Catalogue_thick (A : Ad) (ds μ Q E0) (h : c_Catalogue_thick A ds μ Q E0) : w_Catalogue_thick A (fun C fs _ μ => dwx E0 C fs μ) (rets Q) (st0 1 ds) μ := by
  unfold c_Catalogue_thick cProp at h
  split at h
  · rename_i a
    obtain ⟨ps, own, ha, h⟩ := h
    unfold w_Catalogue_thick
    walk_at "w"
    rw [ha]
    refine ⟨rfl, ?_⟩
    show ∀ p, μ p = none → _
    intro p hp
    rw [rm_um hp]
    exact dwn.of h
  · exact h.elim
theorem len_Catalogue_thick (A : Ad) : ∀ ds μ Q E, c_Catalogue_thick A ds μ Q E → ds.length = 1 := by
  intro ds μ Q E h
  unfold c_Catalogue_thick at h
  first | (split at h) | (unfold cProp at h; split at h)
  all_goals first | rfl | exact h.elim
theorem okm_Catalogue_thick {P : Program} {w : World} {K : PySem.W.Frag} {mg : Str → Option Value} {base : Heap} {A : Ad} {f : Addr} {fd : FuncData} (F : Fun K "thick" "Catalogue.thick" s_Catalogue_thick f fd) (T : Tx P base K mg A)  (Cl_Catalogue : Cls K (A.g "Catalogue")) (Na_Catalogue_own_thick : NoAttr K (A.g "Catalogue") "own_thick") : FnOk P w K mg base (L2N.CX P w) 1 f fd ["self"] (spD K (c_Catalogue_thick A)) := by
  refine okD F sc_Catalogue_thick (by decide) (len_Catalogue_thick A) ?_
  intro X W E cdv B outer s H Ex hX tk hp hr
  subst hX
  exact ⟨_, w_Catalogue_thick A E, (sone (sret (efrz (ecty call_list_of dc_list T.b_list (acons (efld (fun C => C = A.g "Catalogue") (fun C e => by rw [e]; exact ⟨Cl_Catalogue, Na_Catalogue_own_thick⟩) (ev 0)) anil))))), fun ds μ Q E0 hc hE => by subst hE; exact pure_Catalogue_thick A ds μ Q E0 hc⟩
end K03
set_option maxHeartbeats 800000
namespace K03
open PySem L2 DL
local macro_rules | `(tactic| walk_at "w") => `(tactic| simp only [wSeq, wNext, wIf, wRet, wRetN, wDrop, wAsg, gN, wVar, wC, wOp, wUn, wNil, wCons, wCB, wTup, wLst, wLstF, wTe, tB0, wAnd, wOr, wNot, wAndV, wOrV, wNotV, wIfE, wCall, wCallG, wRaise, wFrz, fFrz, rets, fI, fI0, fAdd, fSub, fMul, fLt, fLe, fGt, fGe, fMod, fModN, fPow, fDiv, fDivG, fNeg, fEq, fNe, eqF_int, eqF_bl, eqF_str, scal_int, scal_bl, scal_str, fLen, sv, fIx, fAbs, fInt, fList, wSl, fSlL, oNo, oSo, lvr, lv, fCat, wMeL, fApp, fPop, fSetL, gSb, iLs, iTp, iR1, iR2, wFor, gTp, gCn, gNl, wPar, wBrk, wCnt, fIsi, wIsx, wLc, wYes, wip, wTr, truD, wTry, clrD, wFld, fieldsD, wSetF, wMeth, wMake, fStrI, fFmt, wJoin, wJs, wChain, wLc2, wLR, wProp, fRepT, wDIn, wDNewT, fSetD, iR3, gLs, fIns, fPopAt, fClear, fTuple, fMin2, fMaxL, fAny, iEn, wRev, fRev, wDNew, wDNewF, wDsp1, wDsp1F, fAddS, fIsN, fNotN, um_same, um_um, st0, List.map_cons, List.map_nil, List.length_cons, List.length_nil, List.getElem?_cons_zero, List.getElem?_cons_succ, List.set_cons_zero, List.set_cons_succ, List.cons_append, List.nil_append, List.replicate, atI_c0, atI_c1, atI_c2, atI_c3, atI_c4, atI_c5, atI_c6, ixN_70, ixN_71, ixN_72, ixN_73, ixN_74, ixN_75, ixN_76, Nat.reduceAdd, ite_T, ite_F, if_dec, if_ndec, if_nb, true_and, if_true, Bool.false_eq_true, if_false])
local macro_rules | `(tactic| walk_at "arg") => `(tactic| simp only [wRet, wCall, wCons, wNil, wVar, st0, rets, List.length_nil, List.length_cons, List.map_cons, List.map_nil, List.cons_append, List.nil_append, List.getElem?_cons_zero, List.getElem?_cons_succ])
local macro_rules | `(tactic| walk_at "one") => `(tactic| simp only [wAsg, wLst, wNil, gN, st0, List.length_nil, List.length_cons, List.cons_append, List.nil_append, List.replicate, List.map_cons, List.map_nil, Nat.reduceAdd, List.set_cons_succ, List.set_cons_zero, List.cons_append, List.append_nil])
/-! ### draws of catalogues -/
theorem ixN_in {n : Nat} {i : Int} (h0 : 0 ≤ i) (h1 : i < n) : ixN n i = some i.toNat := by
  unfold ixN
  rw [if_pos h0, if_pos h1]
theorem mem_set {l : List D} {i : Nat} {x y : D} (h : y ∈ l.set i x) : y ∈ l ∨ y = x := (List.mem_or_eq_of_mem_set h)
def c_law_shuffled (A : Ad) : Ct := fun ds μ Q _ => match ds with
  | [.mut p, .lst l] => ∃ st, μ p = some (.lst st) ∧ StOk st ∧ l.length < 1000 ∧ ∀ l' st', l'.length = l.length → (∀ x ∈ l', x ∈ l) → StOk st' → Q (.lst l') (um μ p (.lst st'))
  | _ => False
abbrev s_law_shuffled : Stmt := top 46
theorem sc_law_shuffled : FnScope ["store", "things", "row", "k", "at", "held"] ["store", "things"] (defScope s_law_shuffled) := ⟨rfl, rfl, rfl, by decide +kernel, rfl, by decide +kernel, by decide +kernel⟩
def w_law_shuffled_b1 (A : Ad) (E : EX) : WS := (wSeq (wAsg (wCall (c_law_take A) E (wCons (wVar 0) (wCons (wOp fAdd (wVar 3) (wC (.int (1)))) wNil))) (gN 4))
  (wSeq (wAsg (wOp fIx (wVar 2) (wVar 3)) (gN 5))
  (wSeq (wAsg (wOp fIx (wVar 2) (wVar 4)) (gSb fSetL (wVar 2) (wVar 3)))
  (wAsg (wVar 5) (gSb fSetL (wVar 2) (wVar 4))))))
def w_law_shuffled_1 (A : Ad) (E : EX) : WS := (wSeq (wFor (iR3 (wCons (wOp fSub (wCB fLen (wCons (wVar 2) wNil)) (wC (.int (1)))) (wCons (wC (.int (0))) (wCons (wUn fNeg (wC (.int (1)))) wNil)))) (gN 3) (w_law_shuffled_b1 A E))
  (wRet (wFrz (wVar 2))))
def w_law_shuffled (A : Ad) (E : EX) : WS := (wSeq (wAsg (wCB fList (wCons (wVar 1) wNil)) (gN 2))
  (w_law_shuffled_1 A E))
theorem pure_law_shuffled (A : Ad) (ds μ Q E0) (h : c_law_shuffled A ds μ Q E0) : w_law_shuffled A (fun C fs _ μ => dwx E0 C fs μ) (rets Q) (st0 6 ds) μ := by
  unfold c_law_shuffled at h
  split at h
  · rename_i p l
    obtain ⟨st, hp, hst, hl, h⟩ := h
    unfold w_law_shuffled
    walk_at "w"
    intro r hr
    have hne : r ≠ p := fun e => by rw [e, hp] at hr; cases hr
    unfold w_law_shuffled_1
    walk_at "w"
    have e0 : um μ r (.lst l) = um (um μ p (.lst st)) r (.lst l) := by rw [um_id hp]
    rw [e0]
    refine ⟨⟨by omega, by omega, by decide, by decide⟩, fun i ρ μ' => ∃ (st : List D) (l' : List D) (r3 r4 r5 : Option D), μ' = um (um μ p (.lst st)) r (.lst l') ∧ StOk st ∧ l'.length = l.length ∧ (∀ x ∈ l', x ∈ l) ∧ ρ = [some (.mut p), some (.lst l), some (.mut r), r3, r4, r5], ⟨st, l, _, _, _, rfl, hst, rfl, fun x hx => hx, rfl⟩, fun _ _ _ _ => trivial, ?_, ?_⟩
    · rintro i d ρ μ' hd ⟨st, l', r3, r4, r5, rfl, hst, hl', hm, rfl⟩
      rw [fixi] at hd
      have hi : i < ((l.length : Int) - 1 - 0).toNat := by
        have := (List.getElem?_eq_some_iff.mp hd).1
        rwa [rngD_len] at this
      rw [rngD_get hi] at hd
      cases hd
      have k0 : 0 ≤ (l.length : Int) - 1 - (i : Nat) := by omega
      have k1 : (l.length : Int) - 1 - (i : Nat) < (l'.length : Nat) := by omega
      unfold w_law_shuffled_b1
      walk_at "w"
      refine ⟨st, by rw [um_ne (Ne.symm hne), um_same], hst, bd_small (n := 2990) (by omega) (by omega), fun w st1 hs1 w0 w1 _ => ?_⟩
      have w1 := w1 (by omega)
      rw [um_swap hne, um_um]
      walk_at "w"
      obtain ⟨x, e1, e2, _⟩ := atI_in (l := l') k0 k1
      obtain ⟨y, e3, e4, _⟩ := atI_in (l := l') w0 (show w < (l'.length : Nat) by omega)
      rw [e1]
      dsimp only
      rw [e3]
      dsimp only
      rw [ixN_in k0 k1]
      dsimp only
      have hw2 : w < ((l'.set ((l.length : Int) - 1 - (i : Nat)).toNat y).length : Nat) := by rw [List.length_set]; omega
      rw [ixN_in w0 hw2]
      dsimp only
      refine wk.of ⟨st1, _, _, _, _, rfl, hs1, by rw [List.length_set, List.length_set, hl'], fun z hz => ?_, rfl⟩
      rcases mem_set hz with hz | rfl
      · rcases mem_set hz with hz | rfl
        · exact hm z hz
        · exact hm _ e4
      · exact hm _ e2
    · rintro ρ μ' ⟨st, l', r3, r4, r5, rfl, hst, hl', hm, rfl⟩
      walk_at "w"
      rw [rm_um (by rw [um_ne hne]; exact hr)]
      exact dwn.of (h l' st hl' hm hst)
  · exact h.elim
theorem len_law_shuffled (A : Ad) : ∀ ds μ Q E, c_law_shuffled A ds μ Q E → ds.length = 2 := by
  intro ds μ Q E h
  unfold c_law_shuffled at h
  first | (split at h) | (split at h)
  all_goals first | rfl | exact h.elim
theorem ok_law_shuffled {P : Program} {w : World} {K : PySem.W.Frag} {mg : Str → Option Value} {base : Heap} {A : Ad} (D : Dfn K mg "_law_shuffled" "_law_shuffled" s_law_shuffled ["store", "things"]) (T : Tx P base K mg A) (G_law_take : DfOk P w K mg base "_law_take" 2 ["store", "many"] (c_law_take A)) : DfOk P w K mg base "_law_shuffled" 3 ["store", "things"] (c_law_shuffled A) := by
  obtain ⟨f, fd, F, hm, hb⟩ := D
  refine ⟨f, fd, okD F sc_law_shuffled (by decide) (len_law_shuffled A) ?_, hm, F.kp, hb⟩
  intro X W E cdv B outer s H Ex hX tk hp hr
  subst hX
  exact ⟨_, w_law_shuffled A E, (scons (sset (i := 2) (ecty call_list_of dc_list T.b_list (acons (ev 1) anil)) sc_law_shuffled.nd)
  (scons (sfor hp (ir3 T.b_range (acons (esub (ecb call_len_seq dc_len T.b_len (acons (ev 2) anil)) ei) (acons ei (acons (eneg ei) anil)))) (gnm 3 sc_law_shuffled.nd) (scons (sset (i := 4) (ecall2 tk G_law_take (hr.mono (by decide)) (acons (ev 0) (acons (eadd (ev 3) ei) anil))) sc_law_shuffled.nd)
  (scons (sset (i := 5) (eix (ev 2) (ev 3)) sc_law_shuffled.nd)
  (scons (sasg (eix (ev 2) (ev 4)) (gsl (ev 2) (ev 3)))
  (sone (sasg (ev 5) (gsl (ev 2) (ev 4))))))))
  (sone (sret (efrz (ev 2)))))), fun ds μ Q E0 hc hE => by subst hE; exact pure_law_shuffled A ds μ Q E0 hc⟩
def c_law_once (A : Ad) : Ct := fun ds μ Q _ => match ds with
  | [d] => ∃ szs : List (List Int), lv μ d = some (szs.map tI) ∧ szs.length ≤ 1000 ∧ Q (.lst ((once szs).map tI)) μ
  | _ => False
abbrev s_law_once : Stmt := top 47
theorem sc_law_once : FnScope ["things", "kept", "thing"] ["things"] (defScope s_law_once) := ⟨rfl, rfl, rfl, by decide +kernel, rfl, by decide +kernel, by decide +kernel⟩
def w_law_once_b1 (A : Ad) (E : EX) : WS := (wIf (wTe (wOp (fInD true) (wVar 2) (wVar 1))) (wDrop (wMeL fApp (wVar 1) (wCons (wVar 2) wNil))) wNext)
def w_law_once (A : Ad) (E : EX) : WS := (wSeq (wAsg (wLst wNil) (gN 1))
  (wSeq (wFor (iLs (wVar 0)) (gN 2) (w_law_once_b1 A E))
  (wRet (wFrz (wVar 1)))))
theorem pure_law_once (A : Ad) (ds μ Q E0) (h : c_law_once A ds μ Q E0) : w_law_once A (fun C fs _ μ => dwx E0 C fs μ) (rets Q) (st0 3 ds) μ := by
  unfold c_law_once at h
  split at h
  · rename_i d
    obtain ⟨szs, el, hl, h⟩ := h
    unfold w_law_once wSeq
    walk_at "one"
    refine ⟨by decide, fun p hp => ?_⟩
    refine for_lv2 (d := d) (lv_mono (le.um hp) el) rfl (fun i ρ' μ' => μ' = um μ p (.lst ((once (szs.take i)).map tI)) ∧ ∃ r2, ρ' = [some d, some (.mut p), r2]) ⟨by rw [List.take_zero]; rfl, none, rfl⟩ (fun i ρ' μ' hI => by rw [hI.1]; exact lv_mono (le.um hp) el) ?_ ?_
    · rintro i e ρ' μ' he ⟨rfl, r2, rfl⟩
      rw [List.getElem?_map] at he
      cases hs : szs[i]? with
      | none => rw [hs] at he; cases he
      | some s =>
        rw [hs] at he
        obtain rfl : tI s = e := Option.some.inj he
        have hz := Nat.le_trans (once_len (szs.take i)) (by rw [List.length_take]; exact Nat.min_le_right _ _ : (szs.take i).length ≤ szs.length)
        have tk := once_take hs
        unfold w_law_once_b1
        walk_at "w"
        refine ⟨pI s, (once (szs.take i)).map tI, (once (szs.take i)).map pI, toP_tup s, ?_, toPs_tups _, shaped_tup s, shaped_tups _, ?_⟩
        · show (match um μ p _ p with | some (.lst l) => some l | _ => none) = _
          rw [um_same]
        · rw [any_tup]
          by_cases c : s ∈ once (szs.take i)
          · rw [if_pos c] at tk
            rw [decide_eq_true c]
            exact wk.of ⟨by rw [tk], _, rfl⟩
          · rw [if_neg c] at tk
            rw [decide_eq_false c]
            refine ⟨⟨p, _, rfl, um_same⟩, ?_⟩
            rw [um_same]
            refine ⟨by rw [List.length_map]; omega, wk.of ⟨by rw [um_um, tk, List.map_append]; rfl, _, rfl⟩⟩
    · rintro ρ' μ' ⟨rfl, r2, rfl⟩
      rw [List.length_map, List.take_length]
      walk_at "w"
      rw [rm_um hp]
      exact dwn.of h
  · exact h.elim
theorem len_law_once (A : Ad) : ∀ ds μ Q E, c_law_once A ds μ Q E → ds.length = 1 := by
  intro ds μ Q E h
  unfold c_law_once at h
  first | (split at h) | (split at h)
  all_goals first | rfl | exact h.elim
theorem ok_law_once {P : Program} {w : World} {K : PySem.W.Frag} {mg : Str → Option Value} {base : Heap} {A : Ad} (D : Dfn K mg "_law_once" "_law_once" s_law_once ["things"]) (T : Tx P base K mg A)  : DfOk P w K mg base "_law_once" 1 ["things"] (c_law_once A) := by
  obtain ⟨f, fd, F, hm, hb⟩ := D
  refine ⟨f, fd, okD F sc_law_once (by decide) (len_law_once A) ?_, hm, F.kp, hb⟩
  intro X W E cdv B outer s H Ex hX tk hp hr
  subst hX
  exact ⟨_, w_law_once A E, (scons (sset (i := 1) (elst anil) sc_law_once.nd)
  (scons (sfor hp (il (ev 0)) (gnm 2 sc_law_once.nd) (sone (sif (tc' (op_notInD (Room.units65 hr)) do_notInD (ev 2) (ev 1) (by rfl)) (sone (sexpr (eapp (ev 1) (acons (ev 2) anil)))) snil)))
  (sone (sret (efrz (ev 1)))))), fun ds μ Q E0 hc hE => by subst hE; exact pure_law_once A ds μ Q E0 hc⟩
def c_law_dim (A : Ad) : Ct := fun ds μ Q _ => match ds with
  | [.mut p, .int least] => ∃ st, μ p = some (.lst st) ∧ StOk st ∧ least = 1 ∧ ∀ (n : Int) st', 1 ≤ n → n ≤ 5 → StOk st' → Q (.int n) (um μ p (.lst st'))
  | _ => False
abbrev s_law_dim : Stmt := top 49
theorem sc_law_dim : FnScope ["store", "least", "d"] ["store", "least"] (defScope s_law_dim) := ⟨rfl, rfl, rfl, by decide +kernel, rfl, by decide +kernel, by decide +kernel⟩
def w_law_dim (A : Ad) (E : EX) : WS := (wRet (wCall (c_law_pick A) E (wCons (wVar 0) (wCons (wFrz (wLc (iLs (wLstF (wCons (wC (.int (2))) (wCons (wC (.int (3))) (wCons (wC (.int (3))) (wCons (wC (.int (2))) (wCons (wC (.int (1))) (wCons (wC (.int (4))) (wCons (wC (.int (3))) (wCons (wC (.int (5))) wNil)))))))))) 2 [2] (wTe (wOp fGe (wVar 2) (wVar 1))) (wVar 2))) wNil))))
theorem pure_law_dim (A : Ad) (ds μ Q E0) (h : c_law_dim A ds μ Q E0) : w_law_dim A (fun C fs _ μ => dwx E0 C fs μ) (rets Q) (st0 3 ds) μ := by
  unfold c_law_dim at h
  split at h
  · rename_i p least
    obtain ⟨st, hp, hst, rfl, h⟩ := h
    unfold w_law_dim
    walk_at "arg"
    refine lc_frz [2, 3, 3, 2, 1, 4, 3, 5] D.int (fun _ => true) D.int ⟨.fix _, rfl, trivial, fun R hR => ⟨by decide, hR⟩⟩ (by decide) (fun x hx μ' R _ hR => ?_) (fun x hx _ μ' R _ hR => hR) ?_
    · have : (1 : Int) ≤ x := by
        simp only [List.mem_cons, List.not_mem_nil, or_false] at hx
        omega
      show R (decide ((1 : Int) ≤ x)) μ'
      rw [decide_eq_true this]
      exact hR
    · refine ⟨st, hp, hst, by decide, by decide, fun d st1 hd hs1 => ?_⟩
      have : ∃ n : Int, d = .int n ∧ 1 ≤ n ∧ n ≤ 5 := by
        simp only [List.filter_cons_of_pos, List.filter_nil, List.map_cons, List.map_nil, List.mem_cons, List.not_mem_nil, or_false] at hd
        rcases hd with rfl | rfl | rfl | rfl | rfl | rfl | rfl | rfl <;> exact ⟨_, rfl, by decide, by decide⟩
      obtain ⟨n, rfl, n1, n5⟩ := this
      exact dwn.of (h n st1 n1 n5 hs1)
  · exact h.elim
theorem len_law_dim (A : Ad) : ∀ ds μ Q E, c_law_dim A ds μ Q E → ds.length = 2 := by
  intro ds μ Q E h
  unfold c_law_dim at h
  first | (split at h) | (split at h)
  all_goals first | rfl | exact h.elim
theorem ok_law_dim {P : Program} {w : World} {K : PySem.W.Frag} {mg : Str → Option Value} {base : Heap} {A : Ad} (D : Dfn K mg "_law_dim" "_law_dim" s_law_dim ["store", "least"]) (T : Tx P base K mg A) (G_law_pick : DfOk P w K mg base "_law_pick" 3 ["store", "things"] (c_law_pick A)) : DfOk P w K mg base "_law_dim" 4 ["store", "least"] (c_law_dim A) := by
  obtain ⟨f, fd, F, hm, hb⟩ := D
  refine ⟨f, fd, okD F sc_law_dim (by decide) (len_law_dim A) ?_, hm, F.kp, hb⟩
  intro X W E cdv B outer s H Ex hX tk hp hr
  subst hX
  exact ⟨_, w_law_dim A E, (sone (sret (ecall2 tk G_law_pick (hr.mono (by decide)) (acons (ev 0) (acons (efrz (elc sc_law_dim.nd [("d", 2)] 2 (il (elstF (acons ei (acons ei (acons ei (acons ei (acons ei (acons ei (acons ei (acons ei anil)))))))))) (fun _ _ _ _ _ => gnmP 2 sc_law_dim.nd) (fun _ _ _ _ _ => ⟨_, (tsone (tc' op_ge do_ge (ev 2) (ev 1)))⟩) (fun _ _ _ _ _ => ⟨_, (ev 2)⟩))) anil))))), fun ds μ Q E0 hc hE => by subst hE; exact pure_law_dim A ds μ Q E0 hc⟩
theorem rep_tI (n : Nat) (c : Int) : D.tup (List.replicate n [D.int c]).flatten = tI (List.replicate n c) := by
  unfold tI
  congr 1
  induction n with
  | zero => rfl
  | succ n ih => rw [List.replicate_succ, List.replicate_succ, List.flatten_cons, List.map_cons, ih]; rfl
theorem ints_of {P : Int → Prop} : ∀ {l : List D}, (∀ e ∈ l, ∃ n, e = .int n ∧ P n) → ∃ ns : List Int, l = ns.map D.int ∧ ∀ n ∈ ns, P n
  | [], _ => ⟨[], rfl, fun n hn => nomatch hn⟩
  | d :: l, h => by
    obtain ⟨n, rfl, hn⟩ := h d List.mem_cons_self
    obtain ⟨ns, e, hs⟩ := ints_of fun e he => h e (List.mem_cons_of_mem _ he)
    exact ⟨n :: ns, by rw [e]; rfl, fun m hm => (List.mem_cons.mp hm).elim (fun z => by rw [z]; exact hn) (hs m)⟩
theorem rep_all {n : Nat} {c : Int} {P : Int → Prop} (h : P c) : ∀ x ∈ List.replicate n c, P x := fun x hx => by rw [(List.mem_replicate.mp hx).2]; exact h
def c_law_pitch (A : Ad) : Ct := fun ds μ Q _ => match ds with
  | [.mut p, .int d] => ∃ st, μ p = some (.lst st) ∧ StOk st ∧ 1 ≤ d ∧ d ≤ 5 ∧ ∀ (ps : List Int) st', ps.length = d.toNat → (∀ n ∈ ps, 1 ≤ n ∧ n ≤ 1000) → StOk st' → Q (tI ps) (um μ p (.lst st'))
  | _ => False
abbrev s_law_pitch : Stmt := top 50
theorem sc_law_pitch : FnScope ["store", "d", "way", "row", "i"] ["store", "d"] (defScope s_law_pitch) := ⟨rfl, rfl, rfl, by decide +kernel, rfl, by decide +kernel, by decide +kernel⟩
def w_law_pitch_4 (A : Ad) (E : EX) : WS := (wSeq (wIf (wTe (wOp fEq (wCall (c_law_take A) E (wCons (wVar 0) (wCons (wC (.int (4))) wNil))) (wC (.int (0))))) (wAsg (wC (.int (1000))) (gSb fSetL (wVar 3) (wCall (c_law_take A) E (wCons (wVar 0) (wCons (wVar 1) wNil))))) wNext)
  (wRet (wCB fTuple (wCons (wVar 3) wNil))))
def w_law_pitch_3 (A : Ad) (E : EX) : WS := (wSeq (wAsg (wLc (iR1 (wCons (wVar 1) wNil)) 4 [4] wYes (wOp fAdd (wC (.int (1))) (wCall (c_law_take A) noE (wCons (wVar 0) (wCons (wC (.int (5))) wNil))))) (gN 3))
  (w_law_pitch_4 A E))
def w_law_pitch (A : Ad) (E : EX) : WS := (wSeq (wAsg (wCall (c_law_take A) E (wCons (wVar 0) (wCons (wC (.int (4))) wNil))) (gN 2))
  (wSeq (wIf (wTe (wOp fLt (wVar 2) (wC (.int (2))))) (wRet (wOp fRepT (wTup (wCons (wC (.int (1))) wNil)) (wVar 1))) wNext)
  (wSeq (wIf (wTe (wOp fEq (wVar 2) (wC (.int (2))))) (wRet (wOp fRepT (wTup (wCons (wOp fAdd (wC (.int (1))) (wCall (c_law_take A) E (wCons (wVar 0) (wCons (wC (.int (4))) wNil)))) wNil)) (wVar 1))) wNext)
  (w_law_pitch_3 A E))))
theorem pure_law_pitch (A : Ad) (ds μ Q E0) (h : c_law_pitch A ds μ Q E0) : w_law_pitch A (fun C fs _ μ => dwx E0 C fs μ) (rets Q) (st0 5 ds) μ := by
  unfold c_law_pitch at h
  split at h
  · rename_i p d
    obtain ⟨st, hp, hst, d1, d5, h⟩ := h
    have fin : ∀ (ps : List Int) (st' : List D) (r : Addr) (x : MO), ps.length = d.toNat → (∀ n ∈ ps, 1 ≤ n ∧ n ≤ 1000) → StOk st' → μ r = none → r ≠ p → dwn Q (tI ps) (um (um μ p (.lst st')) r x) := fun ps st' r x h1 h2 h3 hr hne => ⟨um μ p (.lst st'), le.um (by rw [um_ne hne]; exact hr), h ps st' h1 h2 h3⟩
    have r4 : ∀ (ns : List Int) (st : List D) (r : Addr) (r2 r4 : Option D), ns.length = d.toNat → (∀ n ∈ ns, 1 ≤ n ∧ n ≤ 1000) → StOk st → μ r = none → r ≠ p → w_law_pitch_4 A (fun C fs x μ => dwx E0 C fs μ) (rets Q) [some (.mut p), some (.int d), r2, some (.mut r), r4] (um (um μ p (.lst st)) r (.lst (ns.map D.int))) := by
      intro ns st r r2 r4 hl hn hst hr hne
      unfold w_law_pitch_4
      walk_at "w"
      refine ⟨st, by rw [um_ne (Ne.symm hne), um_same], hst, bd_small (n := 2990) (by decide) (by decide), fun k st1 hs1 k0 k1 _ => ?_⟩
      rw [um_swap hne, um_um]
      walk_at "w"
      refine ite2 (fun _ => ?_) (fun _ => ?_)
      · refine ⟨st1, by rw [um_ne (Ne.symm hne), um_same], hs1, bd_small (n := 2990) (by omega) (by omega), fun w st2 hs2 w0 w1 w2 => ?_⟩
        rw [um_swap hne, um_um]
        have hw : w < ((ns.map D.int).length : Nat) := by
          rw [List.length_map, hl]
          by_cases c : 2 ≤ d
          · have := w1 c; omega
          · have := w2 (by omega); omega
        walk_at "w"
        rw [ixN_in w0 hw]
        dsimp only
        refine ⟨(ns.map D.int).set w.toNat (.int 1000), rfl, ?_⟩
        have e : (ns.map D.int).set w.toNat (.int 1000) = (ns.set w.toNat 1000).map D.int := by rw [List.map_set]
        rw [e]
        refine fin (ns.set w.toNat 1000) st2 r _ (by rw [List.length_set, hl]) (fun n hn' => ?_) hs2 hr hne
        rcases List.mem_or_eq_of_mem_set hn' with z | z
        · exact hn n z
        · rw [z]; omega
      · exact ⟨_, rfl, fin ns st1 r _ hl hn hs1 hr hne⟩
    unfold w_law_pitch
    walk_at "w"
    refine ⟨st, hp, hst, bd_small (n := 2990) (by decide) (by decide), fun k st1 hs1 k0 k1 _ => ?_⟩
    walk_at "w"
    have lr : ∀ c : Int, (List.replicate d.toNat c).length = d.toNat := fun c => List.length_replicate
    refine ite2 (fun _ => ?_) (fun _ => ite2 (fun _ => ?_) (fun _ => ?_))
    · refine ⟨by decide, ⟨fun z => (nomatch z), by omega, by omega, by decide⟩, ?_⟩
      rw [rep_tI]
      exact dwn.of (h _ st1 (lr 1) (rep_all (by decide)) hs1)
    · refine ⟨st1, um_same, hs1, bd_small (n := 2990) (by decide) (by decide), fun w st2 hs2 w0 w1 _ => ?_⟩
      have w1 := w1 (by decide)
      rw [um_um]
      refine ⟨by decide, ⟨fun z => (nomatch z), by omega, by omega, by decide⟩, ?_⟩
      rw [rep_tI]
      exact dwn.of (h _ st2 (lr _) (rep_all (by omega)) hs2)
    · unfold w_law_pitch_3 wSeq
      show wLc _ _ _ _ _ _ (um μ p (.lst st1)) _
      refine lc_draw (p0 := p) (S := StOk) (P := fun e => ∃ n, e = .int n ∧ 1 ≤ n ∧ n ≤ 1000) (L := rng 0 d.toNat) um_same hs1 (fun R hR => ⟨⟨by omega, by omega⟩, hR (.fix _) rfl fun _ _ _ _ => trivial⟩) (by rw [rng_len]; omega) (fun e he r l st R hr hS hR => ?_) (fun l st r hr hne hl hP hS => ?_)
      · have hne : r ≠ p := fun e => by rw [e, um_same] at hr; cases hr
        walk_at "w"
        refine ⟨st, by rw [um_ne (Ne.symm hne), um_same], hS, bd_small (n := 2990) (by decide) (by decide), fun w st2 hs2 w0 w1 _ => ?_⟩
        have w1 := w1 (by decide)
        have := hR (.int (1 + w)) st2 ⟨_, rfl, by omega, by omega⟩ hs2
        rw [um_um] at this
        rw [um_swap hne, um_um]
        exact this
      · obtain ⟨ns, rfl, hn⟩ := ints_of hP
        rw [um_ne hne] at hr
        rw [um_um]
        rw [List.length_map, rng_len] at hl
        exact r4 ns st r _ _ hl hn hS hr hne
  · exact h.elim
theorem len_law_pitch (A : Ad) : ∀ ds μ Q E, c_law_pitch A ds μ Q E → ds.length = 2 := by
  intro ds μ Q E h
  unfold c_law_pitch at h
  first | (split at h) | (split at h)
  all_goals first | rfl | exact h.elim
theorem ok_law_pitch {P : Program} {w : World} {K : PySem.W.Frag} {mg : Str → Option Value} {base : Heap} {A : Ad} (D : Dfn K mg "_law_pitch" "_law_pitch" s_law_pitch ["store", "d"]) (T : Tx P base K mg A) (G_law_take : DfOk P w K mg base "_law_take" 2 ["store", "many"] (c_law_take A)) : DfOk P w K mg base "_law_pitch" 3 ["store", "d"] (c_law_pitch A) := by
  obtain ⟨f, fd, F, hm, hb⟩ := D
  refine ⟨f, fd, okD F sc_law_pitch (by decide) (len_law_pitch A) ?_, hm, F.kp, hb⟩
  intro X W E cdv B outer s H Ex hX tk hp hr
  subst hX
  exact ⟨_, w_law_pitch A E, (scons (sset (i := 2) (ecall2 tk G_law_take (hr.mono (by decide)) (acons (ev 0) (acons ei anil))) sc_law_pitch.nd)
  (scons (sif (tc' op_lt do_lt (ev 2) ei) (sone (sret (erepT (etup (acons ei anil)) (ev 1)))) snil)
  (scons (sif (tc' op_eq do_eq (ev 2) ei) (sone (sret (erepT (etup (acons (eadd ei (ecall2 tk G_law_take (hr.mono (by decide)) (acons (ev 0) (acons ei anil)))) anil)) (ev 1)))) snil)
  (scons (ssetlc sc_law_pitch.nd 3 [("i", 4)] 4 (ir1 T.b_range (acons (ev 1) anil)) (fun _ _ _ _ _ => gnmP 4 sc_law_pitch.nd) (fun _ _ _ _ _ => ⟨_, tsnil⟩) (fun _ _ _ _ _ => ⟨_, (eadd ei (ecall2 takes_no G_law_take (hr.mono (by decide)) (acons (ev 0) (acons ei anil))))⟩))
  (scons (sif (tc' op_eq do_eq (ecall2 tk G_law_take (hr.mono (by decide)) (acons (ev 0) (acons ei anil))) ei) (sone (sasg ei (gsl (ev 3) (ecall2 tk G_law_take (hr.mono (by decide)) (acons (ev 0) (acons (ev 1) anil)))))) snil)
  (sone (sret (ecty call_tuple_of dc_tuple T.b_tuple (acons (ev 3) anil))))))))), fun ds μ Q E0 hc hE => by subst hE; exact pure_law_pitch A ds μ Q E0 hc⟩
end K03
set_option maxHeartbeats 800000
namespace K03
open PySem L2 DL
local macro_rules | `(tactic| walk_at "w") => `(tactic| simp only [wSeq, wNext, wIf, wRet, wRetN, wDrop, wAsg, gN, wVar, wC, wOp, wUn, wNil, wCons, wCB, wTup, wLst, wLstF, wTe, tB0, wAnd, wOr, wNot, wAndV, wOrV, wNotV, wIfE, wCall, wCallG, wRaise, wFrz, fFrz, rets, fI, fI0, fAdd, fSub, fMul, fLt, fLe, fGt, fGe, fMod, fModN, fPow, fDiv, fDivG, fNeg, fEq, fNe, eqF_int, eqF_bl, eqF_str, scal_int, scal_bl, scal_str, fLen, sv, fIx, fAbs, fInt, fList, wSl, fSlL, oNo, oSo, lvr, lv, fCat, wMeL, fApp, fPop, fSetL, gSb, iLs, iTp, iR1, iR2, wFor, gTp, gCn, gNl, wPar, wBrk, wCnt, fIsi, wIsx, wLc, wYes, wip, wTr, truD, wTry, clrD, wFld, fieldsD, wSetF, wMeth, wMake, fStrI, fFmt, wJoin, wJs, wChain, wLc2, wLR, wProp, fRepT, wDIn, wDNewT, fSetD, iR3, gLs, fIns, fPopAt, fClear, fTuple, fMin2, fMaxL, fAny, iEn, wRev, fRev, wDNew, wDNewF, wDsp1, wDsp1F, fAddS, fIsN, fNotN, um_same, um_um, st0, List.map_cons, List.map_nil, List.length_cons, List.length_nil, List.getElem?_cons_zero, List.getElem?_cons_succ, List.set_cons_zero, List.set_cons_succ, List.cons_append, List.nil_append, List.replicate, atI_c0, atI_c1, atI_c2, atI_c3, atI_c4, atI_c5, atI_c6, ixN_70, ixN_71, ixN_72, ixN_73, ixN_74, ixN_75, ixN_76, Nat.reduceAdd, Int.reduceToNat, Int.reducePow, ite_T, ite_F, if_dec, if_ndec, if_nb, true_and, if_true, Bool.false_eq_true, if_false])
def c_law_slim_size (A : Ad) : Ct := fun ds μ Q _ => match ds with
  | [.mut p, .tup pl, .lst sl] => ∃ (st : List D) (ps ns : List Int), μ p = some (.lst st) ∧ StOk st ∧ pl = ps.map D.int ∧ sl = ns.map D.int ∧ ps.length ≤ 5 ∧ (∀ n ∈ ps, 1 ≤ n ∧ n ≤ 1000) ∧ ∀ (zs : List Int) st', zs.length = ps.length → (∀ n ∈ zs, 1 ≤ n ∧ n ≤ 3000) → StOk st' → Q (tI zs) (um μ p (.lst st'))
  | _ => False
abbrev s_law_slim_size : Stmt := top 51
theorem sc_law_slim_size : FnScope ["store", "pitch", "slim", "size", "i", "side"] ["store", "pitch", "slim"] (defScope s_law_slim_size) := ⟨rfl, rfl, rfl, by decide +kernel, rfl, by decide +kernel, by decide +kernel⟩
def w_law_slim_size_b1 (A : Ad) (E : EX) : WS := (wSeq (wAsg (wOp fIx (wVar 1) (wVar 4)) (gN 5))
  (wSeq (wIf (wAnd (wTe (wOp (fInD false) (wVar 4) (wVar 2))) (wTe (wOp fGt (wCall (c_law_take A) E (wCons (wVar 0) (wCons (wC (.int (3))) wNil))) (wC (.int (0)))))) (wSeq (wAsg (wOp fMul (wOp fIx (wVar 1) (wVar 4)) (wOp fAdd (wC (.int (2))) (wCall (c_law_take A) E (wCons (wVar 0) (wCons (wC (.int (2))) wNil))))) (gN 5))
  (wIf (wTe (wOp fEq (wCall (c_law_take A) E (wCons (wVar 0) (wCons (wC (.int (2))) wNil))) (wC (.int (0))))) (wAsg (wOp fAdd (wOp fAdd (wOp fIx (wVar 1) (wVar 4)) (wC (.int (1)))) (wCall (c_law_take A) E (wCons (wVar 0) (wCons (wOp fMul (wC (.int (2))) (wOp fIx (wVar 1) (wVar 4))) wNil)))) (gN 5)) wNext)) (wIf (wTe (wOp fEq (wCall (c_law_take A) E (wCons (wVar 0) (wCons (wC (.int (3))) wNil))) (wC (.int (0))))) (wAsg (wOp fAdd (wC (.int (1))) (wCall (c_law_take A) E (wCons (wVar 0) (wCons (wOp fIx (wVar 1) (wVar 4)) wNil)))) (gN 5)) wNext))
  (wDrop (wMeL fApp (wVar 3) (wCons (wVar 5) wNil)))))
def w_law_slim_size_1 (A : Ad) (E : EX) : WS := (wSeq (wFor (iR1 (wCons (wCB fLen (wCons (wVar 1) wNil)) wNil)) (gN 4) (w_law_slim_size_b1 A E))
  (wRet (wCB fTuple (wCons (wVar 3) wNil))))
def w_law_slim_size (A : Ad) (E : EX) : WS := (wSeq (wAsg (wLst wNil) (gN 3))
  (w_law_slim_size_1 A E))
theorem pure_law_slim_size (A : Ad) (ds μ Q E0) (h : c_law_slim_size A ds μ Q E0) : w_law_slim_size A (fun C fs _ μ => dwx E0 C fs μ) (rets Q) (st0 6 ds) μ := by
  unfold c_law_slim_size at h
  split at h
  · rename_i p pl sl
    obtain ⟨st, ps, ns, hp, hst, rfl, rfl, hl, hps, h⟩ := h
    unfold w_law_slim_size
    walk_at "w"
    refine ⟨by decide, fun r hr => ?_⟩
    have hne : r ≠ p := fun e => by rw [e, hp] at hr; cases hr
    unfold w_law_slim_size_1
    walk_at "w"
    rw [List.length_map]
    refine ⟨⟨by omega, by omega⟩, fun i ρ μ' => ∃ (st : List D) (zs : List Int) (r4 r5 : Option D), μ' = um (um μ p (.lst st)) r (.lst (zs.map D.int)) ∧ StOk st ∧ zs.length = i ∧ (∀ n ∈ zs, 1 ≤ n ∧ n ≤ 3000) ∧ ρ = [some (.mut p), some (.tup (ps.map D.int)), some (.lst (ns.map D.int)), some (.mut r), r4, r5], ⟨st, [], _, _, by rw [um_id hp]; rfl, hst, rfl, (fun n hn => nomatch hn), rfl⟩, fun _ _ _ _ => trivial, ?_, ?_⟩
    · rintro i d ρ μ' hd ⟨st, zs, r4, r5, rfl, hst, hz, hzs, rfl⟩
      rw [fixi] at hd
      obtain ⟨hi, rfl⟩ := rng_at hd
      have hi : i < ps.length := hi
      obtain ⟨b1, b2⟩ := hps ps[i] (List.getElem_mem hi)
      have ea : atI (ps.map D.int) (0 + (i : Nat)) = some (.int ps[i]) := by
        rw [Int.zero_add, atI_0, List.getElem?_map, List.getElem?_eq_getElem hi]; rfl
      generalize ps[i] = x at b1 b2 ea
      have add : ∀ (s : Int) (st : List D), 1 ≤ s → s ≤ 3000 → StOk st → (∃ p' l, D.mut r = D.mut p' ∧ (um (um μ p (.lst st)) r (.lst (zs.map D.int))) p' = some (.lst l)) ∧ (match (um (um μ p (.lst st)) r (.lst (zs.map D.int))) r with
          | some (.lst l) => l.length < 100000 ∧ wk (fun ρ μ' => ∃ (st : List D) (zs : List Int) (r4 r5 : Option D), μ' = um (um μ p (.lst st)) r (.lst (zs.map D.int)) ∧ StOk st ∧ zs.length = i + 1 ∧ (∀ n ∈ zs, 1 ≤ n ∧ n ≤ 3000) ∧ ρ = [some (.mut p), some (.tup (ps.map D.int)), some (.lst (ns.map D.int)), some (.mut r), r4, r5]) [some (.mut p), some (.tup (ps.map D.int)), some (.lst (ns.map D.int)), some (.mut r), some (.int (0 + (i : Nat))), some (.int s)] (um (um (um μ p (.lst st)) r (.lst (zs.map D.int))) r (.lst (l ++ [.int s])))
          | _ => False) := by
        intro s st s1 s2 hs
        refine ⟨⟨r, _, rfl, um_same⟩, ?_⟩
        rw [um_same]
        refine ⟨by rw [List.length_map]; omega, wk.of ⟨st, zs ++ [s], _, _, by rw [um_um, List.map_append]; rfl, hs, by rw [List.length_append, hz]; rfl, fun n hn => ?_, rfl⟩⟩
        rcases List.mem_append.mp hn with hn | hn
        · exact hzs n hn
        · rw [List.mem_singleton.mp hn]; exact ⟨s1, s2⟩
      have fr : ∀ st : List D, (um (um μ p (.lst st)) r (.lst (zs.map D.int))) p = some (.lst st) := fun st => by rw [um_ne (Ne.symm hne), um_same]
      have bd : ∀ y : Int, 0 ≤ y → y ≤ 2000 → Bd 3000 y := fun y h0 h1 => Bd.mono (n := 12) (by unfold Bd; omega) (by decide)
      have mok : ∀ {y : Int}, 0 ≤ y → y ≤ 3 → MulOk x y := fun h0 h1 => mulR ⟨by omega, by omega⟩
      have mok2 : ∀ {y : Int}, 0 ≤ y → y ≤ 1000 → MulOk 2 y := fun h0 h1 => mulR ⟨by omega, by omega⟩
      unfold w_law_slim_size_b1
      walk_at "w"
      rw [ea]
      walk_at "w"
      refine ⟨_, _, _, rfl, rfl, toPs_ints ns, rfl, shaped_ints ns, ?_⟩
      cases ((ns.map PyData.int).any fun z => PyData.eqv z (.int (0 + (i : Nat)))) with
      | true =>
        refine ⟨st, fr st, hst, bd _ (by decide) (by decide), fun k st1 hs1 k0 k1 _ => ?_⟩
        have k1 := k1 (by decide)
        rw [um_swap hne, um_um]
        walk_at "w"
        refine ite2 (fun kp => ?_) (fun kp => ?_)
        · refine ⟨st1, fr st1, hs1, bd _ (by decide) (by decide), fun w st2 hs2 w0 w1 _ => ?_⟩
          have w1 := w1 (by decide)
          rw [um_swap hne, um_um]
          walk_at "w"
          have hw : w = 0 ∨ w = 1 := by omega
          refine ⟨by rcases hw with rfl | rfl <;> exact mok (by omega) (by omega), st2, fr st2, hs2, bd _ (by decide) (by decide), fun u st3 hs3 u0 u1 _ => ?_⟩
          rw [um_swap hne, um_um]
          walk_at "w"
          refine ite2 (fun _ => ?_) (fun _ => ?_)
          · refine ⟨mok2 (by omega) (by omega), st3, fr st3, hs3, bd _ (by omega) (by omega), fun t st4 hs4 t0 t1 t2 => ?_⟩
            have t1 := t1 (by omega)
            rw [um_swap hne, um_um]
            exact add (x + 1 + t) st4 (by omega) (by omega) hs4
          · have := add (x * (2 + w)) st3 (by rcases hw with rfl | rfl <;> omega) (by rcases hw with rfl | rfl <;> omega) hs3
            simp only [um_same, um_um] at this
            exact this
        · refine ⟨st1, fr st1, hs1, bd _ (by decide) (by decide), fun w st2 hs2 w0 w1 _ => ?_⟩
          rw [um_swap hne, um_um]
          walk_at "w"
          refine ite2 (fun _ => ?_) (fun _ => ?_)
          · refine ⟨st2, fr st2, hs2, bd _ (by omega) (by omega), fun t st3 hs3 t0 t1 t2 => ?_⟩
            rw [um_swap hne, um_um]
            exact add (1 + t) st3 (by omega) (by by_cases c : 2 ≤ x; (have := t1 c; omega); (have := t2 (by omega); omega)) hs3
          · have := add x st2 (by omega) (by omega) hs2
            simp only [um_same, um_um] at this
            exact this
      | false =>
        refine ⟨st, fr st, hst, bd _ (by decide) (by decide), fun k st1 hs1 k0 k1 _ => ?_⟩
        rw [um_swap hne, um_um]
        walk_at "w"
        refine ite2 (fun _ => ?_) (fun _ => ?_)
        · refine ⟨st1, fr st1, hs1, bd _ (by omega) (by omega), fun t st3 hs3 t0 t1 t2 => ?_⟩
          rw [um_swap hne, um_um]
          exact add (1 + t) st3 (by omega) (by by_cases c : 2 ≤ x; (have := t1 c; omega); (have := t2 (by omega); omega)) hs3
        · have := add x st1 (by omega) (by omega) hs1
          simp only [um_same, um_um] at this
          exact this
    · rintro ρ μ' ⟨st, zs, r4, r5, rfl, hst, hz, hzs, rfl⟩
      rw [fixi, rng_len] at hz
      walk_at "w"
      exact ⟨_, rfl, um μ p (.lst st), le.um (by rw [um_ne hne]; exact hr), h zs st (by omega) hzs hst⟩
  · exact h.elim
theorem len_law_slim_size (A : Ad) : ∀ ds μ Q E, c_law_slim_size A ds μ Q E → ds.length = 3 := by
  intro ds μ Q E h
  unfold c_law_slim_size at h
  first | (split at h) | (split at h)
  all_goals first | rfl | exact h.elim
theorem ok_law_slim_size {P : Program} {w : World} {K : PySem.W.Frag} {mg : Str → Option Value} {base : Heap} {A : Ad} (D : Dfn K mg "_law_slim_size" "_law_slim_size" s_law_slim_size ["store", "pitch", "slim"]) (T : Tx P base K mg A) (G_law_take : DfOk P w K mg base "_law_take" 2 ["store", "many"] (c_law_take A)) : DfOk P w K mg base "_law_slim_size" 3 ["store", "pitch", "slim"] (c_law_slim_size A) := by
  obtain ⟨f, fd, F, hm, hb⟩ := D
  refine ⟨f, fd, okD F sc_law_slim_size (by decide) (len_law_slim_size A) ?_, hm, F.kp, hb⟩
  intro X W E cdv B outer s H Ex hX tk hp hr
  subst hX
  exact ⟨_, w_law_slim_size A E, (scons (sset (i := 3) (elst anil) sc_law_slim_size.nd)
  (scons (sfor hp (ir1 T.b_range (acons (ecb call_len_seq dc_len T.b_len (acons (ev 1) anil)) anil)) (gnm 4 sc_law_slim_size.nd) (scons (sset (i := 5) (eix (ev 1) (ev 4)) sc_law_slim_size.nd)
  (scons (sif (tbo (tand (tc' (op_inD (Room.units65 hr)) do_inD (ev 4) (ev 2) (by rfl)) (tand1 (tc' op_gt do_gt (ecall2 tk G_law_take (hr.mono (by decide)) (acons (ev 0) (acons ei anil))) ei)))) (scons (sset (i := 5) (emul (eix (ev 1) (ev 4)) (eadd ei (ecall2 tk G_law_take (hr.mono (by decide)) (acons (ev 0) (acons ei anil))))) sc_law_slim_size.nd)
  (sone (sif (tc' op_eq do_eq (ecall2 tk G_law_take (hr.mono (by decide)) (acons (ev 0) (acons ei anil))) ei) (sone (sset (i := 5) (eadd (eadd (eix (ev 1) (ev 4)) ei) (ecall2 tk G_law_take (hr.mono (by decide)) (acons (ev 0) (acons (emul ei (eix (ev 1) (ev 4))) anil)))) sc_law_slim_size.nd)) snil))) (sone (sif (tc' op_eq do_eq (ecall2 tk G_law_take (hr.mono (by decide)) (acons (ev 0) (acons ei anil))) ei) (sone (sset (i := 5) (eadd ei (ecall2 tk G_law_take (hr.mono (by decide)) (acons (ev 0) (acons (eix (ev 1) (ev 4)) anil)))) sc_law_slim_size.nd)) snil)))
  (sone (sexpr (eapp (ev 3) (acons (ev 5) anil)))))))
  (sone (sret (ecty call_tuple_of dc_tuple T.b_tuple (acons (ev 3) anil)))))), fun ds μ Q E0 hc hE => by subst hE; exact pure_law_slim_size A ds μ Q E0 hc⟩
theorem mem_cutD {x : D} {l : List D} {i j : Option Int} (h : x ∈ cutD l i j) : x ∈ l := List.mem_of_mem_drop (List.mem_of_mem_take h)
/-- a size of the right number of axes with sides in their bounds -/
def SzOk (ps zs : List Int) : Prop := zs.length = ps.length ∧ ∀ n ∈ zs, 1 ≤ n ∧ n ≤ 1000000
theorem tis_of {P : List Int → Prop} : ∀ {l : List D}, (∀ e ∈ l, ∃ n, e = tI n ∧ P n) → ∃ ns : List (List Int), l = ns.map tI ∧ ∀ n ∈ ns, P n
  | [], _ => ⟨[], rfl, fun n hn => nomatch hn⟩
  | d :: l, h => by
    obtain ⟨n, rfl, hn⟩ := h d List.mem_cons_self
    obtain ⟨ns, e, hs⟩ := tis_of fun e he => h e (List.mem_cons_of_mem _ he)
    exact ⟨n :: ns, by rw [e]; rfl, fun m hm => (List.mem_cons.mp hm).elim (fun z => by rw [z]; exact hn) (hs m)⟩
theorem atI_int {zs : List Int} {i : Int} (h0 : 0 ≤ i) (h1 : i < zs.length) : ∃ x ∈ zs, atI (zs.map D.int) i = some (.int x) := by
  obtain ⟨d, e, hd, _⟩ := atI_in (l := zs.map D.int) h0 (by rw [List.length_map]; exact h1)
  obtain ⟨x, hx, rfl⟩ := List.mem_map.mp hd
  exact ⟨x, hx, e⟩
theorem atI_tI {zs : List (List Int)} {i : Int} (h0 : 0 ≤ i) (h1 : i < zs.length) : ∃ x ∈ zs, atI (zs.map tI) i = some (tI x) := by
  obtain ⟨d, e, hd, _⟩ := atI_in (l := zs.map tI) h0 (by rw [List.length_map]; exact h1)
  obtain ⟨x, hx, rfl⟩ := List.mem_map.mp hd
  exact ⟨x, hx, e⟩
theorem set_sz {ps z : List Int} {i : Nat} {x : Int} (h : SzOk ps z) (h0 : 1 ≤ x) (h1 : x ≤ 1000000) : SzOk ps (z.set i x) :=
  ⟨by rw [List.length_set]; exact h.1, fun n hn => (List.mem_or_eq_of_mem_set hn).elim (h.2 n) fun e => by rw [e]; exact ⟨h0, h1⟩⟩
theorem set_szs {ps z : List Int} {szs : List (List Int)} {i : Nat} (h : ∀ s ∈ szs, SzOk ps s) (hz : SzOk ps z) : ∀ s ∈ szs.set i z, SzOk ps s := fun s hs => (List.mem_or_eq_of_mem_set hs).elim (h s) fun e => by rw [e]; exact hz
def c_law_catalogue (A : Ad) : Ct := fun ds μ Q _ => match ds with
  | [.mut p, .int d, .int thick, .int most] => ∃ st, μ p = some (.lst st) ∧ StOk st ∧ 1 ≤ d ∧ d ≤ 5 ∧ 0 ≤ thick ∧ most = 12 ∧ ∀ (ps : List Int) (szs : List (List Int)) st' r, ps.length = d.toNat → (∀ n ∈ ps, 1 ≤ n ∧ n ≤ 1000) → szs.length ≤ 12 → szs ≠ [] → (∀ s ∈ szs, SzOk ps s) → StOk st' → μ r = none → r ≠ p → Q (.lst [tI ps, .mut r]) (um (um μ p (.lst st')) r (.lst (szs.map tI)))
  | _ => False
abbrev s_law_catalogue : Stmt := top 52
theorem sc_law_catalogue : FnScope ["store", "d", "thick", "most", "pitch", "slim", "many", "sizes", "k", "i", "at", "size"] ["store", "d", "thick", "most"] (defScope s_law_catalogue) := ⟨rfl, rfl, rfl, by decide +kernel, rfl, by decide +kernel, by decide +kernel⟩
def w_law_catalogue_6 (A : Ad) (E : EX) : WS := (wRet (wLstF (wCons (wVar 4) (wCons (wVar 7) wNil))))
def w_law_catalogue_5 (A : Ad) (E : EX) : WS := (wSeq (wIf (wAnd (wTe (wOp fNeD (wVar 5) (wLstF wNil))) (wTe (wOp fEq (wCall (c_law_take A) E (wCons (wVar 0) (wCons (wC (.int (16))) wNil))) (wC (.int (0)))))) (wSeq (wAsg (wCB fList (wCons (wOp fIx (wVar 7) (wC (.int (0)))) wNil)) (gN 11))
  (wSeq (wAsg (wOp fPow (wC (.int (10))) (wC (.int (6)))) (gSb fSetL (wVar 11) (wOp fIx (wVar 5) (wC (.int (0))))))
  (wAsg (wCB fTuple (wCons (wVar 11) wNil)) (gSb fSetL (wVar 7) (wC (.int (0))))))) wNext)
  (w_law_catalogue_6 A E))
def w_law_catalogue_b1 (A : Ad) (E : EX) : WS := (wSeq (wAsg (wCall (c_law_take A) E (wCons (wVar 0) (wCons (wVar 6) wNil))) (gN 10))
  (wSeq (wAsg (wCB fList (wCons (wOp fIx (wVar 7) (wVar 10)) wNil)) (gN 11))
  (wSeq (wIf (wTe (wOp fLe (wOp fIx (wVar 11) (wVar 9)) (wOp fIx (wVar 4) (wVar 9)))) (wAsg (wOp fAdd (wOp fAdd (wOp fIx (wVar 4) (wVar 9)) (wC (.int (1)))) (wCall (c_law_take A) E (wCons (wVar 0) (wCons (wOp fMul (wC (.int (2))) (wOp fIx (wVar 4) (wVar 9))) wNil)))) (gSb fSetL (wVar 11) (wVar 9))) wNext)
  (wAsg (wCB fTuple (wCons (wVar 11) wNil)) (gSb fSetL (wVar 7) (wVar 10))))))
def w_law_catalogue_4 (A : Ad) (E : EX) : WS := (wSeq (wFor (iLs (wVar 5)) (gN 9) (w_law_catalogue_b1 A E))
  (w_law_catalogue_5 A E))
def w_law_catalogue_3 (A : Ad) (E : EX) : WS := (wSeq (wAsg (wLc (iR1 (wCons (wVar 6) wNil)) 8 [8] wYes (wCall (c_law_slim_size A) noE (wCons (wVar 0) (wCons (wVar 4) (wCons (wVar 5) wNil))))) (gN 7))
  (w_law_catalogue_4 A E))
def w_law_catalogue_2 (A : Ad) (E : EX) : WS := (wSeq (wAsg (wOp fAdd (wC (.int (1))) (wCall (c_law_take A) E (wCons (wVar 0) (wCons (wVar 3) wNil)))) (gN 6))
  (w_law_catalogue_3 A E))
def w_law_catalogue_1 (A : Ad) (E : EX) : WS := (wSeq (wAsg (wSl fSlL (wCall (c_law_shuffled A) E (wCons (wVar 0) (wCons (wFrz (wLR (wVar 1))) wNil))) oNo (oSo (wVar 2))) (gN 5))
  (w_law_catalogue_2 A E))
def w_law_catalogue (A : Ad) (E : EX) : WS := (wSeq (wAsg (wCall (c_law_pitch A) E (wCons (wVar 0) (wCons (wVar 1) wNil))) (gN 4))
  (w_law_catalogue_1 A E))
theorem pure_law_catalogue (A : Ad) (ds μ Q E0) (h : c_law_catalogue A ds μ Q E0) : w_law_catalogue A (fun C fs _ μ => dwx E0 C fs μ) (rets Q) (st0 12 ds) μ := by
  unfold c_law_catalogue at h
  split at h
  · rename_i p d thick most
    obtain ⟨st, hp, hst, d1, d5, ht, rfl, h⟩ := h
    unfold w_law_catalogue
    walk_at "w"
    refine ⟨st, hp, hst, d1, d5, fun ps st1 hps hpn hs1 => ?_⟩
    unfold w_law_catalogue_1
    walk_at "w"
    refine ⟨⟨by omega, by omega⟩, fun q hq => ?_⟩
    rw [rm_um hq]
    refine ⟨st1, um_same, hs1, by unfold DL.upTo; rw [List.length_map, List.length_range]; omega, fun sl st2 hsl hm hs2 => ?_⟩
    rw [um_um]
    walk_at "w"
    obtain ⟨ns, ens, hns⟩ := ints_of (P := fun n => 0 ≤ n ∧ n < d) (l := cutD sl none (some thick)) fun e he => by
      have := hm e (mem_cutD he)
      unfold DL.upTo at this
      obtain ⟨j, hj, rfl⟩ := List.mem_map.mp this
      rw [List.mem_range] at hj
      exact ⟨_, rfl, by omega, by omega⟩
    rw [ens]
    unfold w_law_catalogue_2
    walk_at "w"
    refine ⟨st2, um_same, hs2, bd_small (n := 2990) (by decide) (by decide), fun k st3 hs3 k0 k1 _ => ?_⟩
    have k1 := k1 (by decide)
    rw [um_um]
    unfold w_law_catalogue_3 wSeq
    show wLc _ _ _ _ _ _ (um μ p (.lst st3)) _
    refine lc_draw (p0 := p) (S := StOk) (P := fun e => ∃ zs, e = tI zs ∧ SzOk ps zs) (L := rng 0 (1 + k).toNat) um_same hs3 (fun R hR => ⟨⟨by omega, by omega⟩, hR (.fix _) rfl fun _ _ _ _ => trivial⟩) (by rw [rng_len]; omega) (fun e he r l st R hr hS hR => ?_) (fun l st r hr hne hl hP hS => ?_)
    · have hne : r ≠ p := fun e => by rw [e, um_same] at hr; cases hr
      walk_at "w"
      refine ⟨st, ps, ns, by rw [um_ne (Ne.symm hne), um_same], hS, rfl, rfl, by omega, hpn, fun zs st' hz hzs hs' => ?_⟩
      have := hR (tI zs) st' ⟨zs, rfl, hz, fun n hn => ⟨(hzs n hn).1, by have := (hzs n hn).2; omega⟩⟩ hs'
      rw [um_um] at this
      rw [um_swap hne, um_um]
      exact this
    · obtain ⟨szs, rfl, hz⟩ := tis_of hP
      rw [um_ne hne] at hr
      rw [um_um]
      rw [List.length_map, rng_len] at hl
      have s5 : ∀ (szs : List (List Int)) (st : List D) (r8 r9 r10 r11 : Option D), szs.length = (1 + k).toNat → (∀ s ∈ szs, SzOk ps s) → StOk st → w_law_catalogue_5 A (fun C fs x μ => dwx E0 C fs μ) (rets Q) [some (.mut p), some (.int d), some (.int thick), some (.int 12), some (tI ps), some (.lst (ns.map D.int)), some (.int (1 + k)), some (.mut r), r8, r9, r10, r11] (um (um μ p (.lst st)) r (.lst (szs.map tI))) := by
        intro szs st r8 r9 r10 r11 hl hz hS
        have fin : ∀ (szs : List (List Int)) (st : List D), szs.length = (1 + k).toNat → (∀ s ∈ szs, SzOk ps s) → StOk st → dwn Q (.lst [tI ps, .mut r]) (um (um μ p (.lst st)) r (.lst (szs.map tI))) := fun szs st hl hz hS => dwn.of (h ps szs st r hps hpn (by omega) (fun e => by rw [e] at hl; simp only [List.length_nil] at hl; omega) hz hS hr hne)
        unfold w_law_catalogue_5 w_law_catalogue_6
        walk_at "w"
        refine ⟨by decide, _, _, congrArg (Option.map PyData.list) (toPs_ints ns), congrArg (Option.map PyData.list) (toPs_ints []), shaped_ints ns, shaped_ints [], ?_⟩
        dsimp only
        refine ite2 (fun hb => ?_) (fun _ => ⟨by decide, fin szs st hl hz hS⟩)
        have hn0 : ns ≠ [] := fun e => by rw [e] at hb; revert hb; decide
        refine ⟨st, by rw [um_ne (Ne.symm hne), um_same], hS, bd_small (n := 2990) (by decide) (by decide), fun w st4 hs4 w0 w1 w2 => ?_⟩
        rw [um_swap hne, um_um]
        refine ⟨rfl, ite2 (fun _ => ?_) (fun _ => ⟨by decide, fin szs st4 hl hz hs4⟩)⟩
        rw [um_same]
        dsimp only
        obtain ⟨z, zm, ez⟩ := atI_tI (zs := szs) (Int.le_refl 0) (by omega)
        obtain ⟨zl, zs⟩ := hz z zm
        obtain ⟨n, nm, en⟩ := atI_int (zs := ns) (Int.le_refl 0) (by cases ns with | nil => exact absurd rfl hn0 | cons a t => rw [List.length_cons]; omega)
        obtain ⟨n0, n1⟩ := hns n nm
        rw [ez]
        simp only [tI]
        intro q2 hq2
        have hp2 : q2 ≠ p := fun e => by rw [e, um_ne (Ne.symm hne), um_same] at hq2; cases hq2
        have hr2 : q2 ≠ r := fun e => by rw [e, um_same] at hq2; cases hq2
        refine ⟨pw (by decide), ?_⟩
        rw [en]
        dsimp only
        rw [um_same]
        dsimp only
        rw [ixN_in n0 (show n < ((z.map D.int).length : Nat) by rw [List.length_map]; omega)]
        dsimp only
        rw [um_same]
        dsimp only
        refine ⟨_, rfl, ?_⟩
        rw [um_um, um_ne (Ne.symm hr2), um_same]
        dsimp only
        rw [ixN_in (Int.le_refl 0) (show (0 : Int) < ((szs.map tI).length : Nat) by rw [List.length_map]; omega)]
        dsimp only
        have e : D.tup ((z.map D.int).set n.toNat (.int 1000000)) = tI (z.set n.toNat 1000000) := by unfold tI; rw [List.map_set]
        rw [e, ← List.map_set (f := tI)]
        obtain ⟨μ', l', hf⟩ := fin (szs.set (Int.toNat 0) (z.set n.toNat 1000000)) st4 (by rw [List.length_set]; exact hl) (set_szs hz (set_sz ⟨zl, zs⟩ (by decide) (by decide))) hs4
        exact ⟨by decide, μ', l'.trans (le.um2 ((le.um (by rw [um_ne hne]; exact hr)).trans (le.um hq2))), hf⟩
      unfold w_law_catalogue_4
      walk_at "w"
      refine ⟨fun i ρ μ' => ∃ (st : List D) (szs : List (List Int)) (r8 r9 r10 r11 : Option D), μ' = um (um μ p (.lst st)) r (.lst (szs.map tI)) ∧ szs.length = (1 + k).toNat ∧ (∀ s ∈ szs, SzOk ps s) ∧ StOk st ∧ ρ = [some (.mut p), some (.int d), some (.int thick), some (.int 12), some (tI ps), some (.lst (ns.map D.int)), some (.int (1 + k)), some (.mut r), r8, r9, r10, r11], ⟨st, szs, _, _, _, _, rfl, hl, hz, hS, rfl⟩, fun _ _ _ _ => trivial, ?_, ?_⟩
      · rintro i e ρ μ' hd ⟨st, szs, r8, r9, r10, r11, rfl, hl, hz, hS, rfl⟩
        rw [fixi] at hd
        obtain ⟨n, hn, rfl⟩ := List.mem_map.mp (List.mem_of_getElem? hd)
        obtain ⟨n0, n1⟩ := hns n hn
        unfold w_law_catalogue_b1
        walk_at "w"
        refine ⟨st, by rw [um_ne (Ne.symm hne), um_same], hS, bd_small (n := 2990) (by omega) (by omega), fun w st4 hs4 w0 w1 w2 => ?_⟩
        have hw : w < (szs.length : Nat) := by
          by_cases c : 2 ≤ 1 + k
          · have := w1 c; omega
          · have := w2 (by omega); omega
        rw [um_swap hne, um_um]
        walk_at "w"
        obtain ⟨z, zm, ez⟩ := atI_tI w0 hw
        obtain ⟨zl, zs⟩ := hz z zm
        rw [ez]
        simp only [tI]
        intro q2 hq2
        obtain ⟨x, xm, ex⟩ := atI_int n0 (show n < (z.length : Nat) by omega)
        obtain ⟨y, ym, ey⟩ := atI_int n0 (show n < (ps.length : Nat) by omega)
        obtain ⟨y1, y2⟩ := hpn y ym
        have hp2 : q2 ≠ p := fun e => by rw [e, um_ne (Ne.symm hne), um_same] at hq2; cases hq2
        have hr2 : q2 ≠ r := fun e => by rw [e, um_same] at hq2; cases hq2
        rw [ex, ey]
        dsimp only
        have iw : ixN (szs.map tI).length w = some w.toNat := ixN_in w0 (by rw [List.length_map]; exact hw)
        refine ite2 (fun _ => ?_) (fun _ => ?_)
        · refine ⟨mulR ⟨by omega, by omega⟩, st4, by rw [um_ne (Ne.symm hp2), um_ne (Ne.symm hne), um_same], hs4, Bd.mono (n := 12) (by unfold Bd; omega) (by decide), fun u st5 hs5 u0 u1 _ => ?_⟩
          have u1 := u1 (by omega)
          simp only [um_swap hne, um_swap hp2, um_um]
          walk_at "w"
          rw [ixN_in n0 (show n < ((z.map D.int).length : Nat) by rw [List.length_map]; omega)]
          dsimp only
          refine ⟨_, rfl, ?_⟩
          rw [um_ne (Ne.symm hr2), um_same]
          dsimp only
          rw [iw]
          dsimp only
          have e : D.tup ((z.map D.int).set n.toNat (.int (y + 1 + u))) = tI (z.set n.toNat (y + 1 + u)) := by unfold tI; rw [List.map_set]
          rw [e, ← List.map_set (f := tI)]
          exact wk.mu (le.um2 ((le.um (by rw [um_ne hne]; exact hr)).trans (le.um (by rw [um_ne hr2, um_ne hp2]; rwa [um_ne hr2, um_ne hp2] at hq2)))) ⟨st5, szs.set w.toNat (z.set n.toNat (y + 1 + u)), _, _, _, _, rfl, by rw [List.length_set]; exact hl, set_szs hz (set_sz ⟨zl, zs⟩ (by omega) (by omega)), hs5, rfl⟩
        · refine ⟨_, rfl, ?_⟩
          rw [um_ne (Ne.symm hr2), um_same]
          dsimp only
          rw [iw]
          dsimp only
          have e : D.tup (z.map D.int) = tI z := rfl
          rw [e, ← List.map_set (f := tI)]
          exact wk.mu (le.um2 ((le.um (by rw [um_ne hne]; exact hr)).trans (le.um hq2))) ⟨st4, szs.set w.toNat z, _, _, _, _, rfl, by rw [List.length_set]; exact hl, set_szs hz ⟨zl, zs⟩, hs4, rfl⟩
      · rintro ρ μ' ⟨st, szs, r8, r9, r10, r11, rfl, hl, hz, hS, rfl⟩
        exact s5 szs st r8 r9 r10 r11 hl hz hS
  · exact h.elim
theorem len_law_catalogue (A : Ad) : ∀ ds μ Q E, c_law_catalogue A ds μ Q E → ds.length = 4 := by
  intro ds μ Q E h
  unfold c_law_catalogue at h
  first | (split at h) | (split at h)
  all_goals first | rfl | exact h.elim
theorem ok_law_catalogue {P : Program} {w : World} {K : PySem.W.Frag} {mg : Str → Option Value} {base : Heap} {A : Ad} (D : Dfn K mg "_law_catalogue" "_law_catalogue" s_law_catalogue ["store", "d", "thick", "most"]) (T : Tx P base K mg A) (G_law_take : DfOk P w K mg base "_law_take" 2 ["store", "many"] (c_law_take A)) (G_law_slim_size : DfOk P w K mg base "_law_slim_size" 3 ["store", "pitch", "slim"] (c_law_slim_size A)) (G_law_shuffled : DfOk P w K mg base "_law_shuffled" 3 ["store", "things"] (c_law_shuffled A)) (G_law_pitch : DfOk P w K mg base "_law_pitch" 3 ["store", "d"] (c_law_pitch A)) : DfOk P w K mg base "_law_catalogue" 4 ["store", "d", "thick", "most"] (c_law_catalogue A) := by
  obtain ⟨f, fd, F, hm, hb⟩ := D
  refine ⟨f, fd, okD F sc_law_catalogue (by decide) (len_law_catalogue A) ?_, hm, F.kp, hb⟩
  intro X W E cdv B outer s H Ex hX tk hp hr
  subst hX
  exact ⟨_, w_law_catalogue A E, (scons (sset (i := 4) (ecall2 tk G_law_pitch (hr.mono (by decide)) (acons (ev 0) (acons (ev 1) anil))) sc_law_catalogue.nd)
  (scons (sset (i := 5) (eslL (ecall2 tk G_law_shuffled (hr.mono (by decide)) (acons (ev 0) (acons (efrz (elr T.b_list T.b_range (ev 1))) anil))) onone (osome (ev 2))) sc_law_catalogue.nd)
  (scons (sset (i := 6) (eadd ei (ecall2 tk G_law_take (hr.mono (by decide)) (acons (ev 0) (acons (ev 3) anil)))) sc_law_catalogue.nd)
  (scons (ssetlc sc_law_catalogue.nd 7 [("k", 8)] 8 (ir1 T.b_range (acons (ev 6) anil)) (fun _ _ _ _ _ => gnmP 8 sc_law_catalogue.nd) (fun _ _ _ _ _ => ⟨_, tsnil⟩) (fun _ _ _ _ _ => ⟨_, (ecall2 takes_no G_law_slim_size (hr.mono (by decide)) (acons (ev 0) (acons (ev 4) (acons (ev 5) anil))))⟩))
  (scons (sfor hp (il (ev 5)) (gnm 9 sc_law_catalogue.nd) (scons (sset (i := 10) (ecall2 tk G_law_take (hr.mono (by decide)) (acons (ev 0) (acons (ev 6) anil))) sc_law_catalogue.nd)
  (scons (sset (i := 11) (ecty call_list_of dc_list T.b_list (acons (eix (ev 7) (ev 10)) anil)) sc_law_catalogue.nd)
  (scons (sif (tc' op_le do_le (eix (ev 11) (ev 9)) (eix (ev 4) (ev 9))) (sone (sasg (eadd (eadd (eix (ev 4) (ev 9)) ei) (ecall2 tk G_law_take (hr.mono (by decide)) (acons (ev 0) (acons (emul ei (eix (ev 4) (ev 9))) anil)))) (gsl (ev 11) (ev 9)))) snil)
  (sone (sasg (ecty call_tuple_of dc_tuple T.b_tuple (acons (ev 11) anil)) (gsl (ev 7) (ev 10))))))))
  (scons (sif (tbo (tand (tc' (op_neD hr.units) do_neD (ev 5) (elstF anil)) (tand1 (tc' op_eq do_eq (ecall2 tk G_law_take (hr.mono (by decide)) (acons (ev 0) (acons ei anil))) ei)))) (scons (sset (i := 11) (ecty call_list_of dc_list T.b_list (acons (eix (ev 7) ei) anil)) sc_law_catalogue.nd)
  (scons (sasg (epow ei ei) (gsl (ev 11) (eix (ev 5) ei)))
  (sone (sasg (ecty call_tuple_of dc_tuple T.b_tuple (acons (ev 11) anil)) (gsl (ev 7) ei))))) snil)
  (sone (sret (elstF (acons (ev 4) (acons (ev 7) anil))))))))))), fun ds μ Q E0 hc hE => by subst hE; exact pure_law_catalogue A ds μ Q E0 hc⟩
end K03
set_option maxHeartbeats 800000
namespace K03
open PySem L2 DL
local macro_rules | `(tactic| walk_at "w") => `(tactic| simp only [wSeq, wNext, wIf, wRet, wRetN, wDrop, wAsg, gN, wVar, wC, wOp, wUn, wNil, wCons, wCB, wTup, wLst, wLstF, wTe, tB0, wAnd, wOr, wNot, wAndV, wOrV, wNotV, wIfE, wCall, wCallG, wRaise, wFrz, fFrz, rets, fI, fI0, fAdd, fSub, fMul, fLt, fLe, fGt, fGe, fMod, fModN, fPow, fDiv, fDivG, fNeg, fEq, fNe, eqF_int, eqF_bl, eqF_str, scal_int, scal_bl, scal_str, fLen, sv, fIx, fAbs, fInt, fList, wSl, fSlL, oNo, oSo, lvr, lv, fCat, wMeL, fApp, fPop, fSetL, gSb, iLs, iTp, iR1, iR2, wFor, gTp, gCn, gNl, wPar, wBrk, wCnt, fIsi, wIsx, wLc, wYes, wip, wTr, truD, wTry, clrD, wFld, fieldsD, wSetF, wMeth, wMake, fStrI, fFmt, wJoin, wJs, wChain, wLc2, wLR, wProp, fRepT, wDIn, wDNewT, fSetD, iR3, gLs, fIns, fPopAt, fClear, fTuple, fMin2, fMaxL, fAny, iEn, wRev, fRev, wDNew, wDNewF, wDsp1, wDsp1F, fAddS, fIsN, fNotN, um_same, um_um, st0, List.map_cons, List.map_nil, List.length_cons, List.length_nil, List.getElem?_cons_zero, List.getElem?_cons_succ, List.set_cons_zero, List.set_cons_succ, List.cons_append, List.nil_append, List.replicate, atI_c0, atI_c1, atI_c2, atI_c3, atI_c4, atI_c5, atI_c6, ixN_70, ixN_71, ixN_72, ixN_73, ixN_74, ixN_75, ixN_76, Nat.reduceAdd, Int.reduceToNat, Int.reducePow, ite_T, ite_F, if_dec, if_ndec, if_nb, true_and, if_true, Bool.false_eq_true, if_false])
local macro_rules | `(tactic| walk_at "arg") => `(tactic| simp only [wSeq, wAsg, gN, wCall, wCons, wNil, wVar, st0, rets, List.length_nil, List.length_cons, List.map_cons, List.map_nil, List.cons_append, List.nil_append, List.getElem?_cons_zero, List.getElem?_cons_succ, List.set_cons_zero, List.set_cons_succ])
/-! ### what the law wants of a catalogue -/
def c_law_thick (A : Ad) : Ct := fun ds μ Q _ => match ds with
  | [.tup pl, d] => ∃ (ps : List Int) (szs : List (List Int)), pl = ps.map D.int ∧ lv μ d = some (szs.map tI) ∧ szs.length ≤ 1000 ∧ szs ≠ [] ∧ (∀ s ∈ szs, s.length = ps.length) ∧ ps.length ≤ 10 ∧ Q (.lst ((thickP ps szs).map D.int)) μ
  | _ => False
abbrev s_law_thick : Stmt := top 55
theorem sc_law_thick : FnScope ["pitch", "sizes", "i", "size"] ["pitch", "sizes"] (defScope s_law_thick) := ⟨rfl, rfl, rfl, by decide +kernel, rfl, by decide +kernel, by decide +kernel⟩
def w_law_thick (A : Ad) (E : EX) : WS := (wRet (wFrz (wLc (iR1 (wCons (wCB fLen (wCons (wVar 0) wNil)) wNil)) 2 [2] (wTe (wOp fGt (wCB fMaxL (wCons (wFrz (wLc (iLs (wVar 1)) 3 [3] wYes (wOp fIx (wVar 3) (wVar 2)))) wNil)) (wOp fIx (wVar 0) (wVar 2)))) (wVar 2))))
theorem pure_law_thick (A : Ad) (ds μ Q E0) (h : c_law_thick A ds μ Q E0) : w_law_thick A (fun C fs _ μ => dwx E0 C fs μ) (rets Q) (st0 4 ds) μ := by
  unfold c_law_thick at h
  split at h
  · rename_i pl d
    obtain ⟨ps, szs, rfl, el, hl, hn, hs, hp, h⟩ := h
    unfold w_law_thick
    have lenz : ((List.range ps.length).zip ps).length = ps.length := by rw [List.length_zip, List.length_range, Nat.min_self]
    have items : rng 0 ((ps.map D.int).length) = ((List.range ps.length).zip ps).map fun q => D.int (q.1 : Nat) := by
      have : ((List.range ps.length).zip ps).map Prod.fst = List.range ps.length := List.map_fst_zip (by rw [List.length_range]; exact Nat.le_refl _)
      have e : ((List.range ps.length).zip ps).map (fun q => D.int (q.1 : Nat)) = (((List.range ps.length).zip ps).map Prod.fst).map fun i => D.int (i : Nat) := by rw [List.map_map]; rfl
      rw [e, this, List.length_map]
      unfold rng
      refine List.map_congr_left fun i _ => ?_
      rw [Int.zero_add]
    refine lc_frz ((List.range ps.length).zip ps) (fun q => .int (q.1 : Nat)) (fun q => szs.any fun s => decide (q.2 < s.getD q.1 0)) (fun q => .int (q.1 : Nat)) ⟨.fix _, items, trivial, fun R h => ⟨⟨by rw [List.length_map]; omega, by rw [List.length_map]; omega⟩, h⟩⟩ (by omega) (fun q hq μ' R hl' hR => ?_) (fun q hq _ μ' R _ hR => hR) ?_
    · have hi : q.1 < ps.length ∧ ps[q.1]? = some q.2 := by
        obtain ⟨j, hj, e⟩ := List.mem_iff_getElem.mp hq
        rw [List.getElem_zip, List.getElem_range] at e
        rw [← e]
        rw [lenz] at hj
        exact ⟨hj, List.getElem?_eq_getElem hj⟩
      have ep : atI (ps.map D.int) ((q.1 : Nat) : Int) = some (.int q.2) := by
        rw [atI_0, List.getElem?_map, hi.2]; rfl
      show wFrz _ _ μ' _
      refine lc_frz szs tI (fun _ => true) (fun s => .int (s.getD q.1 0)) (wi_lv rfl (lv_mono hl' el)) (by omega) (fun s hs μ2 R2 _ h2 => h2) (fun s hsm _ μ2 R2 _ h2 => ?_) ?_
      · unfold tI
        walk_at "w"
        have ls := hs s hsm
        have e1 : atI (s.map D.int) ((q.1 : Nat) : Int) = some (.int (s.getD q.1 0)) := by
          rw [atI_0, List.getElem?_map, List.getD_eq_getElem?_getD, List.getElem?_eq_getElem (by omega)]
          rfl
        rw [e1]
        exact h2
      · walk_at "w"
        refine ⟨_, szs.map fun s => s.getD q.1 0, rfl, ?_, by rw [List.length_map]; exact List.length_pos_iff.mpr hn, fun m hm hy => ?_⟩
        · rw [List.filter_eq_self.mpr fun _ _ => rfl]
          have := intsD_map (szs.map fun s => s.getD q.1 0)
          rw [List.map_map] at this
          exact this
        · rw [ep]
          walk_at "w"
          have : (szs.any fun s => decide (q.2 < s.getD q.1 0)) = decide (q.2 < m) := by
            rw [Bool.eq_iff_iff, List.any_eq_true, decide_eq_true_eq]
            constructor
            · rintro ⟨s, hs', c⟩
              have := hy _ (List.mem_map_of_mem hs')
              have c := of_decide_eq_true c
              omega
            · intro c
              obtain ⟨s, hs', e⟩ := List.mem_map.mp hm
              exact ⟨s, hs', decide_eq_true (by omega)⟩
          rw [this] at hR
          exact hR
    · unfold thickP at h
      rw [List.map_map] at h
      exact dwn.of h
  · exact h.elim
theorem len_law_thick (A : Ad) : ∀ ds μ Q E, c_law_thick A ds μ Q E → ds.length = 2 := by
  intro ds μ Q E h
  unfold c_law_thick at h
  first | (split at h) | (split at h)
  all_goals first | rfl | exact h.elim
theorem ok_law_thick {P : Program} {w : World} {K : PySem.W.Frag} {mg : Str → Option Value} {base : Heap} {A : Ad} (D : Dfn K mg "_law_thick" "_law_thick" s_law_thick ["pitch", "sizes"]) (T : Tx P base K mg A)  : DfOk P w K mg base "_law_thick" 1 ["pitch", "sizes"] (c_law_thick A) := by
  obtain ⟨f, fd, F, hm, hb⟩ := D
  refine ⟨f, fd, okD F sc_law_thick (by decide) (len_law_thick A) ?_, hm, F.kp, hb⟩
  intro X W E cdv B outer s H Ex hX tk hp hr
  subst hX
  exact ⟨_, w_law_thick A E, (sone (sret (efrz (elcN sc_law_thick.nd [("i", 2)] 2 (ir1 T.b_range (acons (ecb call_len_seq dc_len T.b_len (acons (ev 0) anil)) anil)) (fun _ _ _ _ _ => gnmP 2 sc_law_thick.nd) (fun _ _ _ _ _ => ⟨_, (tsone (tc' op_gt do_gt (ecb (cr_max rfl) dc_max T.b_max (acons (efrz (elcN sc_law_thick.nd [("size", 3)] 3 (il (ev 1)) (fun _ _ _ _ _ => gnmP 3 sc_law_thick.nd) (fun _ _ _ _ _ => ⟨_, tsnil⟩) (fun _ _ _ _ _ => ⟨_, (eix (ev 3) (ev 2))⟩))) anil)) (eix (ev 0) (ev 2))))⟩) (fun _ _ _ _ _ => ⟨_, (ev 2)⟩))))), fun ds μ Q E0 hc hE => by subst hE; exact pure_law_thick A ds μ Q E0 hc⟩
theorem filter_any {α : Type} (L : List α) (t : α → Bool) : decide (L.filter t ≠ []) = L.any t := by
  induction L with
  | nil => rfl
  | cons a L ih =>
    rw [List.any_cons, List.filter_cons]
    cases t a with
    | true => simp
    | false => simpa using ih
theorem neD_ints (L : List Int) {μ : Mu} {Q : D → Mu → Prop} (q : Q (.bl (decide (L ≠ []))) μ) : fNeD (.lst (L.map D.int)) (.lst []) μ Q := by
  refine ⟨.list (L.map .int), .list [], congrArg (Option.map PyData.list) (toPs_ints L), rfl, shaped_ints L, shaped_ints [], ?_⟩
  have : (!PyData.eqv (.list (L.map .int)) (.list [])) = decide (L ≠ []) := by
    have := eqv_ints L []
    rw [PyData.eqv, show ([] : List PyData) = ([] : List Int).map .int from rfl, this]
    by_cases c : L = [] <;> simp [c]
  rw [this]
  exact q
theorem neD_tups (L : List (List Int)) {μ : Mu} {Q : D → Mu → Prop} (q : Q (.bl (decide (L ≠ []))) μ) : fNeD (.lst (L.map tI)) (.lst []) μ Q := by
  refine ⟨.list (L.map pI), .list [], congrArg (Option.map PyData.list) (toPs_tups L), rfl, shaped_tups L, shaped_tups [], ?_⟩
  have : (!PyData.eqv (.list (L.map pI)) (.list [])) = decide (L ≠ []) := by
    have := eqv_tups L []
    rw [PyData.eqv, show ([] : List PyData) = ([] : List (List Int)).map pI from rfl, this]
    by_cases c : L = [] <;> simp [c]
  rw [this]
  exact q
theorem any_bad (L : List Int) (hi : Int) : (L.any fun n => decide (n < 1) || decide (hi < n)) = !(L.all (inB hi)) := by
  rw [List.not_all_eq_any_not]
  congr 1
  funext n
  unfold inB
  by_cases c1 : n < 1 <;> by_cases c2 : hi < n <;> simp [c1, c2] <;> omega
theorem any_flat (L : List (List Int)) (hi : Int) : (L.flatten.any fun n => decide (n < 1) || decide (hi < n)) = !(L.all fun s => s.all (inB hi)) := by
  rw [any_bad]
  congr 1
  rw [List.all_flatten]
theorem flat_len : ∀ {L : List (List Int)}, (∀ s ∈ L, s.length ≤ 20) → L.flatten.length ≤ 20 * L.length
  | [], _ => Nat.le_refl _
  | s :: L, h => by
    have h1 := h s List.mem_cons_self
    have h2 := flat_len fun t ht => h t (List.mem_cons_of_mem _ ht)
    rw [List.flatten_cons, List.length_append, List.length_cons]
    omega
theorem five {pl : List D} {ρ : En} {μ : Mu} {b : WT} {w1 w2 : WS} {E : DEnds} (hv : ρ[0]? = some (some (.tup pl))) (h : if 1 ≤ pl.length ∧ pl.length ≤ 5 then b ρ μ fun k μ1 => if k = true then w1 E ρ μ1 else w2 E ρ μ1 else w1 E ρ μ) : wIf (wOr (wNot (wTe (wChain fLe fLe (wC (.int 1)) (wCB fLen (wCons (wVar 0) wNil)) (wC (.int 5))))) b) w1 w2 E ρ μ := by
  simp only [wIf, wOr, wNot, wTe, wChain, wC, wCB, wCons, wNil, wVar, fLen, fLe, fI0, tB0, hv, sv]
  by_cases c1 : 1 ≤ pl.length
  · rw [if_pos (decide_eq_true (by omega))]
    by_cases c2 : pl.length ≤ 5
    · rw [if_pos ⟨c1, c2⟩] at h
      rw [decide_eq_true (p := (pl.length : Int) ≤ 5) (by omega), if_neg (by decide)]
      exact h
    · rw [if_neg (by omega)] at h
      rw [decide_eq_false (p := (pl.length : Int) ≤ 5) (by omega)]
      exact h
  · rw [if_neg (by rw [decide_eq_false (by omega)]; decide)]
    rw [if_neg (by omega)] at h
    exact h
theorem bad_test {ρ : En} {i : Nat} {x hi : Int} {μ : Mu} {R : Bool → Mu → Prop} {e : WEx} (he : ∀ ρ μ (Q : D → Mu → Prop), Q (.int hi) μ → e ρ μ Q) (hv : ρ[i]? = some (some (.int x))) (hR : R (decide (x < 1) || decide (hi < x)) μ) : wOr (wTe (wOp fLt (wVar i) (wC (.int 1)))) (wTe (wOp fGt (wVar i) e)) ρ μ R := by
  simp only [wOr, wTe, wOp, wVar, wC, fLt, fI0, tB0, hv]
  by_cases c : x < 1
  · rw [decide_eq_true c] at hR ⊢
    exact hR
  · rw [decide_eq_false c, Bool.false_or] at hR
    rw [decide_eq_false c, if_neg Bool.false_ne_true]
    exact he _ _ _ hR
def wantD (ps : List Int) (szs : List (List Int)) : D := match refuse ps szs with
  | some x => .tup [.str "fault", .lst [.str x]]
  | none => .tup [.str "value", .lst [tI ps, .lst ((once szs).map tI), .int (ps.length : Nat), .lst ((thickP ps (once szs)).map D.int)]]
def c_law_wanted_of (A : Ad) : Ct := fun ds μ Q _ => match ds with
  | [.tup pl, d] => ∃ (ps : List Int) (szs : List (List Int)), pl = ps.map D.int ∧ lv μ d = some (szs.map tI) ∧ szs.length ≤ 1000 ∧ (∀ s ∈ szs, s.length ≤ 20) ∧ ps.length ≤ 10 ∧ Q (wantD ps szs) μ
  | _ => False
abbrev s_law_wanted_of : Stmt := top 62
theorem sc_law_wanted_of : FnScope ["pitch", "sizes", "sides", "size", "n", "rows"] ["pitch", "sizes"] (defScope s_law_wanted_of) := ⟨rfl, rfl, rfl, by decide +kernel, rfl, by decide +kernel, by decide +kernel⟩
def w_law_wanted_of_4 (A : Ad) (E : EX) : WS := (wSeq (wAsg (wCall (c_law_once A) E (wCons (wVar 1) wNil)) (gN 5))
  (wSeq (wIf (wOr (wTe (wOp fNeD (wFrz (wLc (iTp (wVar 0)) 4 [4] (wOr (wTe (wOp fLt (wVar 4) (wC (.int (1))))) (wTe (wOp fGt (wVar 4) (wC (.int (1000)))))) (wVar 4))) (wLstF wNil))) (wOr (wTe (wOp fLt (wCB fLen (wCons (wVar 5) wNil)) (wC (.int (1))))) (wTe (wOp fGt (wCB fLen (wCons (wVar 5) wNil)) (wC (.int (12))))))) (wRet (wTup (wCons (wC (.str "fault")) (wCons (wLstF (wCons (wC (.str "BadCatalogue")) wNil)) wNil)))) wNext)
  (wRet (wTup (wCons (wC (.str "value")) (wCons (wLstF (wCons (wVar 0) (wCons (wVar 5) (wCons (wCB fLen (wCons (wVar 0) wNil)) (wCons (wCall (c_law_thick A) E (wCons (wVar 0) (wCons (wVar 5) wNil))) wNil))))) wNil))))))
def w_law_wanted_of_3 (A : Ad) (E : EX) : WS := (wSeq (wIf (wTe (wOp fNeD (wFrz (wLc (iLs (wVar 2)) 4 [4] (wOr (wTe (wOp fLt (wVar 4) (wC (.int (1))))) (wTe (wOp fGt (wVar 4) (wOp fPow (wC (.int (10))) (wC (.int (6))))))) (wVar 4))) (wLstF wNil))) (wRet (wTup (wCons (wC (.str "fault")) (wCons (wLstF (wCons (wC (.str "BadSize")) wNil)) wNil)))) wNext)
  (w_law_wanted_of_4 A E))
def w_law_wanted_of_2 (A : Ad) (E : EX) : WS := (wSeq (wIf (wOr (wNot (wTe (wChain fLe fLe (wC (.int (1))) (wCB fLen (wCons (wVar 0) wNil)) (wC (.int (5)))))) (wTe (wOp fNeD (wFrz (wLc (iLs (wVar 1)) 3 [3] (wTe (wOp fNe (wCB fLen (wCons (wVar 3) wNil)) (wCB fLen (wCons (wVar 0) wNil)))) (wVar 3))) (wLstF wNil)))) (wRet (wTup (wCons (wC (.str "fault")) (wCons (wLstF (wCons (wC (.str "BadVector")) wNil)) wNil)))) wNext)
  (w_law_wanted_of_3 A E))
def w_law_wanted_of_b1 (A : Ad) (E : EX) : WS := (wAsg (wOp fCat (wVar 2) (wFrz (wCB fList (wCons (wVar 3) wNil)))) (gN 2))
def w_law_wanted_of_1 (A : Ad) (E : EX) : WS := (wSeq (wFor (iLs (wVar 1)) (gN 3) (w_law_wanted_of_b1 A E))
  (w_law_wanted_of_2 A E))
def w_law_wanted_of (A : Ad) (E : EX) : WS := (wSeq (wAsg (wLstF wNil) (gN 2))
  (w_law_wanted_of_1 A E))
theorem pure_law_wanted_of (A : Ad) (ds μ Q E0) (h : c_law_wanted_of A ds μ Q E0) : w_law_wanted_of A (fun C fs _ μ => dwx E0 C fs μ) (rets Q) (st0 6 ds) μ := by
  unfold c_law_wanted_of at h
  split at h
  · rename_i pl d
    obtain ⟨ps, szs, rfl, el, hl, hs, hp, h⟩ := h
    have s4 : ∀ (sd r3 r4 : Option D), (if ps.all (inB 1000) = false then Q (.tup [.str "fault", .lst [.str "BadCatalogue"]]) μ else if (once szs).length < 1 ∨ 12 < (once szs).length then Q (.tup [.str "fault", .lst [.str "BadCatalogue"]]) μ else Q (.tup [.str "value", .lst [tI ps, .lst ((once szs).map tI), .int (ps.length : Nat), .lst ((thickP ps (once szs)).map D.int)]]) μ) → ((∀ s ∈ szs, s.length = ps.length)) → w_law_wanted_of_4 A (fun C fs x μ => dwx E0 C fs μ) (rets Q) [some (.tup (ps.map D.int)), some d, sd, r3, r4, none] μ := by
      intro sd r3 r4 h hs'
      unfold w_law_wanted_of_4
      walk_at "arg"
      refine ⟨szs, el, hl, ?_⟩
      show wFrz _ _ μ _
      refine lc_frz ps D.int (fun n => decide (n < 1) || decide (1000 < n)) D.int ⟨.fix _, rfl, trivial, fun R h => h⟩ (by omega) (fun x _ μ' R _ hR => bad_test (fun _ _ _ h => h) rfl hR) (fun x _ _ μ' R _ hR => hR) ?_
      refine ⟨by decide, neD_ints _ ?_⟩
      rw [filter_any, any_bad]
      cases c : ps.all (inB 1000) with
      | false =>
        rw [c, if_pos rfl] at h
        walk_at "w"
        exact ⟨by decide, by decide, dwn.of h⟩
      | true =>
        rw [c, if_neg (by decide)] at h
        walk_at "w"
        rw [List.length_map]
        have bad : ((once szs).length < 1 ∨ 12 < (once szs).length) → 1 ≤ 100000 ∧ 2 ≤ 100000 ∧ dwn Q (.tup [.str "fault", .lst [.str "BadCatalogue"]]) μ := fun c => by
          rw [if_pos c] at h
          exact ⟨by decide, by decide, dwn.of h⟩
        refine ite2 (fun c => bad (by omega)) (fun c => ite2 (fun c => bad (by omega)) (fun c2 => ?_))
        rw [if_neg (by omega)] at h
        have ol := once_len szs
        refine ⟨ps, once szs, rfl, rfl, by omega, fun e => by rw [e] at c; exact c (by decide), fun s hs => hs' s (once_mem hs), hp, ?_⟩
        rw [List.length_map]
        exact ⟨by decide, by decide, dwn.of h⟩
    have s3 : ∀ (r3 r4 : Option D), (if szs.all (fun s => s.all (inB 1000000)) = false then Q (.tup [.str "fault", .lst [.str "BadSize"]]) μ else if ps.all (inB 1000) = false then Q (.tup [.str "fault", .lst [.str "BadCatalogue"]]) μ else if (once szs).length < 1 ∨ 12 < (once szs).length then Q (.tup [.str "fault", .lst [.str "BadCatalogue"]]) μ else Q (.tup [.str "value", .lst [tI ps, .lst ((once szs).map tI), .int (ps.length : Nat), .lst ((thickP ps (once szs)).map D.int)]]) μ) → ((∀ s ∈ szs, s.length = ps.length)) → w_law_wanted_of_3 A (fun C fs x μ => dwx E0 C fs μ) (rets Q) [some (.tup (ps.map D.int)), some d, some (.lst (szs.flatten.map D.int)), r3, r4, none] μ := by
      intro r3 r4 h hs'
      unfold w_law_wanted_of_3 wSeq wIf wTe wOp
      show wFrz _ _ μ _
      refine lc_frz szs.flatten D.int (fun n => decide (n < 1) || decide (1000000 < n)) D.int ⟨.fix _, rfl, trivial, fun R h => h⟩ (by have := flat_len hs; omega) (fun x _ μ' R _ hR => bad_test (fun _ _ _ h => ⟨pw (by decide), h⟩) rfl hR) (fun x _ _ μ' R _ hR => hR) ?_
      refine ⟨by decide, neD_ints _ ?_⟩
      rw [filter_any, any_flat]
      cases c : szs.all (fun s => s.all (inB 1000000)) with
      | false =>
        rw [c, if_pos rfl] at h
        walk_at "w"
        exact ⟨by decide, by decide, dwn.of h⟩
      | true =>
        rw [c, if_neg (by decide)] at h
        exact s4 _ _ _ h hs'
    unfold w_law_wanted_of
    walk_at "w"
    refine ⟨by decide, ?_⟩
    unfold w_law_wanted_of_1 wSeq
    refine for_lv2 (d := d) el rfl (fun i ρ' μ' => μ' = μ ∧ ∃ r3, ρ' = [some (.tup (ps.map D.int)), some d, some (.lst (((szs.take i).flatten).map D.int)), r3, none, none]) ⟨rfl, none, by rw [List.take_zero]; rfl⟩ (fun i ρ' μ' hI => by rw [hI.1]; exact el) ?_ ?_
    · rintro i e ρ' μ' he ⟨rfl, r3, rfl⟩
      rw [List.getElem?_map] at he
      cases hs' : szs[i]? with
      | none => rw [hs'] at he; cases he
      | some s =>
        rw [hs'] at he
        obtain rfl : tI s = e := Option.some.inj he
        unfold w_law_wanted_of_b1
        walk_at "w"
        simp only [tI]
        intro p hp
        rw [rm_um hp, List.length_map, List.length_map]
        have ls := hs s (List.mem_of_getElem? hs')
        have lt := flat_len (L := szs.take i) fun t ht => hs t (List.mem_of_mem_take ht)
        have : (szs.take i).length ≤ 1000 := by rw [List.length_take]; omega
        have e : (szs.take (i + 1)).flatten.map D.int = (szs.take i).flatten.map D.int ++ s.map D.int := by
          rw [List.take_succ, hs', Option.toList_some, List.flatten_append, List.map_append]
          simp only [List.flatten_cons, List.flatten_nil, List.append_nil]
        exact ⟨by omega, wk.of ⟨rfl, some (tI s), by rw [e]; rfl⟩⟩
    · rintro ρ' μ' ⟨rfl, r3, rfl⟩
      rw [List.length_map, List.take_length]
      unfold wantD refuse verdict at h
      dsimp only
      unfold w_law_wanted_of_2
      have bad : ∀ ρ, Q (.tup [.str "fault", .lst [.str "BadVector"]]) μ' → wRet (wTup (wCons (wC (.str "fault")) (wCons (wLstF (wCons (wC (.str "BadVector")) wNil)) wNil))) { nx := w_law_wanted_of_3 A (fun C fs x μ => dwx E0 C fs μ) (rets Q), rt := fun d μ => dwn Q d μ } ρ μ' := fun ρ h => by
        walk_at "w"
        exact ⟨by decide, by decide, dwn.of h⟩
      refine five (pl := ps.map D.int) rfl ?_
      rw [List.length_map]
      by_cases c : ps.length < 1 ∨ 5 < ps.length
      · rw [if_pos c] at h
        rw [if_neg (by omega)]
        exact bad _ h
      · rw [if_neg c] at h
        rw [if_pos (by omega)]
        show wFrz _ _ μ' _
        refine lc_frz szs tI (fun s => !decide (s.length = ps.length)) tI (wi_lv rfl el) (by omega) (fun s _ μ2 R _ hR => ?_) (fun s _ _ μ2 R _ hR => hR) ?_
        · unfold tI
          walk_at "w"
          rw [List.length_map, List.length_map]
          have e : decide (((s.length : Nat) : Int) = ((ps.length : Nat) : Int)) = decide (s.length = ps.length) := by
            by_cases c : s.length = ps.length <;> simp [c] <;> omega
          rw [e]
          exact hR
        · refine ⟨by decide, neD_tups _ ?_⟩
          rw [filter_any, ← List.not_all_eq_any_not]
          cases c1 : szs.all fun s => decide (s.length = ps.length) with
          | false =>
            rw [c1, if_pos rfl] at h
            exact bad _ h
          | true =>
            rw [c1, if_neg (by decide)] at h
            refine s3 _ _ ?_ fun s hs => of_decide_eq_true (List.all_eq_true.mp c1 s hs)
            cases c2 : szs.all fun s => s.all (inB 1000000) with
            | false =>
              rw [c2, if_pos rfl] at h
              exact h
            | true =>
              rw [c2, if_neg (by decide)] at h
              rw [if_neg (by decide)]
              cases c3 : ps.all (inB 1000) with
              | false =>
                rw [c3, if_pos rfl] at h
                exact h
              | true =>
                rw [c3, if_neg (by decide)] at h
                rw [if_neg (by decide)]
                by_cases c4 : (once szs).length < 1 ∨ 12 < (once szs).length
                · rw [if_pos c4] at h ⊢
                  exact h
                · rw [if_neg c4] at h ⊢
                  exact h
  · exact h.elim
theorem len_law_wanted_of (A : Ad) : ∀ ds μ Q E, c_law_wanted_of A ds μ Q E → ds.length = 2 := by
  intro ds μ Q E h
  unfold c_law_wanted_of at h
  first | (split at h) | (split at h)
  all_goals first | rfl | exact h.elim
theorem ok_law_wanted_of {P : Program} {w : World} {K : PySem.W.Frag} {mg : Str → Option Value} {base : Heap} {A : Ad} (D : Dfn K mg "_law_wanted_of" "_law_wanted_of" s_law_wanted_of ["pitch", "sizes"]) (T : Tx P base K mg A) (G_law_thick : DfOk P w K mg base "_law_thick" 1 ["pitch", "sizes"] (c_law_thick A)) (G_law_once : DfOk P w K mg base "_law_once" 1 ["things"] (c_law_once A)) : DfOk P w K mg base "_law_wanted_of" 2 ["pitch", "sizes"] (c_law_wanted_of A) := by
  obtain ⟨f, fd, F, hm, hb⟩ := D
  refine ⟨f, fd, okD F sc_law_wanted_of (by decide) (len_law_wanted_of A) ?_, hm, F.kp, hb⟩
  intro X W E cdv B outer s H Ex hX tk hp hr
  subst hX
  exact ⟨_, w_law_wanted_of A E, (scons (sset (i := 2) (elstF anil) sc_law_wanted_of.nd)
  (scons (sfor hp (il (ev 1)) (gnm 3 sc_law_wanted_of.nd) (sone (sset (i := 2) (ecat (ev 2) (efrz (ecty call_list_of dc_list T.b_list (acons (ev 3) anil)))) sc_law_wanted_of.nd)))
  (scons (sif (tbo (tor (tnot (tchain op_le do_le op_le do_le ei (ecb call_len_seq dc_len T.b_len (acons (ev 0) anil)) ei)) (tor1 (tc' (op_neD hr.units) do_neD (efrz (elc sc_law_wanted_of.nd [("size", 3)] 3 (il (ev 1)) (fun _ _ _ _ _ => gnmP 3 sc_law_wanted_of.nd) (fun _ _ _ _ _ => ⟨_, (tsone (tc' op_ne do_ne (ecb call_len_seq dc_len T.b_len (acons (ev 3) anil)) (ecb call_len_seq dc_len T.b_len (acons (ev 0) anil))))⟩) (fun _ _ _ _ _ => ⟨_, (ev 3)⟩))) (elstF anil))))) (sone (sret (etup (acons es' (acons (elstF (acons es' anil)) anil))))) snil)
  (scons (sif (tc' (op_neD hr.units) do_neD (efrz (elc sc_law_wanted_of.nd [("n", 4)] 4 (il (ev 2)) (fun _ _ _ _ _ => gnmP 4 sc_law_wanted_of.nd) (fun _ _ _ _ _ => ⟨_, (tsone (tbo (tor (tc' op_lt do_lt (ev 4) ei) (tor1 (tc' op_gt do_gt (ev 4) (epow ei ei))))))⟩) (fun _ _ _ _ _ => ⟨_, (ev 4)⟩))) (elstF anil)) (sone (sret (etup (acons es' (acons (elstF (acons es' anil)) anil))))) snil)
  (scons (sset (i := 5) (ecall2 tk G_law_once (hr.mono (by decide)) (acons (ev 1) anil)) sc_law_wanted_of.nd)
  (scons (sif (tbo (tor (tc' (op_neD hr.units) do_neD (efrz (elc sc_law_wanted_of.nd [("n", 4)] 4 (it (ev 0)) (fun _ _ _ _ _ => gnmP 4 sc_law_wanted_of.nd) (fun _ _ _ _ _ => ⟨_, (tsone (tbo (tor (tc' op_lt do_lt (ev 4) ei) (tor1 (tc' op_gt do_gt (ev 4) ei)))))⟩) (fun _ _ _ _ _ => ⟨_, (ev 4)⟩))) (elstF anil)) (tor (tc' op_lt do_lt (ecb call_len_seq dc_len T.b_len (acons (ev 5) anil)) ei) (tor1 (tc' op_gt do_gt (ecb call_len_seq dc_len T.b_len (acons (ev 5) anil)) ei))))) (sone (sret (etup (acons es' (acons (elstF (acons es' anil)) anil))))) snil)
  (sone (sret (etup (acons es' (acons (elstF (acons (ev 0) (acons (ev 5) (acons (ecb call_len_seq dc_len T.b_len (acons (ev 0) anil)) (acons (ecall2 tk G_law_thick (hr.mono (by decide)) (acons (ev 0) (acons (ev 5) anil))) anil))))) anil))))))))))), fun ds μ Q E0 hc hE => by subst hE; exact pure_law_wanted_of A ds μ Q E0 hc⟩
end K03
set_option maxHeartbeats 800000
namespace K03
open PySem L2 DL
local macro_rules | `(tactic| walk_at "w") => `(tactic| simp only [wSeq, wNext, wIf, wRet, wRetN, wDrop, wAsg, gN, wVar, wC, wOp, wUn, wNil, wCons, wCB, wTup, wLst, wLstF, wTe, tB0, wAnd, wOr, wNot, wAndV, wOrV, wNotV, wIfE, wCall, wCallG, wRaise, wFrz, fFrz, rets, fI, fI0, fAdd, fSub, fMul, fLt, fLe, fGt, fGe, fMod, fModN, fPow, fDiv, fDivG, fNeg, fEq, fNe, eqF_int, eqF_bl, eqF_str, scal_int, scal_bl, scal_str, fLen, sv, fIx, fAbs, fInt, fList, wSl, fSlL, oNo, oSo, lvr, lv, fCat, wMeL, fApp, fPop, fSetL, gSb, iLs, iTp, iR1, iR2, wFor, gTp, gCn, gNl, wPar, wBrk, wCnt, fIsi, wIsx, wLc, wYes, wip, wTr, truD, wTry, clrD, wFld, fieldsD, wSetF, wMeth, wMake, fStrI, fFmt, wJoin, wJs, wChain, wLc2, wLR, wProp, fRepT, wDIn, wDNewT, fSetD, iR3, gLs, fIns, fPopAt, fClear, fTuple, fMin2, fMaxL, fAny, iEn, wRev, fRev, wDNew, wDNewF, wDsp1, wDsp1F, fAddS, fIsN, fNotN, um_same, um_um, st0, List.map_cons, List.map_nil, List.length_cons, List.length_nil, List.getElem?_cons_zero, List.getElem?_cons_succ, List.set_cons_zero, List.set_cons_succ, List.cons_append, List.nil_append, List.replicate, atI_c0, atI_c1, atI_c2, atI_c3, atI_c4, atI_c5, atI_c6, ixN_70, ixN_71, ixN_72, ixN_73, ixN_74, ixN_75, ixN_76, Nat.reduceAdd, Int.reduceToNat, Int.reducePow, ite_T, ite_F, if_dec, if_ndec, if_nb, true_and, if_true, Bool.false_eq_true, if_false])
local macro_rules | `(tactic| walk_at "arg") => `(tactic| simp only [wSeq, wAsg, gN, wIf, wTe, wC, tB0, wCall, wCons, wNil, wVar, st0, rets, List.length_nil, List.length_cons, List.map_cons, List.map_nil, List.cons_append, List.nil_append, List.getElem?_cons_zero, List.getElem?_cons_succ, List.set_cons_zero, List.set_cons_succ])
/-! ### a drawn catalogue that is good -/
theorem once_snoc (a : List (List Int)) (x : List Int) : once (a ++ [x]) = if x ∈ once a then once a else once a ++ [x] := by
  unfold once
  rw [List.foldl_append]
  rfl
theorem once_two (a : List (List Int)) (x : List Int) : (once (a ++ [x, x])).length ≤ (once a).length + 1 := by
  have e : a ++ [x, x] = (a ++ [x]) ++ [x] := by rw [List.append_assoc]; rfl
  have m : x ∈ once (a ++ [x]) := by
    rw [once_snoc]
    by_cases c : x ∈ once a
    · rw [if_pos c]; exact c
    · rw [if_neg c]; exact List.mem_append_right _ (List.mem_singleton_self _)
  rw [e, once_snoc, if_pos m, once_snoc]
  by_cases c : x ∈ once a
  · rw [if_pos c]; omega
  · rw [if_neg c, List.length_append]; exact Nat.le_refl _
theorem once_pos {szs : List (List Int)} (h : szs ≠ []) : 1 ≤ (once szs).length := by
  have : ∀ (l acc : List (List Int)), acc.length ≤ (l.foldl (fun acc s => if s ∈ acc then acc else acc ++ [s]) acc).length := by
    intro l
    induction l with
    | nil => intro acc; exact Nat.le_refl _
    | cons a l ih =>
      intro acc
      rw [List.foldl_cons]
      refine Nat.le_trans ?_ (ih _)
      split
      · exact Nat.le_refl _
      · rw [List.length_append]; omega
  cases szs with
  | nil => exact absurd rfl h
  | cons a t => exact this t [a]
theorem refuse_none {ps : List Int} {szs : List (List Int)} (h1 : 1 ≤ ps.length) (h5 : ps.length ≤ 5) (hp : ∀ n ∈ ps, 1 ≤ n ∧ n ≤ 1000) (hz : ∀ s ∈ szs, SzOk ps s) (o1 : 1 ≤ (once szs).length) (o2 : (once szs).length ≤ 12) : refuse ps szs = none := by
  unfold refuse verdict
  rw [if_neg (by omega), if_neg (by rw [List.all_eq_true.mpr fun s hs => decide_eq_true (hz s hs).1]; decide),
    if_neg (by rw [List.all_eq_true.mpr fun s hs => List.all_eq_true.mpr fun n hn => inB_yes ((hz s hs).2 n hn)]; decide),
    if_neg (by rw [List.all_eq_true.mpr fun n hn => inB_yes (hp n hn)]; decide)]
  dsimp only
  rw [if_neg (by omega)]
theorem le_rm {μ X : Mu} {r : Addr} (h : μ r = none) (l : le μ X) : le μ (rm X r) := fun a m e => by
  rw [rm_ne (ne_nm e h)]
  exact l a m e
theorem fCat_at {μ : Mu} {x y : D} {l m : List D} {Q : D → Mu → Prop} (hx : lv μ x = some l) (hy : lv μ y = some m) (hl : l.length + m.length ≤ 100000) (q : Q (.lst (l ++ m)) μ) : fCat x y μ Q := by
  unfold fCat
  rw [hx, hy]
  exact ⟨hl, q⟩
def c_law_good (A : Ad) : Ct := fun ds μ Q _ => match ds with
  | [.mut p] => ∃ st, μ p = some (.lst st) ∧ StOk st ∧ ∀ (ps : List Int) (szs : List (List Int)) st', refuse ps szs = none → szs.length ≤ 40 → StOk st' → Q (.lst [tI ps, .lst (szs.map tI)]) (um μ p (.lst st'))
  | _ => False
abbrev s_law_good : Stmt := top 63
theorem sc_law_good : FnScope ["store", "d", "pair", "pitch", "sizes", "size", "k"] ["store"] (defScope s_law_good) := ⟨rfl, rfl, rfl, by decide +kernel, rfl, by decide +kernel, by decide +kernel⟩
def w_law_good_6 (A : Ad) (E : EX) : WS := (wRet (wLstF (wCons (wCB fTuple (wCons (wVar 3) wNil)) (wCons (wFrz (wVar 4)) wNil))))
def w_law_good_b1 (A : Ad) (E : EX) : WS := (wIf (wTe (wOp fLt (wCB fLen (wCons (wCall (c_law_once A) E (wCons (wVar 4) wNil)) wNil)) (wC (.int (12))))) (wAsg (wOp fCat (wVar 4) (wLstF (wCons (wVar 5) (wCons (wVar 5) wNil)))) (gN 4)) wNext)
def w_law_good_5 (A : Ad) (E : EX) : WS := (wSeq (wIf (wTe (wCall (c_law_rare A) E (wCons (wVar 0) (wCons (wC (.int (3))) wNil)))) (wFor (iLs (wFrz (wLc (iR1 (wCons (wC (.int (12))) wNil)) 6 [6] wYes (wOp fRepT (wTup (wCons (wOp fAdd (wVar 6) (wC (.int (1)))) wNil)) (wVar 1))))) (gN 5) (w_law_good_b1 A E)) wNext)
  (w_law_good_6 A E))
def w_law_good_4 (A : Ad) (E : EX) : WS := (wSeq (wIf (wTe (wCall (c_law_rare A) E (wCons (wVar 0) (wCons (wC (.int (3))) wNil)))) (wSeq (wAsg (wCall (c_law_pick A) E (wCons (wVar 0) (wCons (wLstF (wCons (wC (.int (1))) (wCons (wC (.int (1000))) wNil))) wNil))) (gSb fSetL (wVar 3) (wCall (c_law_take A) E (wCons (wVar 0) (wCons (wVar 1) wNil)))))
  (wAsg (wOp fRepT (wTup (wCons (wCall (c_law_pick A) E (wCons (wVar 0) (wCons (wLstF (wCons (wC (.int (1))) (wCons (wOp fPow (wC (.int (10))) (wC (.int (6)))) wNil))) wNil))) wNil)) (wVar 1)) (gSb fSetL (wVar 4) (wCall (c_law_take A) E (wCons (wVar 0) (wCons (wCB fLen (wCons (wVar 4) wNil)) wNil)))))) wNext)
  (w_law_good_5 A E))
def w_law_good_3 (A : Ad) (E : EX) : WS := (wSeq (wAsg (wOp fIx (wVar 2) (wC (.int (1)))) (gN 4))
  (w_law_good_4 A E))
def w_law_good_2 (A : Ad) (E : EX) : WS := (wSeq (wAsg (wCB fList (wCons (wOp fIx (wVar 2) (wC (.int (0)))) wNil)) (gN 3))
  (w_law_good_3 A E))
def w_law_good_1 (A : Ad) (E : EX) : WS := (wSeq (wAsg (wCall (c_law_catalogue A) E (wCons (wVar 0) (wCons (wVar 1) (wCons (wCall (c_law_take A) E (wCons (wVar 0) (wCons (wOp fAdd (wVar 1) (wC (.int (1)))) wNil))) (wCons (wC (.int (12))) wNil))))) (gN 2))
  (w_law_good_2 A E))
def w_law_good (A : Ad) (E : EX) : WS := (wSeq (wAsg (wCall (c_law_dim A) E (wCons (wVar 0) (wCons (wC (.int (1))) wNil))) (gN 1))
  (w_law_good_1 A E))
theorem pure_law_good (A : Ad) (ds μ Q E0) (h : c_law_good A ds μ Q E0) : w_law_good A (fun C fs _ μ => dwx E0 C fs μ) (rets Q) (st0 7 ds) μ := by
  unfold c_law_good at h
  split at h
  · rename_i p
    obtain ⟨st, hp, hst, h⟩ := h
    unfold w_law_good
    walk_at "w"
    refine ⟨st, hp, hst, rfl, fun d st1 d1 d5 hs1 => ?_⟩
    unfold w_law_good_1
    walk_at "w"
    refine ⟨st1, um_same, hs1, bd_small (n := 2990) (by omega) (by omega), fun t st2 hs2 t0 _ _ => ?_⟩
    rw [um_um]
    refine ⟨st2, um_same, hs2, d1, d5, t0, rfl, fun ps szs st3 r hps hpn hz12 hzn hz hs3 hr hne => ?_⟩
    rw [um_um]
    rw [um_ne hne] at hr
    unfold w_law_good_2
    walk_at "w"
    simp only [tI]
    intro q hq
    have hqr : q ≠ r := fun e => by rw [e, um_same] at hq; cases hq
    have hqp : q ≠ p := fun e => by rw [e, um_ne (Ne.symm hne), um_same] at hq; cases hq
    rw [um_ne hqr, um_ne hqp] at hq
    have fr : ∀ S R P : List D, (um (um (um μ p (.lst S)) r (.lst R)) q (.lst P)) p = some (.lst S) := fun S R P => by rw [um_ne (Ne.symm hqp), um_ne (Ne.symm hne), um_same]
    have s6 : ∀ (ps : List Int) (szs : List (List Int)) (st R : List D) (ds : D) (r2 r5 r6 : Option D), ps.length = d.toNat → (∀ n ∈ ps, 1 ≤ n ∧ n ≤ 1000) → szs.length ≤ 40 → 1 ≤ (once szs).length → (once szs).length ≤ 12 → (∀ s ∈ szs, SzOk ps s) → StOk st → (ds = .lst (szs.map tI) ∨ (ds = .mut r ∧ R = szs.map tI)) →
        w_law_good_6 A (fun C fs x μ => dwx E0 C fs μ) (rets Q) [some (.mut p), some (.int d), r2, some (.mut q), some ds, r5, r6] (um (um (um μ p (.lst st)) r (.lst R)) q (.lst (ps.map D.int))) := by
      intro ps szs st R ds r2 r5 r6 h1 h2 h3 h4 h5 h6 h7 h8
      have fin := h ps szs st (refuse_none (by omega) (by omega) h2 h6 h4 h5) h3 h7
      have l1 : le (um μ p (.lst st)) (um (um (um μ p (.lst st)) r (.lst R)) q (.lst (ps.map D.int))) := (le.um (by rw [um_ne hne]; exact hr)).trans (le.um (by rw [um_ne hqr, um_ne hqp]; exact hq))
      unfold w_law_good_6
      rcases h8 with rfl | ⟨rfl, rfl⟩
      · walk_at "w"
        exact ⟨_, rfl, by decide, _, l1, fin⟩
      · walk_at "w"
        refine ⟨_, rfl, ?_⟩
        rw [um_ne (Ne.symm hqr), um_same]
        exact ⟨by decide, _, le_rm (by rw [um_ne hne]; exact hr) l1, fin⟩
    have s5 : ∀ (ps : List Int) (szs : List (List Int)) (st : List D) (r2 r5 r6 : Option D), ps.length = d.toNat → (∀ n ∈ ps, 1 ≤ n ∧ n ≤ 1000) → szs.length ≤ 12 → szs ≠ [] → (∀ s ∈ szs, SzOk ps s) → StOk st →
        w_law_good_5 A (fun C fs x μ => dwx E0 C fs μ) (rets Q) [some (.mut p), some (.int d), r2, some (.mut q), some (.mut r), r5, r6] (um (um (um μ p (.lst st)) r (.lst (szs.map tI))) q (.lst (ps.map D.int))) := by
      intro ps szs st r2 r5 r6 h1 h2 h3 h4 h5 h6
      unfold w_law_good_5
      walk_at "arg"
      refine ⟨st, fr _ _ _, h6, bd_small (n := 2990) (by decide) (by decide), fun b st4 hs4 => ?_⟩
      simp only [um_swap hne, um_swap hqp, um_um]
      have ol := once_len szs
      have op := once_pos h4
      cases b with
      | false => exact s6 ps szs st4 _ _ _ _ _ h1 h2 (by omega) op (by omega) h5 hs4 (.inr ⟨rfl, rfl⟩)
      | true =>
        rw [if_pos rfl]
        show wFrz _ _ (um (um (um μ p (.lst st4)) r (.lst (szs.map tI))) q (.lst (ps.map D.int))) _
        refine lc_frz (List.range 12) (fun k => .int (k : Nat)) (fun _ => true) (fun k => tI (List.replicate d.toNat ((k : Int) + 1))) ⟨.fix (rng 0 12), rfl, trivial, fun R h => ⟨⟨by decide, by decide⟩, h⟩⟩ (by decide) (fun k _ μ' R _ hR => hR) (fun k hk _ μ' R _ hR => ?_) ?_
        · walk_at "w"
          refine ⟨by decide, ⟨fun z => (nomatch z), by omega, by omega, by decide⟩, ?_⟩
          rw [rep_tI]
          exact hR
        · rw [List.filter_eq_self.mpr fun _ _ => rfl]
          have lenL : ((List.range 12).map fun (k : Nat) => tI (List.replicate d.toNat ((k : Int) + 1))).length = 12 := by rw [List.length_map, List.length_range]
          refine ⟨fun i ρ μ' => ∃ (szs : List (List Int)) (R : List D) (ds : D) (r5 r6 : Option D), μ' = um (um (um μ p (.lst st4)) r (.lst R)) q (.lst (ps.map D.int)) ∧ (ds = .lst (szs.map tI) ∨ (ds = .mut r ∧ R = szs.map tI)) ∧ szs.length ≤ 12 + 2 * i ∧ 1 ≤ (once szs).length ∧ (once szs).length ≤ 12 ∧ (∀ s ∈ szs, SzOk ps s) ∧ ρ = [some (.mut p), some (.int d), r2, some (.mut q), some ds, r5, r6], ⟨szs, _, _, _, _, rfl, .inr ⟨rfl, rfl⟩, by omega, op, by omega, h5, rfl⟩, fun _ _ _ _ => trivial, ?_, ?_⟩
          · rintro i e ρ μ' hd ⟨szs, R, ds, r5, r6, rfl, hd', hl, o1, o2, hz, rfl⟩
            rw [fixi] at hd
            have hi := (List.getElem?_eq_some_iff.mp hd).1
            rw [lenL] at hi
            obtain ⟨k, hk, rfl⟩ := List.mem_map.mp (List.mem_of_getElem? hd)
            rw [List.mem_range] at hk
            have el : lv (um (um (um μ p (.lst st4)) r (.lst R)) q (.lst (ps.map D.int))) ds = some (szs.map tI) := by
              rcases hd' with rfl | ⟨rfl, rfl⟩
              · rfl
              · show (match (um (um (um μ p (.lst st4)) r _) q _) r with | some (.lst l) => some l | _ => none) = _
                rw [um_ne (Ne.symm hqr), um_same]
            unfold w_law_good_b1
            simp only [wIf, wTe, wOp, wCB, wCall, wCons, wNil, wVar, wC, wLstF, wAsg, gN, wNext, List.getElem?_cons_zero, List.getElem?_cons_succ, List.length_cons, List.length_nil]
            refine ⟨szs, el, by omega, ?_⟩
            simp only [fLen, fLt, fI0, sv, tB0, List.length_map, List.length_cons, List.length_nil, List.set_cons_zero, List.set_cons_succ, List.getElem?_cons_zero, List.getElem?_cons_succ]
            refine ite2 (fun c => ?_) (fun c => wk.of ⟨szs, R, ds, _, _, rfl, hd', by omega, o1, o2, hz, rfl⟩)
            have c := of_decide_eq_true c
            refine ⟨by decide, fCat_at el rfl (by rw [List.length_map]; exact Nat.le_trans (Nat.add_le_add_right hl _) (by have : i < 12 := hi; show 12 + 2 * i + 2 ≤ 100000; omega)) ?_⟩
            have tw := once_two szs (List.replicate d.toNat ((k : Int) + 1))
            refine wk.of ⟨szs ++ [List.replicate d.toNat ((k : Int) + 1), List.replicate d.toNat ((k : Int) + 1)], R, _, _, _, rfl, .inl (by rw [List.map_append]; rfl), by rw [List.length_append]; show szs.length + 2 ≤ _; omega, once_pos (by simp), by omega, fun s hs => ?_, rfl⟩
            rcases List.mem_append.mp hs with hs | hs
            · exact hz s hs
            · have hs : s = List.replicate d.toNat ((k : Int) + 1) := by
                rcases List.mem_cons.mp hs with hs | hs
                · exact hs
                · exact List.mem_singleton.mp hs
              rw [hs]
              exact ⟨by rw [List.length_replicate]; omega, rep_all ⟨by omega, by omega⟩⟩
          · rintro ρ μ' ⟨szs, R, ds, r5, r6, rfl, hd', hl, o1, o2, hz, rfl⟩
            rw [fixi, lenL] at hl
            exact s6 ps szs st4 R ds _ _ _ h1 h2 (by omega) o1 o2 hz hs4 hd'
    have s4 : ∀ (ps : List Int) (szs : List (List Int)) (st : List D) (r2 r5 r6 : Option D), ps.length = d.toNat → (∀ n ∈ ps, 1 ≤ n ∧ n ≤ 1000) → szs.length ≤ 12 → szs ≠ [] → (∀ s ∈ szs, SzOk ps s) → StOk st →
        w_law_good_4 A (fun C fs x μ => dwx E0 C fs μ) (rets Q) [some (.mut p), some (.int d), r2, some (.mut q), some (.mut r), r5, r6] (um (um (um μ p (.lst st)) r (.lst (szs.map tI))) q (.lst (ps.map D.int))) := by
      intro ps szs st r2 r5 r6 h1 h2 h3 h4 h5 h6
      unfold w_law_good_4
      walk_at "w"
      refine ⟨st, fr _ _ _, h6, bd_small (n := 2990) (by decide) (by decide), fun b st4 hs4 => ?_⟩
      simp only [um_swap hne, um_swap hqp, um_um]
      cases b with
      | false => exact s5 ps szs st4 _ _ _ h1 h2 h3 h4 h5 hs4
      | true =>
        walk_at "w"
        refine ⟨by decide, st4, fr _ _ _, hs4, by decide, by decide, fun x st5 hx hs5 => ?_⟩
        simp only [um_swap hne, um_swap hqp, um_um]
        have hx : ∃ a : Int, x = .int a ∧ 1 ≤ a ∧ a ≤ 1000 := by
          rcases List.mem_cons.mp hx with rfl | hx
          · exact ⟨_, rfl, by decide, by decide⟩
          · rw [List.mem_singleton.mp hx]; exact ⟨_, rfl, by decide, by decide⟩
        obtain ⟨a, rfl, a1, a2⟩ := hx
        refine ⟨st5, fr _ _ _, hs5, bd_small (n := 2990) (by omega) (by omega), fun w st6 hs6 w0 w1 w2 => ?_⟩
        simp only [um_swap hne, um_swap hqp, um_um]
        have hw : w < d := by
          by_cases c : 2 ≤ d
          · exact w1 c
          · have := w2 (by omega); omega
        rw [um_same]
        dsimp only
        rw [ixN_in w0 (show w < ((ps.map D.int).length : Nat) by rw [List.length_map]; omega)]
        dsimp only
        rw [← List.map_set (f := D.int)]
        refine ⟨pw (by decide), by decide, st6, fr _ _ _, hs6, by decide, by decide, fun x st7 hx hs7 => ?_⟩
        simp only [um_swap hne, um_swap hqp, um_um]
        have hx : ∃ a : Int, x = .int a ∧ 1 ≤ a ∧ a ≤ 1000000 := by
          rcases List.mem_cons.mp hx with rfl | hx
          · exact ⟨_, rfl, by decide, by decide⟩
          · rw [List.mem_singleton.mp hx]; exact ⟨_, rfl, by decide, by decide⟩
        obtain ⟨e, rfl, e1, e2⟩ := hx
        refine ⟨by decide, ⟨fun z => (nomatch z), by omega, by omega, by decide⟩, ?_⟩
        rw [um_ne (Ne.symm hqr), um_same]
        dsimp only
        rw [List.length_map]
        have h4' : 1 ≤ szs.length := List.length_pos_iff.mpr h4
        refine ⟨st7, fr _ _ _, hs7, bd_small (n := 2990) (by omega) (by omega), fun u st8 hs8 u0 u1 u2 => ?_⟩
        simp only [um_swap hne, um_swap hqp, um_um]
        have hu : u < (szs.length : Nat) := by
          by_cases c : 2 ≤ ((szs.length : Nat) : Int)
          · exact u1 c
          · have := u2 (by omega); omega
        rw [um_ne (Ne.symm hqr), um_same]
        dsimp only
        rw [ixN_in u0 (show u < ((szs.map tI).length : Nat) by rw [List.length_map]; exact hu)]
        dsimp only
        rw [rep_tI, ← List.map_set (f := tI), um_swap hqr, um_um]
        refine s5 (ps.set w.toNat a) (szs.set u.toNat (List.replicate d.toNat e)) st8 _ _ _ (by rw [List.length_set]; exact h1) (fun n hn => ?_) (by rw [List.length_set]; exact h3) (fun e => by have := congrArg List.length e; rw [List.length_set, List.length_nil] at this; omega) (fun s hs => ?_) hs8
        · rcases List.mem_or_eq_of_mem_set hn with z | z
          · exact h2 n z
          · rw [z]; exact ⟨a1, a2⟩
        · have lp : (ps.set w.toNat a).length = ps.length := List.length_set
          rcases List.mem_or_eq_of_mem_set hs with z | z
          · exact ⟨by rw [lp]; exact (h5 s z).1, (h5 s z).2⟩
          · rw [z]; exact ⟨by rw [lp, List.length_replicate]; omega, rep_all ⟨e1, e2⟩⟩
    unfold w_law_good_3
    walk_at "w"
    exact s4 ps szs st3 _ _ _ hps hpn hz12 hzn hz hs3
  · exact h.elim
theorem len_law_good (A : Ad) : ∀ ds μ Q E, c_law_good A ds μ Q E → ds.length = 1 := by
  intro ds μ Q E h
  unfold c_law_good at h
  first | (split at h) | (split at h)
  all_goals first | rfl | exact h.elim
theorem ok_law_good {P : Program} {w : World} {K : PySem.W.Frag} {mg : Str → Option Value} {base : Heap} {A : Ad} (D : Dfn K mg "_law_good" "_law_good" s_law_good ["store"]) (T : Tx P base K mg A) (G_law_rare : DfOk P w K mg base "_law_rare" 3 ["store", "many"] (c_law_rare A)) (G_law_once : DfOk P w K mg base "_law_once" 1 ["things"] (c_law_once A)) (G_law_pick : DfOk P w K mg base "_law_pick" 3 ["store", "things"] (c_law_pick A)) (G_law_take : DfOk P w K mg base "_law_take" 2 ["store", "many"] (c_law_take A)) (G_law_catalogue : DfOk P w K mg base "_law_catalogue" 4 ["store", "d", "thick", "most"] (c_law_catalogue A)) (G_law_dim : DfOk P w K mg base "_law_dim" 4 ["store", "least"] (c_law_dim A)) : DfOk P w K mg base "_law_good" 5 ["store"] (c_law_good A) := by
  obtain ⟨f, fd, F, hm, hb⟩ := D
  refine ⟨f, fd, okD F sc_law_good (by decide) (len_law_good A) ?_, hm, F.kp, hb⟩
  intro X W E cdv B outer s H Ex hX tk hp hr
  subst hX
  exact ⟨_, w_law_good A E, (scons (sset (i := 1) (ecall2 tk G_law_dim (hr.mono (by decide)) (acons (ev 0) (acons ei anil))) sc_law_good.nd)
  (scons (sset (i := 2) (ecall2 tk G_law_catalogue (hr.mono (by decide)) (acons (ev 0) (acons (ev 1) (acons (ecall2 tk G_law_take (hr.mono (by decide)) (acons (ev 0) (acons (eadd (ev 1) ei) anil))) (acons ei anil))))) sc_law_good.nd)
  (scons (sset (i := 3) (ecty call_list_of dc_list T.b_list (acons (eix (ev 2) ei) anil)) sc_law_good.nd)
  (scons (sset (i := 4) (eix (ev 2) ei) sc_law_good.nd)
  (scons (sif (tval (ecall2 tk G_law_rare (hr.mono (by decide)) (acons (ev 0) (acons ei anil)))) (scons (sasg (ecall2 tk G_law_pick (hr.mono (by decide)) (acons (ev 0) (acons (elstF (acons ei (acons ei anil))) anil))) (gsl (ev 3) (ecall2 tk G_law_take (hr.mono (by decide)) (acons (ev 0) (acons (ev 1) anil)))))
  (sone (sasg (erepT (etup (acons (ecall2 tk G_law_pick (hr.mono (by decide)) (acons (ev 0) (acons (elstF (acons ei (acons (epow ei ei) anil))) anil))) anil)) (ev 1)) (gsl (ev 4) (ecall2 tk G_law_take (hr.mono (by decide)) (acons (ev 0) (acons (ecb call_len_seq dc_len T.b_len (acons (ev 4) anil)) anil))))))) snil)
  (scons (sif (tval (ecall2 tk G_law_rare (hr.mono (by decide)) (acons (ev 0) (acons ei anil)))) (sone (sfor hp (il (efrz (elc sc_law_good.nd [("k", 6)] 6 (ir1 T.b_range (acons ei anil)) (fun _ _ _ _ _ => gnmP 6 sc_law_good.nd) (fun _ _ _ _ _ => ⟨_, tsnil⟩) (fun _ _ _ _ _ => ⟨_, (erepT (etup (acons (eadd (ev 6) ei) anil)) (ev 1))⟩)))) (gnm 5 sc_law_good.nd) (sone (sif (tc' op_lt do_lt (ecb call_len_seq dc_len T.b_len (acons (ecall2 tk G_law_once (hr.mono (by decide)) (acons (ev 4) anil)) anil)) ei) (sone (sset (i := 4) (ecat (ev 4) (elstF (acons (ev 5) (acons (ev 5) anil)))) sc_law_good.nd)) snil)))) snil)
  (sone (sret (elstF (acons (ecty call_tuple_of dc_tuple T.b_tuple (acons (ev 3) anil)) (acons (efrz (ev 4)) anil))))))))))), fun ds μ Q E0 hc hE => by subst hE; exact pure_law_good A ds μ Q E0 hc⟩
end K03
set_option maxHeartbeats 800000
namespace K03
open PySem L2 DL
local macro_rules | `(tactic| walk_at "w") => `(tactic| simp only [wSeq, wNext, wIf, wRet, wRetN, wDrop, wAsg, gN, wVar, wC, wOp, wUn, wNil, wCons, wCB, wTup, wLst, wLstF, wTe, tB0, wAnd, wOr, wNot, wAndV, wOrV, wNotV, wIfE, wCall, wCallG, wRaise, wFrz, fFrz, rets, fI, fI0, fAdd, fSub, fMul, fLt, fLe, fGt, fGe, fMod, fModN, fPow, fDiv, fDivG, fNeg, fEq, fNe, eqF_int, eqF_bl, eqF_str, scal_int, scal_bl, scal_str, fLen, sv, fIx, fAbs, fInt, fList, wSl, fSlL, oNo, oSo, lvr, lv, fCat, wMeL, fApp, fPop, fSetL, gSb, iLs, iTp, iR1, iR2, wFor, gTp, gCn, gNl, wPar, wBrk, wCnt, fIsi, wIsx, wLc, wYes, wip, wTr, truD, wTry, clrD, wFld, fieldsD, wSetF, wMeth, wMake, fStrI, fFmt, wJoin, wJs, wChain, wLc2, wLR, wProp, fRepT, wDIn, wDNewT, fSetD, iR3, gLs, fIns, fPopAt, fClear, fTuple, fMin2, fMaxL, fAny, iEn, wRev, fRev, wDNew, wDNewF, wDsp1, wDsp1F, fAddS, fIsN, fNotN, um_same, um_um, st0, List.map_cons, List.map_nil, List.length_cons, List.length_nil, List.getElem?_cons_zero, List.getElem?_cons_succ, List.set_cons_zero, List.set_cons_succ, List.cons_append, List.nil_append, List.replicate, atI_c0, atI_c1, atI_c2, atI_c3, atI_c4, atI_c5, atI_c6, ixN_70, ixN_71, ixN_72, ixN_73, ixN_74, ixN_75, ixN_76, Nat.reduceAdd, Int.reduceToNat, Int.reducePow, ite_T, ite_F, if_dec, if_ndec, if_nb, true_and, if_true, Bool.false_eq_true, if_false])
/-! ### a drawn fault -/
theorem lvr_cell {μ : Mu} {a : Addr} {l : List D} (h : μ a = some (.lst l)) : lvr μ (.mut a) = some l := by
  show (match μ a with | some (.lst l) => some l | _ => none) = _
  rw [h]
theorem erase_map : ∀ (zs : List Int) (i : Nat), (zs.map D.int).eraseIdx i = (zs.eraseIdx i).map D.int
  | [], _ => rfl
  | a :: zs, 0 => rfl
  | a :: zs, i + 1 => by
    show .int a :: (zs.map D.int).eraseIdx i = .int a :: (zs.eraseIdx i).map D.int
    rw [erase_map zs i]
theorem lv_mut {μ : Mu} {a : Addr} {l : List D} (h : μ a = some (.lst l)) : lv μ (.mut a) = some l := by
  show (match μ a with | some (.lst l) => some l | _ => none) = _
  rw [h]
section
variable {ρ : En} {μ : Mu} {i : Nat} {x c : Int} {t : WT} {a b : WS} {E : DEnds}
theorem wif_eq_no (hv : ρ[i]? = some (some (.int x))) (n : ¬ x = c) (h : b E ρ μ) : wIf (wTe (wOp fEq (wVar i) (wC (.int c)))) a b E ρ μ := by
  simp only [wIf, wTe, wOp, wVar, wC, hv, fEq, tB0, eqF_int, scal_int, true_and]
  rw [if_neg (by rw [decide_eq_true_eq]; exact n)]
  exact h
theorem wif_eq_yes (hv : ρ[i]? = some (some (.int x))) (n : x = c) (h : a E ρ μ) : wIf (wTe (wOp fEq (wVar i) (wC (.int c)))) a b E ρ μ := by
  simp only [wIf, wTe, wOp, wVar, wC, hv, fEq, tB0, eqF_int, scal_int, true_and]
  rw [if_pos (by rw [decide_eq_true_eq]; exact n)]
  exact h
theorem wif_and_no (hv : ρ[i]? = some (some (.int x))) (n : ¬ x = c) (h : b E ρ μ) : wIf (wAnd (wTe (wOp fEq (wVar i) (wC (.int c)))) t) a b E ρ μ := by
  simp only [wIf, wAnd, wTe, wOp, wVar, wC, hv, fEq, tB0, eqF_int, scal_int, true_and]
  rw [if_neg (by rw [decide_eq_true_eq]; exact n)]
  exact h
end
theorem lc_any {ρ : En} {μ : Mu} {wi : WI} {i : Nat} {vs : List Nat} {tt : WT} {te : WEx} {Q : D → Mu → Prop} {I : Wk → Mu → Prop} (hw : ∀ R : Wk → Mu → Prop, (∀ k μ1, I k μ1 → R k μ1) → wi ρ μ R) (h : ∀ k μ1, I k μ1 → wFrz (wLc (fun _ μ R => R k μ) i vs tt te) ρ μ1 Q) : wFrz (wLc wi i vs tt te) ρ μ Q := hw _ h
theorem le_um_r {A B : Mu} {r : Addr} {X : MO} (l : le A B) (h : A r = none) : le A (um B r X) := fun a m e => by
  rw [um_ne (ne_nm e h)]
  exact l a m e
def c_law_spoilt (A : Ad) : Ct := fun ds μ Q _ => match ds with
  | [.mut p, .lst l, .int way, .int d] => ∃ (st : List D) (szs : List (List Int)) (m : Nat), μ p = some (.lst st) ∧ StOk st ∧ l = szs.map tI ∧ 0 ≤ d ∧ d ≤ 7 ∧ szs.length ≤ 900 ∧ 7 ≤ m ∧ m ≤ 100 ∧ (∀ s ∈ szs, s.length ≤ m) ∧ ∀ (szs' : List (List Int)) st', szs'.length ≤ szs.length + 16 → (∀ s ∈ szs', s.length ≤ m + 1) → StOk st' → Q (.lst (szs'.map tI)) (um μ p (.lst st'))
  | _ => False
abbrev s_law_spoilt : Stmt := top 64
theorem sc_law_spoilt : FnScope ["store", "sizes", "way", "d", "rows", "at", "size", "spot", "k"] ["store", "sizes", "way", "d"] (defScope s_law_spoilt) := ⟨rfl, rfl, rfl, by decide +kernel, rfl, by decide +kernel, by decide +kernel⟩
def w_law_spoilt_6 (A : Ad) (E : EX) : WS := (wSeq (wAsg (wCB fTuple (wCons (wVar 6) wNil)) (gSb fSetL (wVar 4) (wVar 5)))
  (wRet (wFrz (wVar 4))))
def w_law_spoilt_5 (A : Ad) (E : EX) : WS := (wSeq (wIf (wAnd (wTe (wOp fEq (wVar 2) (wC (.int (2))))) (wAnd (wTe (wOp fLt (wVar 7) (wCB fLen (wCons (wVar 6) wNil)))) (wTe (wOp fEq (wCall (c_law_take A) E (wCons (wVar 0) (wCons (wC (.int (2))) wNil))) (wC (.int (0))))))) (wDrop (wMeL fPopAt (wVar 6) (wCons (wVar 7) wNil))) (wIf (wTe (wOp fEq (wVar 2) (wC (.int (2))))) (wDrop (wMeL fIns (wVar 6) (wCons (wVar 7) (wCons (wC (.int (1))) wNil)))) (wIf (wAnd (wTe (wOp fEq (wVar 2) (wC (.int (3))))) (wTe (wOp fGt (wCB fLen (wCons (wVar 6) wNil)) (wC (.int (0)))))) (wSeq (wAsg (wCB fMin2 (wCons (wVar 7) (wCons (wOp fSub (wCB fLen (wCons (wVar 6) wNil)) (wC (.int (1)))) wNil))) (gN 7))
  (wAsg (wCall (c_law_pick A) E (wCons (wVar 0) (wCons (wLstF (wCons (wC (.int (0))) (wCons (wUn fNeg (wC (.int (1)))) (wCons (wOp fAdd (wOp fPow (wC (.int (10))) (wC (.int (6)))) (wC (.int (1)))) (wCons (wOp fSub (wOp fPow (wC (.int (10))) (wC (.int (61)))) (wC (.int (1)))) (wCons (wOp fSub (wC (.int (1))) (wOp fPow (wC (.int (10))) (wC (.int (61))))) (wCons (wUn fNeg (wC (.int (10)))) wNil))))))) wNil))) (gSb fSetL (wVar 6) (wVar 7)))) (wIf (wTe (wOp fEq (wVar 2) (wC (.int (5))))) (wAsg (wOp fCatM (wVar 4) (wFrz (wLc (iR1 (wCons (wOp fAdd (wC (.int (13))) (wCall (c_law_take A) E (wCons (wVar 0) (wCons (wC (.int (4))) wNil)))) wNil)) 8 [8] wYes (wOp fRepT (wTup (wCons (wOp fAdd (wVar 8) (wC (.int (1)))) wNil)) (wVar 3))))) (gN 4)) (wIf (wTe (wOp fEq (wVar 2) (wC (.int (7))))) (wSeq (wDrop (wMeL fIns (wVar 4) (wCons (wVar 5) (wCons (wOp fIx (wVar 4) (wCall (c_law_take A) E (wCons (wVar 0) (wCons (wCB fLen (wCons (wVar 4) wNil)) wNil)))) wNil))))
  (wRet (wFrz (wVar 4)))) wNext)))))
  (w_law_spoilt_6 A E))
def w_law_spoilt_4 (A : Ad) (E : EX) : WS := (wSeq (wAsg (wCall (c_law_take A) E (wCons (wVar 0) (wCons (wOp fAdd (wCB fLen (wCons (wVar 6) wNil)) (wC (.int (1)))) wNil))) (gN 7))
  (w_law_spoilt_5 A E))
def w_law_spoilt_3 (A : Ad) (E : EX) : WS := (wSeq (wAsg (wCB fList (wCons (wOp fIx (wVar 4) (wVar 5)) wNil)) (gN 6))
  (w_law_spoilt_4 A E))
def w_law_spoilt_2 (A : Ad) (E : EX) : WS := (wSeq (wAsg (wCall (c_law_take A) E (wCons (wVar 0) (wCons (wCB fLen (wCons (wVar 4) wNil)) wNil))) (gN 5))
  (w_law_spoilt_3 A E))
def w_law_spoilt_1 (A : Ad) (E : EX) : WS := (wSeq (wIf (wTe (wOp fEqL (wVar 4) (wLstF wNil))) (wRet (wFrz (wVar 4))) wNext)
  (w_law_spoilt_2 A E))
def w_law_spoilt (A : Ad) (E : EX) : WS := (wSeq (wAsg (wCB fList (wCons (wVar 1) wNil)) (gN 4))
  (w_law_spoilt_1 A E))
theorem pure_law_spoilt (A : Ad) (ds μ Q E0) (h : c_law_spoilt A ds μ Q E0) : w_law_spoilt A (fun C fs _ μ => dwx E0 C fs μ) (rets Q) (st0 9 ds) μ := by
  unfold c_law_spoilt at h
  split at h
  · rename_i p l way d
    obtain ⟨st, szs, m, hp, hst, rfl, d0, d7, hl, m7, m1, hm, h⟩ := h
    have s6 : ∀ (μ' : Mu) (st : List D) (szs' : List (List Int)) (zs : List Int) (r' q : Addr) (w : Int) (r7 r8 : Option D), μ' r' = some (.lst (szs'.map tI)) → μ' q = some (.lst (zs.map D.int)) → le (um μ p (.lst st)) μ' → (um μ p (.lst st)) r' = none → 0 ≤ w → w < (szs'.length : Nat) → szs'.length ≤ szs.length + 16 → (∀ s ∈ szs', s.length ≤ m + 1) → zs.length ≤ m + 1 → StOk st →
        w_law_spoilt_6 A (fun C fs x μ => dwx E0 C fs μ) (rets Q) [some (.mut p), some (.lst (szs.map tI)), some (.int way), some (.int d), some (.mut r'), some (.int w), some (.mut q), r7, r8] μ' := by
      intro μ' st szs' zs r' q w r7 r8 e1 e2 l1 n1 w0 w1 b1 b2 b3 hs
      unfold w_law_spoilt_6
      walk_at "w"
      rw [e2]
      refine ⟨_, rfl, ?_⟩
      rw [e1]
      dsimp only
      rw [ixN_in w0 (show w < ((szs'.map tI).length : Nat) by rw [List.length_map]; exact w1)]
      dsimp only
      have e : D.tup (zs.map D.int) = tI zs := rfl
      rw [e, ← List.map_set (f := tI)]
      refine ⟨_, le_rm n1 (le_um_r l1 n1), h (szs'.set w.toNat zs) st (by rw [List.length_set]; exact b1) (fun s hs => ?_) hs⟩
      rcases List.mem_or_eq_of_mem_set hs with z | z
      · exact b2 s z
      · rw [z]; exact b3
    unfold w_law_spoilt
    walk_at "w"
    intro r hr
    have hne : r ≠ p := fun e => by rw [e, hp] at hr; cases hr
    have e0 : um μ r (.lst (szs.map tI)) = um (um μ p (.lst st)) r (.lst (szs.map tI)) := by rw [um_id hp]
    rw [e0]
    unfold w_law_spoilt_1
    walk_at "w"
    refine ⟨by decide, _, _, .list [], lvr_cell um_same, toPs_tups szs, rfl, shaped_tups szs, shaped_tups [], ?_⟩
    have ev : PyData.eqv (.list (szs.map pI)) (.list []) = decide (szs = []) := by
      have := eqv_tups szs []
      rw [PyData.eqv, show ([] : List PyData) = ([] : List (List Int)).map pI from rfl, this]
    rw [ev]
    walk_at "w"
    refine ite2 (fun c => ?_) (fun c => ?_)
    · have := h szs st (by omega) (fun s hs => by have := hm s hs; omega) hst
      exact ⟨_, le_rm (by rw [um_ne hne]; exact hr) (le.um (by rw [um_ne hne]; exact hr)), this⟩
    · have lz : 1 ≤ szs.length := List.length_pos_iff.mpr c
      unfold w_law_spoilt_2
      walk_at "w"
      rw [List.length_map]
      refine ⟨st, by rw [um_ne (Ne.symm hne), um_same], hst, bd_small (n := 2990) (by omega) (by omega), fun w st1 hs1 w0 w1 w2 => ?_⟩
      have hw : w < (szs.length : Nat) := by
        by_cases c : 2 ≤ ((szs.length : Nat) : Int)
        · exact w1 c
        · have := w2 (by omega); omega
      rw [um_swap hne, um_um]
      unfold w_law_spoilt_3
      walk_at "w"
      obtain ⟨zs, zm, ez⟩ := atI_tI w0 hw
      have zl := hm zs zm
      rw [ez]
      simp only [tI]
      intro q hq
      have hqr : q ≠ r := fun e => by rw [e, um_same] at hq; cases hq
      have hqp : q ≠ p := fun e => by rw [e, um_ne (Ne.symm hne), um_same] at hq; cases hq
      rw [um_ne hqr, um_ne hqp] at hq
      have fr : ∀ S R P : List D, (um (um (um μ p (.lst S)) r (.lst R)) q (.lst P)) p = some (.lst S) := fun S R P => by rw [um_ne (Ne.symm hqp), um_ne (Ne.symm hne), um_same]
      have er : ∀ S R P : List D, (um (um (um μ p (.lst S)) r (.lst R)) q (.lst P)) r = some (.lst R) := fun S R P => by rw [um_ne (Ne.symm hqr), um_same]
      have l1 : ∀ S R P : List D, le (um μ p (.lst S)) (um (um (um μ p (.lst S)) r (.lst R)) q (.lst P)) := fun S R P => (le.um (by rw [um_ne hne]; exact hr)).trans (le.um (by rw [um_ne hqr, um_ne hqp]; exact hq))
      have f6 : ∀ (st : List D) (zs : List Int) (r7 r8 : Option D), zs.length ≤ m + 1 → StOk st → w_law_spoilt_6 A (fun C fs x μ => dwx E0 C fs μ) (rets Q) [some (.mut p), some (.lst (szs.map tI)), some (.int way), some (.int d), some (.mut r), some (.int w), some (.mut q), r7, r8] (um (um (um μ p (.lst st)) r (.lst (szs.map tI))) q (.lst (zs.map D.int))) := fun st zs r7 r8 hz hs =>
        s6 _ st szs zs r q w r7 r8 (er _ _ _) um_same (l1 _ _ _) (by rw [um_ne hne]; exact hr) w0 hw (by omega) (fun s hs => by have := hm s hs; omega) hz hs
      unfold w_law_spoilt_4
      walk_at "w"
      rw [List.length_map]
      refine ⟨st1, fr _ _ _, hs1, bd_small (n := 2990) (by omega) (by omega), fun u st2 hs2 u0 u1 u2 => ?_⟩
      simp only [um_swap hne, um_swap hqp, um_um]
      have hu : u ≤ (zs.length : Nat) := by
        by_cases c : 2 ≤ ((zs.length : Nat) : Int) + 1
        · have := u1 c; omega
        · have := u2 (by omega); omega
      unfold w_law_spoilt_5
      have lm : (zs.map D.int).length = zs.length := List.length_map ..
      have ins : ∀ st3, StOk st3 → (zs.map D.int).length < 100000 ∧ 0 ≤ u ∧ u < 9223372036854775808 := fun _ _ => ⟨by omega, u0, by omega⟩
      have fin : ∀ (st3 : List D) (r7 r8 : Option D), StOk st3 → w_law_spoilt_6 A (fun C fs x μ => dwx E0 C fs μ) (rets Q) [some (.mut p), some (.lst (szs.map tI)), some (.int way), some (.int d), some (.mut r), some (.int w), some (.mut q), r7, r8] (um (um (um μ p (.lst st3)) r (.lst (szs.map tI))) q (.lst (List.take u.toNat (zs.map D.int) ++ [.int 1] ++ List.drop u.toNat (zs.map D.int)))) := fun st3 r7 r8 hs3 => by
        have e : List.take u.toNat (zs.map D.int) ++ [.int 1] ++ List.drop u.toNat (zs.map D.int) = (zs.take u.toNat ++ [1] ++ zs.drop u.toNat).map D.int := by
          rw [List.map_append, List.map_append, List.map_take, List.map_drop]; rfl
        rw [e]
        refine f6 st3 _ _ _ ?_ hs3
        simp only [List.length_append, List.length_take, List.length_drop, List.length_cons, List.length_nil]
        omega
      by_cases c2 : way = 2
      · walk_at "w"
        simp only [if_pos c2]
        refine ite2 (fun cu => ?_) (fun cu => ⟨⟨q, _, rfl, um_same⟩, ins st2 hs2, fin st2 _ _ hs2⟩)
        refine ⟨st2, fr _ _ _, hs2, bd_small (n := 2990) (by decide) (by decide), fun v st3 hs3 _ _ _ => ?_⟩
        simp only [um_swap hne, um_swap hqp, um_um]
        refine ⟨rfl, ite2 (fun _ => ?_) (fun _ => ?_)⟩
        · refine ⟨⟨q, _, rfl, um_same⟩, ?_⟩
          rw [um_same]
          refine ⟨⟨u0, by omega, by omega⟩, _, List.getElem?_eq_getElem (by omega), ?_⟩
          rw [erase_map]
          exact f6 st3 _ _ _ (Nat.le_trans (List.length_eraseIdx_le _ _) (by omega)) hs3
        · refine ⟨⟨q, _, rfl, um_same⟩, ?_⟩
          rw [um_same]
          dsimp only
          exact ⟨ins st3 hs3, fin st3 _ _ hs3⟩
      · by_cases c3 : way = 3
        · have c5 : way ≠ 5 := by omega
          have c7 : way ≠ 7 := by omega
          walk_at "w"
          simp only [if_neg c2, if_pos c3, if_neg c5, if_neg c7]
          refine ite2 (fun cz => ?_) (fun cz => f6 st2 zs _ _ (by omega) hs2)
          refine ⟨pw (by decide), pw (by decide), pw (by decide), by decide, st2, fr _ _ _, hs2, Nat.le_of_ble_eq_true rfl, Nat.le_of_ble_eq_true rfl, fun x st3 hx hs3 => ?_⟩
          simp only [um_swap hne, um_swap hqp, um_um]
          obtain ⟨a, rfl⟩ : ∃ a : Int, x = .int a := by
            simp only [List.mem_cons, List.not_mem_nil, or_false] at hx
            rcases hx with rfl | rfl | rfl | rfl | rfl | rfl <;> exact ⟨_, rfl⟩
          clear hx
          rw [um_same]
          dsimp only
          have hk : 0 ≤ (if ((zs.map D.int).length : Int) - 1 < u then ((zs.map D.int).length : Int) - 1 else u) ∧ (if ((zs.map D.int).length : Int) - 1 < u then ((zs.map D.int).length : Int) - 1 else u) < ((zs.map D.int).length : Nat) := by split <;> omega
          generalize (if ((zs.map D.int).length : Int) - 1 < u then ((zs.map D.int).length : Int) - 1 else u) = k at hk ⊢
          rw [ixN_in hk.1 hk.2]
          dsimp only
          rw [← List.map_set (f := D.int)]
          exact f6 st3 _ _ _ (by rw [List.length_set]; omega) hs3
        · by_cases c5 : way = 5
          · show wIf _ _ _ _ _ _
            refine wif_and_no rfl c2 (wif_eq_no rfl c2 (wif_and_no rfl c3 (wif_eq_yes rfl c5 ?_)))
            simp only [wAsg, wOp, wVar, List.getElem?_cons_zero, List.getElem?_cons_succ]
            refine lc_any (I := fun k μ1 => ∃ (n : Nat) (st3 : List D), n ≤ 16 ∧ StOk st3 ∧ k = .fix (rng 0 n) ∧ μ1 = um (um (um μ p (.lst st3)) r (.lst (szs.map tI))) q (.lst (zs.map D.int))) (fun R hR => ?_) ?_
            · walk_at "w"
              refine ⟨st2, fr _ _ _, hs2, bd_small (n := 2990) (by decide) (by decide), fun v st3 hs3 v0 v1 _ => ?_⟩
              have v1 := v1 (by decide)
              simp only [um_swap hne, um_swap hqp, um_um]
              exact ⟨⟨by omega, by omega⟩, hR _ _ ⟨(13 + v).toNat, st3, by omega, hs3, rfl, rfl⟩⟩
            · rintro k μ1 ⟨n, st3, hn, hs3, rfl, rfl⟩
              have items : rng 0 n = (List.range n).map fun i => D.int (i : Nat) := by
                unfold rng
                refine List.map_congr_left fun i _ => ?_
                rw [Int.zero_add]
              refine lc_frz (List.range n) (fun i => .int (i : Nat)) (fun _ => true) (fun i => tI (List.replicate d.toNat ((i : Int) + 1))) ⟨.fix (rng 0 n), items, trivial, fun R h => h⟩ (by rw [List.length_range]; omega) (fun _ _ μ' R _ hR => hR) (fun i _ _ μ' R _ hR => ?_) ?_
              · walk_at "w"
                refine ⟨by decide, ⟨fun z => (nomatch z), by omega, by omega, by decide⟩, ?_⟩
                rw [rep_tI]
                exact hR
              · rw [List.filter_eq_self.mpr fun _ _ => rfl]
                have el : ((List.range n).map fun (i : Nat) => tI (List.replicate d.toNat ((i : Int) + 1))) = ((List.range n).map fun (i : Nat) => List.replicate d.toNat ((i : Int) + 1)).map tI := by rw [List.map_map]; rfl
                refine ⟨szs.map tI, _, lv_mut (er _ _ _), rfl, by rw [List.length_map, List.length_map, List.length_range]; omega, fun r2 hr2 => ?_⟩
                rw [el, ← List.map_append]
                have hqr2 : q ≠ r2 := fun e => by rw [← e, um_same] at hr2; cases hr2
                have ll : (szs ++ (List.range n).map fun (i : Nat) => List.replicate d.toNat ((i : Int) + 1)).length = szs.length + n := by rw [List.length_append, List.length_map, List.length_range]
                refine s6 _ st3 _ zs r2 q w _ _ um_same (by rw [um_ne hqr2, um_same]) ((l1 _ _ _).trans (le.um hr2)) (le_none (l1 _ _ _) hr2) w0 (by omega) (by omega) (fun s hs => ?_) (by omega) hs3
                rcases List.mem_append.mp hs with hs | hs
                · have := hm s hs; omega
                · obtain ⟨i, _, rfl⟩ := List.mem_map.mp hs
                  rw [List.length_replicate]
                  omega
          · by_cases c7 : way = 7
            · walk_at "w"
              simp only [if_neg c2, if_neg c3, if_neg c5, if_pos c7]
              refine ⟨⟨r, _, rfl, er _ _ _⟩, ?_⟩
              rw [er]
              dsimp only
              rw [List.length_map]
              refine ⟨st2, fr _ _ _, hs2, bd_small (n := 2990) (by omega) (by omega), fun v st3 hs3 v0 v1 v2 => ?_⟩
              have hv : v < (szs.length : Nat) := by
                by_cases c : 2 ≤ ((szs.length : Nat) : Int)
                · exact v1 c
                · have := v2 (by omega); omega
              simp only [um_swap hne, um_swap hqp, um_um]
              rw [er]
              dsimp only
              obtain ⟨z, zm2, ez2⟩ := atI_tI v0 hv
              rw [ez2]
              have e : List.take w.toNat (szs.map tI) ++ [tI z] ++ List.drop w.toNat (szs.map tI) = (szs.take w.toNat ++ [z] ++ szs.drop w.toNat).map tI := by
                rw [List.map_append, List.map_append, List.map_take, List.map_drop]; rfl
              dsimp only
              rw [e]
              have n1 : um μ p (.lst st3) r = none := by rw [um_ne hne]; exact hr
              refine ⟨⟨by rw [List.length_map]; omega, w0, by omega⟩, _, le_rm n1 (le_um_r (l1 _ _ _) n1), h (szs.take w.toNat ++ [z] ++ szs.drop w.toNat) st3 ?_ (fun s hs => ?_) hs3⟩
              · simp only [List.length_append, List.length_take, List.length_drop, List.length_cons, List.length_nil]
                omega
              · rcases List.mem_append.mp hs with hs | hs
                · rcases List.mem_append.mp hs with hs | hs
                  · have := hm s (List.mem_of_mem_take hs); omega
                  · rw [List.mem_singleton.mp hs]; have := hm z zm2; omega
                · have := hm s (List.mem_of_mem_drop hs); omega
            · walk_at "w"
              simp only [if_neg c2, if_neg c3, if_neg c5, if_neg c7]
              exact f6 st2 zs _ _ (by omega) hs2
  · exact h.elim
theorem len_law_spoilt (A : Ad) : ∀ ds μ Q E, c_law_spoilt A ds μ Q E → ds.length = 4 := by
  intro ds μ Q E h
  unfold c_law_spoilt at h
  first | (split at h) | (split at h)
  all_goals first | rfl | exact h.elim
theorem ok_law_spoilt {P : Program} {w : World} {K : PySem.W.Frag} {mg : Str → Option Value} {base : Heap} {A : Ad} (D : Dfn K mg "_law_spoilt" "_law_spoilt" s_law_spoilt ["store", "sizes", "way", "d"]) (T : Tx P base K mg A) (G_law_take : DfOk P w K mg base "_law_take" 2 ["store", "many"] (c_law_take A)) (G_law_pick : DfOk P w K mg base "_law_pick" 3 ["store", "things"] (c_law_pick A)) : DfOk P w K mg base "_law_spoilt" 4 ["store", "sizes", "way", "d"] (c_law_spoilt A) := by
  obtain ⟨f, fd, F, hm, hb⟩ := D
  refine ⟨f, fd, okD F sc_law_spoilt (by decide) (len_law_spoilt A) ?_, hm, F.kp, hb⟩
  intro X W E cdv B outer s H Ex hX tk hp hr
  subst hX
  exact ⟨_, w_law_spoilt A E, (scons (sset (i := 4) (ecty call_list_of dc_list T.b_list (acons (ev 1) anil)) sc_law_spoilt.nd)
  (scons (sif (tc' (op_eqD hr.units) do_eqL (ev 4) (elstF anil)) (sone (sret (efrz (ev 4)))) snil)
  (scons (sset (i := 5) (ecall2 tk G_law_take (hr.mono (by decide)) (acons (ev 0) (acons (ecb call_len_seq dc_len T.b_len (acons (ev 4) anil)) anil))) sc_law_spoilt.nd)
  (scons (sset (i := 6) (ecty call_list_of dc_list T.b_list (acons (eix (ev 4) (ev 5)) anil)) sc_law_spoilt.nd)
  (scons (sset (i := 7) (ecall2 tk G_law_take (hr.mono (by decide)) (acons (ev 0) (acons (eadd (ecb call_len_seq dc_len T.b_len (acons (ev 6) anil)) ei) anil))) sc_law_spoilt.nd)
  (scons (sif (tbo (tand (tc' op_eq do_eq (ev 2) ei) (tand (tc' op_lt do_lt (ev 7) (ecb call_len_seq dc_len T.b_len (acons (ev 6) anil))) (tand1 (tc' op_eq do_eq (ecall2 tk G_law_take (hr.mono (by decide)) (acons (ev 0) (acons ei anil))) ei))))) (sone (sexpr (emeL (m := "") PySem.F.slot_list_pop PySem.F.type_list_pop mt_popAt dm_popAt (ev 6) (acons (ev 7) anil)))) (sone (sif (tc' op_eq do_eq (ev 2) ei) (sone (sexpr (emeL (m := "") PySem.F.slot_list_insert PySem.F.type_list_insert mt_insert dm_ins (ev 6) (acons (ev 7) (acons ei anil))))) (sone (sif (tbo (tand (tc' op_eq do_eq (ev 2) ei) (tand1 (tc' op_gt do_gt (ecb call_len_seq dc_len T.b_len (acons (ev 6) anil)) ei)))) (scons (sset (i := 7) (ecb (call_min2 rfl) dc_min2 T.b_min (acons (ev 7) (acons (esub (ecb call_len_seq dc_len T.b_len (acons (ev 6) anil)) ei) anil))) sc_law_spoilt.nd)
  (sone (sasg (ecall2 tk G_law_pick (hr.mono (by decide)) (acons (ev 0) (acons (elstF (acons ei (acons (eneg ei) (acons (eadd (epow ei ei) ei) (acons (esub (epow ei ei) ei) (acons (esub ei (epow ei ei)) (acons (eneg ei) anil))))))) anil))) (gsl (ev 6) (ev 7))))) (sone (sif (tc' op_eq do_eq (ev 2) ei) (sone (sset (i := 4) (ecatM (ev 4) (efrz (elc sc_law_spoilt.nd [("k", 8)] 8 (ir1 T.b_range (acons (eadd ei (ecall2 tk G_law_take (hr.mono (by decide)) (acons (ev 0) (acons ei anil)))) anil)) (fun _ _ _ _ _ => gnmP 8 sc_law_spoilt.nd) (fun _ _ _ _ _ => ⟨_, tsnil⟩) (fun _ _ _ _ _ => ⟨_, (erepT (etup (acons (eadd (ev 8) ei) anil)) (ev 3))⟩)))) sc_law_spoilt.nd)) (sone (sif (tc' op_eq do_eq (ev 2) ei) (scons (sexpr (emeL (m := "") PySem.F.slot_list_insert PySem.F.type_list_insert mt_insert dm_ins (ev 4) (acons (ev 5) (acons (eix (ev 4) (ecall2 tk G_law_take (hr.mono (by decide)) (acons (ev 0) (acons (ecb call_len_seq dc_len T.b_len (acons (ev 4) anil)) anil)))) anil))))
  (sone (sret (efrz (ev 4))))) snil)))))))))
  (scons (sasg (ecty call_tuple_of dc_tuple T.b_tuple (acons (ev 6) anil)) (gsl (ev 4) (ev 5)))
  (sone (sret (efrz (ev 4))))))))))), fun ds μ Q E0 hc hE => by subst hE; exact pure_law_spoilt A ds μ Q E0 hc⟩
def c_law_bent_pair (A : Ad) : Ct := fun ds μ Q _ => match ds with
  | [.mut p, .tup pl, .lst l, .int way] => ∃ (st : List D) (ps : List Int) (szs : List (List Int)) (m : Nat), μ p = some (.lst st) ∧ StOk st ∧ pl = ps.map D.int ∧ l = szs.map tI ∧ ps.length ≤ 7 ∧ szs.length ≤ 900 ∧ 7 ≤ m ∧ m ≤ 100 ∧ (∀ s ∈ szs, s.length ≤ m) ∧ ∀ (ps' : List Int) (szs' : List (List Int)) st', ps'.length ≤ 7 → szs'.length ≤ szs.length + 16 → (∀ s ∈ szs', s.length ≤ m + 1) → StOk st' → Q (.lst [tI ps', .lst (szs'.map tI)]) (um μ p (.lst st'))
  | _ => False
abbrev s_law_bent_pair : Stmt := top 65
theorem sc_law_bent_pair : FnScope ["store", "pitch", "sizes", "way", "d", "row", "many", "size"] ["store", "pitch", "sizes", "way"] (defScope s_law_bent_pair) := ⟨rfl, rfl, rfl, by decide +kernel, rfl, by decide +kernel, by decide +kernel⟩
def w_law_bent_pair_4 (A : Ad) (E : EX) : WS := (wSeq (wIf (wTe (wOp fEq (wVar 3) (wC (.int (6))))) (wSeq (wAsg (wCall (c_law_pick A) E (wCons (wVar 0) (wCons (wLstF (wCons (wC (.int (0))) (wCons (wC (.int (6))) wNil))) wNil))) (gN 6))
  (wRet (wLstF (wCons (wOp fRepT (wTup (wCons (wC (.int (1))) wNil)) (wVar 6)) (wCons (wFrz (wLc (iLs (wVar 2)) 7 [7] wYes (wOp fRepT (wTup (wCons (wOp fAdd (wC (.int (1))) (wCall (c_law_take A) noE (wCons (wVar 0) (wCons (wC (.int (3))) wNil)))) wNil)) (wVar 6)))) wNil))))) wNext)
  (wRet (wLstF (wCons (wVar 1) (wCons (wCall (c_law_spoilt A) E (wCons (wVar 0) (wCons (wVar 2) (wCons (wVar 3) (wCons (wVar 4) wNil))))) wNil)))))
def w_law_bent_pair_3 (A : Ad) (E : EX) : WS := (wSeq (wIf (wTe (wOp fEq (wVar 3) (wC (.int (4))))) (wRet (wLstF (wCons (wVar 1) (wCons (wLstF wNil) wNil)))) wNext)
  (w_law_bent_pair_4 A E))
def w_law_bent_pair_2 (A : Ad) (E : EX) : WS := (wSeq (wIf (wAnd (wTe (wOp fEq (wVar 3) (wC (.int (1))))) (wTe (wOp fGt (wVar 4) (wC (.int (0)))))) (wSeq (wAsg (wCB fList (wCons (wVar 1) wNil)) (gN 5))
  (wSeq (wAsg (wCall (c_law_pick A) E (wCons (wVar 0) (wCons (wLstF (wCons (wC (.int (0))) (wCons (wUn fNeg (wC (.int (1)))) (wCons (wC (.int (1001))) (wCons (wOp fPow (wC (.int (10))) (wC (.int (60)))) (wCons (wUn fNeg (wC (.int (1000)))) wNil)))))) wNil))) (gSb fSetL (wVar 5) (wCall (c_law_take A) E (wCons (wVar 0) (wCons (wVar 4) wNil)))))
  (wRet (wLstF (wCons (wCB fTuple (wCons (wVar 5) wNil)) (wCons (wVar 2) wNil)))))) wNext)
  (w_law_bent_pair_3 A E))
def w_law_bent_pair_1 (A : Ad) (E : EX) : WS := (wSeq (wIf (wTe (wOp fEq (wVar 3) (wC (.int (0))))) (wRet (wLstF (wCons (wOp fRepT (wTup (wCons (wC (.int (1))) wNil)) (wCall (c_law_pick A) E (wCons (wVar 0) (wCons (wLstF (wCons (wC (.int (0))) (wCons (wC (.int (6))) (wCons (wC (.int (7))) wNil)))) wNil)))) (wCons (wVar 2) wNil)))) wNext)
  (w_law_bent_pair_2 A E))
def w_law_bent_pair (A : Ad) (E : EX) : WS := (wSeq (wAsg (wCB fLen (wCons (wVar 1) wNil)) (gN 4))
  (w_law_bent_pair_1 A E))
theorem pure_law_bent_pair (A : Ad) (ds μ Q E0) (h : c_law_bent_pair A ds μ Q E0) : w_law_bent_pair A (fun C fs _ μ => dwx E0 C fs μ) (rets Q) (st0 8 ds) μ := by
  unfold c_law_bent_pair at h
  split at h
  · rename_i p pl l way
    obtain ⟨st, ps, szs, m, hp, hst, rfl, rfl, hpl, hl, m7, m1, hm, h⟩ := h
    have pick2 : ∀ {x : D} {l : List Int}, x ∈ l.map D.int → ∃ a : Int, x = .int a ∧ a ∈ l := fun hx => by
      obtain ⟨a, ha, rfl⟩ := List.mem_map.mp hx
      exact ⟨a, rfl, ha⟩
    have hz1 : ∀ s ∈ szs, s.length ≤ m + 1 := fun s hs => by have := hm s hs; omega
    have s4 : ∀ r5 r6 r7 : Option D, w_law_bent_pair_4 A (fun C fs x μ => dwx E0 C fs μ) (rets Q) [some (.mut p), some (.tup (ps.map D.int)), some (.lst (szs.map tI)), some (.int way), some (.int (ps.length : Nat)), r5, r6, r7] μ := by
      intro r5 r6 r7
      unfold w_law_bent_pair_4
      by_cases c6 : way = 6
      · show wIf _ _ _ _ _ _
        refine wif_eq_yes rfl c6 ?_
        simp only [wSeq, wAsg, gN, wCall, wCons, wNil, wVar, wC, wLstF, wRet, List.length_cons, List.length_nil, List.getElem?_cons_zero, List.getElem?_cons_succ, List.set_cons_zero, List.set_cons_succ]
        refine ⟨by decide, st, hp, hst, by decide, by decide, fun x st2 hx hs2 => ?_⟩
        obtain ⟨a, rfl, a0, a6⟩ : ∃ a : Int, x = .int a ∧ 0 ≤ a ∧ a ≤ 6 := by
          simp only [List.mem_cons, List.not_mem_nil, or_false] at hx
          rcases hx with rfl | rfl <;> exact ⟨_, rfl, by decide, by decide⟩
        simp only [wOp, wTup, List.length_cons, List.length_nil, List.getElem?_cons_zero, List.getElem?_cons_succ]
        refine ⟨by decide, ⟨fun z => (nomatch z), a0, by omega, by decide⟩, ?_⟩
        rw [rep_tI]
        dsimp only
        simp only [wFrz, wUn]
        refine lc_draw (p0 := p) (S := StOk) (P := fun e => ∃ zs, e = tI zs ∧ zs.length ≤ m + 1) (L := szs.map tI) um_same hs2 (fun R hR => hR (.fix _) rfl fun _ _ _ _ => trivial) (by rw [List.length_map]; omega) (fun e he r l st R hr hS hR => ?_) (fun l st r hr hne hl' hP hS => ?_)
        · have hne : r ≠ p := fun e => by rw [e, um_same] at hr; cases hr
          walk_at "w"
          refine ⟨st, by rw [um_ne (Ne.symm hne), um_same], hS, bd_small (n := 2990) (by decide) (by decide), fun w st3 hs3 _ _ _ => ?_⟩
          refine ⟨by decide, ⟨fun z => (nomatch z), a0, by omega, by decide⟩, ?_⟩
          rw [rep_tI]
          have := hR (tI (List.replicate a.toNat (1 + w))) st3 ⟨_, rfl, by rw [List.length_replicate]; omega⟩ hs3
          rw [um_um] at this
          rw [um_swap hne, um_um]
          exact this
        · obtain ⟨szs', rfl, hz'⟩ := tis_of hP
          rw [um_um]
          show fFrz _ _ _
          unfold fFrz
          dsimp only
          rw [um_same]
          dsimp only
          rw [rm_um (by rw [um_ne hne] at hr ⊢; exact hr)]
          rw [List.length_map, List.length_map] at hl'
          exact ⟨by decide, dwn.of (h _ szs' st (by rw [List.length_replicate]; omega) (by omega) hz' hS)⟩
      · show wIf _ _ _ _ _ _
        refine wif_eq_no rfl c6 ?_
        walk_at "w"
        refine ⟨st, szs, m, hp, hst, rfl, by omega, by omega, hl, m7, m1, hm, fun szs' st' h1 h2 h3 => ?_⟩
        exact ⟨by decide, dwn.of (h ps szs' st' hpl h1 h2 h3)⟩
    have s3 : ∀ r5 r6 r7 : Option D, w_law_bent_pair_3 A (fun C fs x μ => dwx E0 C fs μ) (rets Q) [some (.mut p), some (.tup (ps.map D.int)), some (.lst (szs.map tI)), some (.int way), some (.int (ps.length : Nat)), r5, r6, r7] μ := by
      intro r5 r6 r7
      unfold w_law_bent_pair_3
      by_cases c4 : way = 4
      · show wIf _ _ _ _ _ _
        refine wif_eq_yes rfl c4 ?_
        walk_at "w"
        have := h ps [] st hpl (by simp) (fun s hs => nomatch hs) hst
        rw [um_id hp] at this
        exact ⟨by decide, by decide, dwn.of this⟩
      · show wIf _ _ _ _ _ _
        exact wif_eq_no rfl c4 (s4 _ _ _)
    have s2 : ∀ r5 r6 r7 : Option D, w_law_bent_pair_2 A (fun C fs x μ => dwx E0 C fs μ) (rets Q) [some (.mut p), some (.tup (ps.map D.int)), some (.lst (szs.map tI)), some (.int way), some (.int (ps.length : Nat)), r5, r6, r7] μ := by
      intro r5 r6 r7
      unfold w_law_bent_pair_2
      by_cases c1 : way = 1
      · walk_at "w"
        simp only [if_pos c1]
        refine ite2 (fun cz => ?_) (fun _ => s3 _ _ _)
        intro q hq
        have hne : q ≠ p := fun e => by rw [e, hp] at hq; cases hq
        have e0 : um μ q (.lst (ps.map D.int)) = um (um μ p (.lst st)) q (.lst (ps.map D.int)) := by rw [um_id hp]
        rw [e0]
        refine ⟨pw (by decide), by decide, st, by rw [um_ne (Ne.symm hne), um_same], hst, Nat.le_of_ble_eq_true rfl, Nat.le_of_ble_eq_true rfl, fun x st2 hx hs2 => ?_⟩
        obtain ⟨a, rfl⟩ : ∃ a : Int, x = .int a := by
          simp only [List.mem_cons, List.not_mem_nil, or_false] at hx
          rcases hx with rfl | rfl | rfl | rfl | rfl <;> exact ⟨_, rfl⟩
        clear hx
        rw [um_swap hne, um_um]
        refine ⟨st2, by rw [um_ne (Ne.symm hne), um_same], hs2, bd_small (n := 2990) (by omega) (by omega), fun v st3 hs3 v0 v1 v2 => ?_⟩
        have hv : v < (ps.length : Nat) := by
          by_cases c : 2 ≤ ((ps.length : Nat) : Int)
          · exact v1 c
          · have := v2 (by omega); omega
        rw [um_swap hne, um_um]
        dsimp only
        rw [um_same]
        dsimp only
        rw [ixN_in v0 (show v < ((ps.map D.int).length : Nat) by rw [List.length_map]; exact hv)]
        dsimp only
        rw [um_same, um_um]
        refine ⟨_, rfl, by decide, um μ p (.lst st3), le.um (by rw [um_ne hne]; exact hq), ?_⟩
        have := h (ps.set v.toNat a) szs st3 (by rw [List.length_set]; exact hpl) (by omega) hz1 hs3
        have e : tI (ps.set v.toNat a) = D.tup ((ps.map D.int).set v.toNat (.int a)) := by unfold tI; rw [List.map_set]
        rw [e] at this
        exact this
      · show wIf _ _ _ _ _ _
        exact wif_and_no rfl c1 (s3 _ _ _)
    unfold w_law_bent_pair
    walk_at "w"
    rw [List.length_map]
    unfold w_law_bent_pair_1
    by_cases c0 : way = 0
    · show wIf _ _ _ _ _ _
      refine wif_eq_yes rfl c0 ?_
      walk_at "w"
      refine ⟨by decide, by decide, st, hp, hst, by decide, by decide, fun x st2 hx hs2 => ?_⟩
      obtain ⟨a, rfl, a0, a7⟩ : ∃ a : Int, x = .int a ∧ 0 ≤ a ∧ a ≤ 7 := by
        simp only [List.mem_cons, List.not_mem_nil, or_false] at hx
        rcases hx with rfl | rfl | rfl <;> exact ⟨_, rfl, by decide, by decide⟩
      refine ⟨⟨fun z => (nomatch z), a0, by omega, by decide⟩, by decide, ?_⟩
      rw [rep_tI]
      exact dwn.of (h _ szs st2 (by rw [List.length_replicate]; omega) (by omega) hz1 hs2)
    · show wIf _ _ _ _ _ _
      exact wif_eq_no rfl c0 (s2 _ _ _)
  · exact h.elim
theorem len_law_bent_pair (A : Ad) : ∀ ds μ Q E, c_law_bent_pair A ds μ Q E → ds.length = 4 := by
  intro ds μ Q E h
  unfold c_law_bent_pair at h
  first | (split at h) | (split at h)
  all_goals first | rfl | exact h.elim
theorem ok_law_bent_pair {P : Program} {w : World} {K : PySem.W.Frag} {mg : Str → Option Value} {base : Heap} {A : Ad} (D : Dfn K mg "_law_bent_pair" "_law_bent_pair" s_law_bent_pair ["store", "pitch", "sizes", "way"]) (T : Tx P base K mg A) (G_law_spoilt : DfOk P w K mg base "_law_spoilt" 4 ["store", "sizes", "way", "d"] (c_law_spoilt A)) (G_law_take : DfOk P w K mg base "_law_take" 2 ["store", "many"] (c_law_take A)) (G_law_pick : DfOk P w K mg base "_law_pick" 3 ["store", "things"] (c_law_pick A)) : DfOk P w K mg base "_law_bent_pair" 5 ["store", "pitch", "sizes", "way"] (c_law_bent_pair A) := by
  obtain ⟨f, fd, F, hm, hb⟩ := D
  refine ⟨f, fd, okD F sc_law_bent_pair (by decide) (len_law_bent_pair A) ?_, hm, F.kp, hb⟩
  intro X W E cdv B outer s H Ex hX tk hp hr
  subst hX
  exact ⟨_, w_law_bent_pair A E, (scons (sset (i := 4) (ecb call_len_seq dc_len T.b_len (acons (ev 1) anil)) sc_law_bent_pair.nd)
  (scons (sif (tc' op_eq do_eq (ev 3) ei) (sone (sret (elstF (acons (erepT (etup (acons ei anil)) (ecall2 tk G_law_pick (hr.mono (by decide)) (acons (ev 0) (acons (elstF (acons ei (acons ei (acons ei anil)))) anil)))) (acons (ev 2) anil))))) snil)
  (scons (sif (tbo (tand (tc' op_eq do_eq (ev 3) ei) (tand1 (tc' op_gt do_gt (ev 4) ei)))) (scons (sset (i := 5) (ecty call_list_of dc_list T.b_list (acons (ev 1) anil)) sc_law_bent_pair.nd)
  (scons (sasg (ecall2 tk G_law_pick (hr.mono (by decide)) (acons (ev 0) (acons (elstF (acons ei (acons (eneg ei) (acons ei (acons (epow ei ei) (acons (eneg ei) anil)))))) anil))) (gsl (ev 5) (ecall2 tk G_law_take (hr.mono (by decide)) (acons (ev 0) (acons (ev 4) anil)))))
  (sone (sret (elstF (acons (ecty call_tuple_of dc_tuple T.b_tuple (acons (ev 5) anil)) (acons (ev 2) anil))))))) snil)
  (scons (sif (tc' op_eq do_eq (ev 3) ei) (sone (sret (elstF (acons (ev 1) (acons (elstF anil) anil))))) snil)
  (scons (sif (tc' op_eq do_eq (ev 3) ei) (scons (sset (i := 6) (ecall2 tk G_law_pick (hr.mono (by decide)) (acons (ev 0) (acons (elstF (acons ei (acons ei anil))) anil))) sc_law_bent_pair.nd)
  (sone (sret (elstF (acons (erepT (etup (acons ei anil)) (ev 6)) (acons (efrz (elcN sc_law_bent_pair.nd [("size", 7)] 7 (il (ev 2)) (fun _ _ _ _ _ => gnmP 7 sc_law_bent_pair.nd) (fun _ _ _ _ _ => ⟨_, tsnil⟩) (fun _ _ _ _ _ => ⟨_, (erepT (etup (acons (eadd ei (ecall2 takes_no G_law_take (hr.mono (by decide)) (acons (ev 0) (acons ei anil)))) anil)) (ev 6))⟩))) anil)))))) snil)
  (sone (sret (elstF (acons (ev 1) (acons (ecall2 tk G_law_spoilt (hr.mono (by decide)) (acons (ev 0) (acons (ev 2) (acons (ev 3) (acons (ev 4) anil))))) anil)))))))))), fun ds μ Q E0 hc hE => by subst hE; exact pure_law_bent_pair A ds μ Q E0 hc⟩
end K03
set_option maxHeartbeats 800000
namespace K03
open PySem L2 DL
local macro_rules | `(tactic| walk_at "w") => `(tactic| simp only [wSeq, wNext, wIf, wRet, wRetN, wDrop, wAsg, gN, wVar, wC, wOp, wUn, wNil, wCons, wCB, wTup, wLst, wLstF, wTe, tB0, wAnd, wOr, wNot, wAndV, wOrV, wNotV, wIfE, wCall, wCallG, wRaise, wFrz, fFrz, rets, fI, fI0, fAdd, fSub, fMul, fLt, fLe, fGt, fGe, fMod, fModN, fPow, fDiv, fDivG, fNeg, fEq, fNe, eqF_int, eqF_bl, eqF_str, scal_int, scal_bl, scal_str, fLen, sv, fIx, fAbs, fInt, fList, wSl, fSlL, oNo, oSo, lvr, lv, fCat, wMeL, fApp, fPop, fSetL, gSb, iLs, iTp, iR1, iR2, wFor, gTp, gCn, gNl, wPar, wBrk, wCnt, fIsi, wIsx, wLc, wYes, wip, wTr, truD, wTry, clrD, wFld, fieldsD, wSetF, wMeth, wMake, wIsX, wXf, wTryX, wRaiseL, wRaiseV, fCatM, fEqL, fStrI, fFmt, wJoin, wJs, wChain, wLc2, wLR, wProp, fRepT, wDIn, wDNewT, fSetD, iR3, gLs, fIns, fPopAt, fClear, fTuple, fMin2, fMaxL, fAny, iEn, wRev, fRev, wDNew, wDNewF, wDsp1, wDsp1F, fAddS, fIsN, fNotN, um_same, um_um, st0, List.map_cons, List.map_nil, List.length_cons, List.length_nil, List.getElem?_cons_zero, List.getElem?_cons_succ, List.set_cons_zero, List.set_cons_succ, List.cons_append, List.nil_append, List.replicate, atI_c0, atI_c1, atI_c2, atI_c3, atI_c4, atI_c5, atI_c6, ixN_70, ixN_71, ixN_72, ixN_73, ixN_74, ixN_75, ixN_76, Nat.reduceAdd, Int.reduceToNat, Int.reducePow, ite_T, ite_F, if_dec, if_ndec, if_nb, true_and, if_true, Bool.false_eq_true, if_false])
/-! ### errors, caught -/
/-- the classes that are raised -/
def raised : List Str := ["BadVector", "BadSize", "BadCatalogue", "Unturnable", "TooFewThick", "TooManyLoose", "NoRow", "Locked", "NoTree", "Jammed"]
def flds : List Str := ["size", "few", "loose", "circle", "knot", "jam"]
def Cat (A : Ad) (C : Addr) : Prop := ∃ n ∈ raised, C = A.g n
/-- the classes by their names -/
structure Nx (K : PySem.W.Frag) (mg : Str → Option Value) (A : Ad) : Prop where
  ex : ∀ C, Cat A C → ExcC K C
  xf : ∀ C, Cat A C → XfC K C
  na : ∀ C, Cat A C → ∀ f ∈ flds, PySem.W.findIn K (.ref C) f = some none
  yard : ∃ Y, mg "YardError" = some (.ref Y) ∧ ∀ C, Cat A C → PySem.W.exmOne K (.ref C) (.ref Y) = some true
  b_ValueError : mg "ValueError" = none
  n_ValueError : ∀ C, Cat A C → PySem.W.kitOne K (.ref C) (.type "ValueError") = some true
  n_BadText : ∀ C, Cat A C → ∃ Y, mg "BadText" = some (.ref Y) ∧ PySem.W.kitOne K (.ref C) (.ref Y) = some (decide (A.nm C = "BadText"))
  n_BadNumber : ∀ C, Cat A C → ∃ Y, mg "BadNumber" = some (.ref Y) ∧ PySem.W.kitOne K (.ref C) (.ref Y) = some (decide (A.nm C = "BadNumber"))
  n_BadVector : ∀ C, Cat A C → ∃ Y, mg "BadVector" = some (.ref Y) ∧ PySem.W.kitOne K (.ref C) (.ref Y) = some (decide (A.nm C = "BadVector"))
  n_BadSize : ∀ C, Cat A C → ∃ Y, mg "BadSize" = some (.ref Y) ∧ PySem.W.kitOne K (.ref C) (.ref Y) = some (decide (A.nm C = "BadSize"))
  n_BadCatalogue : ∀ C, Cat A C → ∃ Y, mg "BadCatalogue" = some (.ref Y) ∧ PySem.W.kitOne K (.ref C) (.ref Y) = some (decide (A.nm C = "BadCatalogue"))
  n_BadAxis : ∀ C, Cat A C → ∃ Y, mg "BadAxis" = some (.ref Y) ∧ PySem.W.kitOne K (.ref C) (.ref Y) = some (decide (A.nm C = "BadAxis"))
  n_BadLook : ∀ C, Cat A C → ∃ Y, mg "BadLook" = some (.ref Y) ∧ PySem.W.kitOne K (.ref C) (.ref Y) = some (decide (A.nm C = "BadLook"))
  n_NoTag : ∀ C, Cat A C → ∃ Y, mg "NoTag" = some (.ref Y) ∧ PySem.W.kitOne K (.ref C) (.ref Y) = some (decide (A.nm C = "NoTag"))
  n_DoubleTag : ∀ C, Cat A C → ∃ Y, mg "DoubleTag" = some (.ref Y) ∧ PySem.W.kitOne K (.ref C) (.ref Y) = some (decide (A.nm C = "DoubleTag"))
  n_BadBox : ∀ C, Cat A C → ∃ Y, mg "BadBox" = some (.ref Y) ∧ PySem.W.kitOne K (.ref C) (.ref Y) = some (decide (A.nm C = "BadBox"))
  n_BadRow : ∀ C, Cat A C → ∃ Y, mg "BadRow" = some (.ref Y) ∧ PySem.W.kitOne K (.ref C) (.ref Y) = some (decide (A.nm C = "BadRow"))
  n_BadStops : ∀ C, Cat A C → ∃ Y, mg "BadStops" = some (.ref Y) ∧ PySem.W.kitOne K (.ref C) (.ref Y) = some (decide (A.nm C = "BadStops"))
  n_BadCut : ∀ C, Cat A C → ∃ Y, mg "BadCut" = some (.ref Y) ∧ PySem.W.kitOne K (.ref C) (.ref Y) = some (decide (A.nm C = "BadCut"))
  n_NoDeed : ∀ C, Cat A C → ∃ Y, mg "NoDeed" = some (.ref Y) ∧ PySem.W.kitOne K (.ref C) (.ref Y) = some (decide (A.nm C = "NoDeed"))
  n_NotPlane : ∀ C, Cat A C → ∃ Y, mg "NotPlane" = some (.ref Y) ∧ PySem.W.kitOne K (.ref C) (.ref Y) = some (decide (A.nm C = "NotPlane"))
  n_NotLevel : ∀ C, Cat A C → ∃ Y, mg "NotLevel" = some (.ref Y) ∧ PySem.W.kitOne K (.ref C) (.ref Y) = some (decide (A.nm C = "NotLevel"))
  n_TooFewThick : ∀ C, Cat A C → ∃ Y, mg "TooFewThick" = some (.ref Y) ∧ PySem.W.kitOne K (.ref C) (.ref Y) = some (decide (A.nm C = "TooFewThick"))
  n_TooMany : ∀ C, Cat A C → ∃ Y, mg "TooMany" = some (.ref Y) ∧ PySem.W.kitOne K (.ref C) (.ref Y) = some (decide (A.nm C = "TooMany"))
  n_Overlap : ∀ C, Cat A C → ∃ Y, mg "Overlap" = some (.ref Y) ∧ PySem.W.kitOne K (.ref C) (.ref Y) = some (decide (A.nm C = "Overlap"))
  n_Hit : ∀ C, Cat A C → ∃ Y, mg "Hit" = some (.ref Y) ∧ PySem.W.kitOne K (.ref C) (.ref Y) = some (decide (A.nm C = "Hit"))
  n_Unturnable : ∀ C, Cat A C → ∃ Y, mg "Unturnable" = some (.ref Y) ∧ PySem.W.kitOne K (.ref C) (.ref Y) = some (decide (A.nm C = "Unturnable"))
  n_TooManyLoose : ∀ C, Cat A C → ∃ Y, mg "TooManyLoose" = some (.ref Y) ∧ PySem.W.kitOne K (.ref C) (.ref Y) = some (decide (A.nm C = "TooManyLoose"))
  n_Blocked : ∀ C, Cat A C → ∃ Y, mg "Blocked" = some (.ref Y) ∧ PySem.W.kitOne K (.ref C) (.ref Y) = some (decide (A.nm C = "Blocked"))
  n_NoRow : ∀ C, Cat A C → ∃ Y, mg "NoRow" = some (.ref Y) ∧ PySem.W.kitOne K (.ref C) (.ref Y) = some (decide (A.nm C = "NoRow"))
  n_Locked : ∀ C, Cat A C → ∃ Y, mg "Locked" = some (.ref Y) ∧ PySem.W.kitOne K (.ref C) (.ref Y) = some (decide (A.nm C = "Locked"))
  n_NoTree : ∀ C, Cat A C → ∃ Y, mg "NoTree" = some (.ref Y) ∧ PySem.W.kitOne K (.ref C) (.ref Y) = some (decide (A.nm C = "NoTree"))
  n_Jammed : ∀ C, Cat A C → ∃ Y, mg "Jammed" = some (.ref Y) ∧ PySem.W.kitOne K (.ref C) (.ref Y) = some (decide (A.nm C = "Jammed"))
theorem Nx.cat {K : PySem.W.Frag} {mg : Str → Option Value} {A : Ad} (N : Nx K mg A) : ∀ C, Cat A C → PySem.W.exmOne K (.ref C) (.ref N.yard.choose) = some true := N.yard.choose_spec.2
abbrev s_Unturnable___init__ : Stmt := inClass (top 23) 0
theorem sc_Unturnable___init__ : FnScope ["self", "size"] ["self", "size"] (defScope s_Unturnable___init__) := ⟨rfl, rfl, rfl, by decide +kernel, rfl, by decide +kernel, by decide +kernel⟩
theorem oki_Unturnable___init__ {P : Program} {w : World} {K : PySem.W.Frag} {mg : Str → Option Value} {base : Heap} {C : Addr} {f : Addr} {fd : FuncData} (F : Fun K "__init__" "Unturnable.__init__" s_Unturnable___init__ f fd) (ml : mg "list" = none) (O : OexC K C) (hno : PySem.W.findIn K (.ref C) "size" = some none) : FnOk P w K mg base (L2N.CX P w) 1 f fd ["self", "size"] (spIV K C "size") := by
  refine okI F sc_Unturnable___init__ (by rintro vs H Q E ⟨_, _, rfl, _⟩; rfl) ?_
  intro X cdv B outer s H Ex hX
  subst hX
  exact ⟨_, pss_one (ps_ost (ev (W := noW) (E := noE) 0).pe (ev (W := noW) (E := noE) 1).pe), tIV O hno _ _⟩
abbrev s_TooFewThick___init__ : Stmt := inClass (top 19) 0
theorem sc_TooFewThick___init__ : FnScope ["self", "few"] ["self", "few"] (defScope s_TooFewThick___init__) := ⟨rfl, rfl, rfl, by decide +kernel, rfl, by decide +kernel, by decide +kernel⟩
theorem oki_TooFewThick___init__ {P : Program} {w : World} {K : PySem.W.Frag} {mg : Str → Option Value} {base : Heap} {C : Addr} {f : Addr} {fd : FuncData} (F : Fun K "__init__" "TooFewThick.__init__" s_TooFewThick___init__ f fd) (ml : mg "list" = none) (O : OexC K C) (hno : PySem.W.findIn K (.ref C) "few" = some none) : FnOk P w K mg base (L2N.CX P w) 1 f fd ["self", "few"] (spIL K C "few") := by
  refine okI F sc_TooFewThick___init__ (by rintro vs H Q E ⟨_, _, _, rfl, _⟩; rfl) ?_
  intro X cdv B outer s H Ex hX
  subst hX
  exact ⟨_, pss_one (ps_ost (ev (W := noW) (E := noE) 0).pe (ecty (W := noW) (E := noE) call_list_of dc_list ml (acons (ev 1) anil)).pe), tIL O hno _ _⟩
abbrev s_TooManyLoose___init__ : Stmt := inClass (top 24) 0
theorem sc_TooManyLoose___init__ : FnScope ["self", "loose"] ["self", "loose"] (defScope s_TooManyLoose___init__) := ⟨rfl, rfl, rfl, by decide +kernel, rfl, by decide +kernel, by decide +kernel⟩
theorem oki_TooManyLoose___init__ {P : Program} {w : World} {K : PySem.W.Frag} {mg : Str → Option Value} {base : Heap} {C : Addr} {f : Addr} {fd : FuncData} (F : Fun K "__init__" "TooManyLoose.__init__" s_TooManyLoose___init__ f fd) (ml : mg "list" = none) (O : OexC K C) (hno : PySem.W.findIn K (.ref C) "loose" = some none) : FnOk P w K mg base (L2N.CX P w) 1 f fd ["self", "loose"] (spIL K C "loose") := by
  refine okI F sc_TooManyLoose___init__ (by rintro vs H Q E ⟨_, _, _, rfl, _⟩; rfl) ?_
  intro X cdv B outer s H Ex hX
  subst hX
  exact ⟨_, pss_one (ps_ost (ev (W := noW) (E := noE) 0).pe (ecty (W := noW) (E := noE) call_list_of dc_list ml (acons (ev 1) anil)).pe), tIL O hno _ _⟩
abbrev s_NoRow___init__ : Stmt := inClass (top 26) 0
theorem sc_NoRow___init__ : FnScope ["self", "circle"] ["self", "circle"] (defScope s_NoRow___init__) := ⟨rfl, rfl, rfl, by decide +kernel, rfl, by decide +kernel, by decide +kernel⟩
theorem oki_NoRow___init__ {P : Program} {w : World} {K : PySem.W.Frag} {mg : Str → Option Value} {base : Heap} {C : Addr} {f : Addr} {fd : FuncData} (F : Fun K "__init__" "NoRow.__init__" s_NoRow___init__ f fd) (ml : mg "list" = none) (O : OexC K C) (hno : PySem.W.findIn K (.ref C) "circle" = some none) : FnOk P w K mg base (L2N.CX P w) 1 f fd ["self", "circle"] (spIL K C "circle") := by
  refine okI F sc_NoRow___init__ (by rintro vs H Q E ⟨_, _, _, rfl, _⟩; rfl) ?_
  intro X cdv B outer s H Ex hX
  subst hX
  exact ⟨_, pss_one (ps_ost (ev (W := noW) (E := noE) 0).pe (ecty (W := noW) (E := noE) call_list_of dc_list ml (acons (ev 1) anil)).pe), tIL O hno _ _⟩
abbrev s_Locked___init__ : Stmt := inClass (top 27) 0
theorem sc_Locked___init__ : FnScope ["self", "circle"] ["self", "circle"] (defScope s_Locked___init__) := ⟨rfl, rfl, rfl, by decide +kernel, rfl, by decide +kernel, by decide +kernel⟩
theorem oki_Locked___init__ {P : Program} {w : World} {K : PySem.W.Frag} {mg : Str → Option Value} {base : Heap} {C : Addr} {f : Addr} {fd : FuncData} (F : Fun K "__init__" "Locked.__init__" s_Locked___init__ f fd) (ml : mg "list" = none) (O : OexC K C) (hno : PySem.W.findIn K (.ref C) "circle" = some none) : FnOk P w K mg base (L2N.CX P w) 1 f fd ["self", "circle"] (spIL K C "circle") := by
  refine okI F sc_Locked___init__ (by rintro vs H Q E ⟨_, _, _, rfl, _⟩; rfl) ?_
  intro X cdv B outer s H Ex hX
  subst hX
  exact ⟨_, pss_one (ps_ost (ev (W := noW) (E := noE) 0).pe (ecty (W := noW) (E := noE) call_list_of dc_list ml (acons (ev 1) anil)).pe), tIL O hno _ _⟩
abbrev s_NoTree___init__ : Stmt := inClass (top 28) 0
theorem sc_NoTree___init__ : FnScope ["self", "knot"] ["self", "knot"] (defScope s_NoTree___init__) := ⟨rfl, rfl, rfl, by decide +kernel, rfl, by decide +kernel, by decide +kernel⟩
theorem oki_NoTree___init__ {P : Program} {w : World} {K : PySem.W.Frag} {mg : Str → Option Value} {base : Heap} {C : Addr} {f : Addr} {fd : FuncData} (F : Fun K "__init__" "NoTree.__init__" s_NoTree___init__ f fd) (ml : mg "list" = none) (O : OexC K C) (hno : PySem.W.findIn K (.ref C) "knot" = some none) : FnOk P w K mg base (L2N.CX P w) 1 f fd ["self", "knot"] (spIL K C "knot") := by
  refine okI F sc_NoTree___init__ (by rintro vs H Q E ⟨_, _, _, rfl, _⟩; rfl) ?_
  intro X cdv B outer s H Ex hX
  subst hX
  exact ⟨_, pss_one (ps_ost (ev (W := noW) (E := noE) 0).pe (ecty (W := noW) (E := noE) call_list_of dc_list ml (acons (ev 1) anil)).pe), tIL O hno _ _⟩
abbrev s_Jammed___init__ : Stmt := inClass (top 29) 0
theorem sc_Jammed___init__ : FnScope ["self", "jam"] ["self", "jam"] (defScope s_Jammed___init__) := ⟨rfl, rfl, rfl, by decide +kernel, rfl, by decide +kernel, by decide +kernel⟩
theorem oki_Jammed___init__ {P : Program} {w : World} {K : PySem.W.Frag} {mg : Str → Option Value} {base : Heap} {C : Addr} {f : Addr} {fd : FuncData} (F : Fun K "__init__" "Jammed.__init__" s_Jammed___init__ f fd) (ml : mg "list" = none) (O : OexC K C) (hno : PySem.W.findIn K (.ref C) "jam" = some none) : FnOk P w K mg base (L2N.CX P w) 1 f fd ["self", "jam"] (spIL K C "jam") := by
  refine okI F sc_Jammed___init__ (by rintro vs H Q E ⟨_, _, _, rfl, _⟩; rfl) ?_
  intro X cdv B outer s H Ex hX
  subst hX
  exact ⟨_, pss_one (ps_ost (ev (W := noW) (E := noE) 0).pe (ecty (W := noW) (E := noE) call_list_of dc_list ml (acons (ev 1) anil)).pe), tIL O hno _ _⟩
theorem raised_errs : ∀ n ∈ raised, n ∈ errs := by decide +kernel
/-! ### the names of a caught error -/
def c_law_names (A : Ad) : CtX := fun a C dx ds μ Q _ => Cat A C ∧ match ds with
  | [.exc a' d' _ _] => a' = a ∧ d' = dx ∧ Q (.lst [.str (A.nm C)]) μ
  | _ => False
theorem len_law_names (A : Ad) : ∀ a C dx ds μ Q E, c_law_names A a C dx ds μ Q E → ds.length = 1 := by
  rintro a C dx ds μ Q E ⟨_, h⟩
  split at h
  · rfl
  · exact h.elim
theorem cls_law_names (A : Ad) : ∀ a C dx ds μ Q E, c_law_names A a C dx ds μ Q E → Cat A C := fun a C dx ds μ Q E h => h.1
abbrev s_law_names : Stmt := top 56
theorem sc_law_names : FnScope ["e", "rows", "words", "k"] ["e"] (defScope s_law_names) := ⟨rfl, rfl, rfl, by decide +kernel, rfl, by decide +kernel, by decide +kernel⟩
def w_law_names_11 (A : Ad) (pa C : Addr) (dx : Option Addr) (E : EX) : WS := (wRet (wFrz (wLc (iR1 (wCons (wCB fLen (wCons (wVar 2) wNil)) wNil)) 3 [3] (wTr (wOp fIx (wVar 1) (wVar 3))) (wOp fIx (wVar 2) (wVar 3)))))
def w_law_names (A : Ad) (pa C : Addr) (dx : Option Addr) (E : EX) : WS := (wSeq (wAsg (wLstF (wCons (wIsX (decide (A.nm C = "BadText")) pa dx (wVar 0)) (wCons (wIsX (decide (A.nm C = "BadNumber")) pa dx (wVar 0)) (wCons (wIsX (decide (A.nm C = "BadVector")) pa dx (wVar 0)) (wCons (wIsX (decide (A.nm C = "BadSize")) pa dx (wVar 0)) wNil))))) (gN 1))
  (wSeq (wAsg (wOp fCat (wVar 1) (wLstF (wCons (wIsX (decide (A.nm C = "BadCatalogue")) pa dx (wVar 0)) (wCons (wIsX (decide (A.nm C = "BadAxis")) pa dx (wVar 0)) (wCons (wIsX (decide (A.nm C = "BadLook")) pa dx (wVar 0)) (wCons (wIsX (decide (A.nm C = "NoTag")) pa dx (wVar 0)) wNil)))))) (gN 1))
  (wSeq (wAsg (wOp fCat (wVar 1) (wLstF (wCons (wIsX (decide (A.nm C = "DoubleTag")) pa dx (wVar 0)) (wCons (wIsX (decide (A.nm C = "BadBox")) pa dx (wVar 0)) (wCons (wIsX (decide (A.nm C = "BadRow")) pa dx (wVar 0)) (wCons (wIsX (decide (A.nm C = "BadStops")) pa dx (wVar 0)) wNil)))))) (gN 1))
  (wSeq (wAsg (wOp fCat (wVar 1) (wLstF (wCons (wIsX (decide (A.nm C = "BadCut")) pa dx (wVar 0)) (wCons (wIsX (decide (A.nm C = "NoDeed")) pa dx (wVar 0)) (wCons (wIsX (decide (A.nm C = "NotPlane")) pa dx (wVar 0)) (wCons (wIsX (decide (A.nm C = "NotLevel")) pa dx (wVar 0)) wNil)))))) (gN 1))
  (wSeq (wAsg (wOp fCat (wVar 1) (wLstF (wCons (wIsX (decide (A.nm C = "TooFewThick")) pa dx (wVar 0)) (wCons (wIsX (decide (A.nm C = "TooMany")) pa dx (wVar 0)) (wCons (wIsX (decide (A.nm C = "Overlap")) pa dx (wVar 0)) (wCons (wIsX (decide (A.nm C = "Hit")) pa dx (wVar 0)) wNil)))))) (gN 1))
  (wSeq (wAsg (wOp fCat (wVar 1) (wLstF (wCons (wIsX (decide (A.nm C = "Unturnable")) pa dx (wVar 0)) (wCons (wIsX (decide (A.nm C = "TooManyLoose")) pa dx (wVar 0)) (wCons (wIsX (decide (A.nm C = "Blocked")) pa dx (wVar 0)) (wCons (wIsX (decide (A.nm C = "NoRow")) pa dx (wVar 0)) wNil)))))) (gN 1))
  (wSeq (wAsg (wOp fCat (wVar 1) (wLstF (wCons (wIsX (decide (A.nm C = "Locked")) pa dx (wVar 0)) (wCons (wIsX (decide (A.nm C = "NoTree")) pa dx (wVar 0)) (wCons (wIsX (decide (A.nm C = "Jammed")) pa dx (wVar 0)) (wCons (wNotV (wIsX true pa dx (wVar 0))) wNil)))))) (gN 1))
  (wSeq (wAsg (wLstF (wCons (wC (.str "BadText")) (wCons (wC (.str "BadNumber")) (wCons (wC (.str "BadVector")) (wCons (wC (.str "BadSize")) (wCons (wC (.str "BadCatalogue")) (wCons (wC (.str "BadAxis")) (wCons (wC (.str "BadLook")) (wCons (wC (.str "NoTag")) (wCons (wC (.str "DoubleTag")) wNil)))))))))) (gN 2))
  (wSeq (wAsg (wOp fCat (wVar 2) (wLstF (wCons (wC (.str "BadBox")) (wCons (wC (.str "BadRow")) (wCons (wC (.str "BadStops")) (wCons (wC (.str "BadCut")) (wCons (wC (.str "NoDeed")) (wCons (wC (.str "NotPlane")) (wCons (wC (.str "NotLevel")) (wCons (wC (.str "TooFewThick")) wNil)))))))))) (gN 2))
  (wSeq (wAsg (wOp fCat (wVar 2) (wLstF (wCons (wC (.str "TooMany")) (wCons (wC (.str "Overlap")) (wCons (wC (.str "Hit")) (wCons (wC (.str "Unturnable")) (wCons (wC (.str "TooManyLoose")) (wCons (wC (.str "Blocked")) (wCons (wC (.str "NoRow")) (wCons (wC (.str "Locked")) (wCons (wC (.str "NoTree")) wNil))))))))))) (gN 2))
  (wSeq (wAsg (wOp fCat (wVar 2) (wLstF (wCons (wC (.str "Jammed")) (wCons (wC (.str "no ValueError")) wNil)))) (gN 2))
  (w_law_names_11 A pa C dx E))))))))))))
theorem names_tab : ∀ n ∈ raised, (((List.range 28).filter fun k => (errs.map (fun x => decide (n = x)) ++ [!true]).getD k false).map fun k => (errs ++ [("no ValueError" : Str)]).getD k "") = [n] := by decide +kernel
theorem names_end (A : Ad) (pa C : Addr) (dx : Option Addr) (bs : List Bool) (ws : List Str) (hb : bs.length = 28) (hw : ws.length = 28) {μ Q E} {r0 : Option D} (h : Q (.lst ((((List.range 28).filter fun k => bs.getD k false).map fun k => ws.getD k "").map D.str)) μ) : w_law_names_11 A pa C dx E (rets Q) [r0, some (.lst (bs.map D.bl)), some (.lst (ws.map D.str)), none] μ := by
  unfold w_law_names_11
  have items : rng 0 28 = (List.range 28).map fun i => D.int (i : Nat) := by
    unfold rng
    refine List.map_congr_left fun i _ => ?_
    rw [Int.zero_add]
  show wFrz _ _ μ _
  refine lc_frz (List.range 28) (fun i => .int (i : Nat)) (fun k => bs.getD k false) (fun k => .str (ws.getD k "")) ⟨.fix (rng 0 28), items, trivial, fun R h => ?_⟩ (by decide) (fun k hk μ' R _ hR => ?_) (fun k hk _ μ' R _ hR => ?_) ?_
  · walk_at "w"
    rw [List.length_map, hw]
    exact ⟨⟨by decide, by decide⟩, h⟩
  · have hk : k < 28 := List.mem_range.mp hk
    have e : atI (bs.map D.bl) ((k : Nat) : Int) = some (.bl (bs.getD k false)) := by
      rw [atI_0, List.getElem?_map, List.getD_eq_getElem?_getD, List.getElem?_eq_getElem (by omega)]
      rfl
    walk_at "w"
    rw [e]
    exact hR
  · have hk : k < 28 := List.mem_range.mp hk
    have e : atI (ws.map D.str) ((k : Nat) : Int) = some (.str (ws.getD k "")) := by
      rw [atI_0, List.getElem?_map, List.getD_eq_getElem?_getD, List.getElem?_eq_getElem (by omega)]
      rfl
    walk_at "w"
    rw [e]
    exact hR
  · rw [List.map_map] at h
    exact dwn.of h
theorem pure_law_names (A : Ad) (pa C : Addr) (dx : Option Addr) (ds μ Q E0) (h : c_law_names A pa C dx ds μ Q E0) : w_law_names A pa C dx (fun C fs _ μ => dwx E0 C fs μ) (rets Q) (st0 4 ds) μ := by
  obtain ⟨hC, h⟩ := h
  split at h
  · rename_i a' d' ks l
    obtain ⟨rfl, rfl, h⟩ := h
    obtain ⟨n, hn, rfl⟩ := hC
    have hi : A.nm (A.g n) = n := A.inv n (raised_errs n hn)
    rw [hi] at h
    unfold w_law_names
    rw [hi]
    walk_at "w"
    iterate 48 (first | refine ⟨⟨_, _, rfl⟩, ?_⟩ | refine ⟨by decide, ?_⟩)
    refine names_end A a' (A.g n) d' (errs.map (fun x => decide (n = x)) ++ [!true]) (errs ++ [("no ValueError" : Str)]) rfl rfl ?_
    rw [names_tab n hn]
    exact h
  · exact h.elim
theorem okh_law_names {P : Program} {w : World} {K : PySem.W.Frag} {mg : Str → Option Value} {base : Heap} {A : Ad} (D : Dfn K mg "_law_names" "_law_names" s_law_names ["e"]) (T : Tx P base K mg A) (Nn : Nx K mg A) : DfX P w K mg base "_law_names" 1 ["e"] (c_law_names A) := by
  obtain ⟨f, fd, F, hm, hb⟩ := D
  refine ⟨f, fd, okX F sc_law_names (by decide) (len_law_names A) (Cat A) (cls_law_names A) ?_, hm, F.kp, hb⟩
  intro X W E cdv B outer s H Ex p C dx hX hC hx tk hp hr
  subst hX
  exact ⟨_, w_law_names A p.1 C dx E, (scons (sset (i := 1) (elstF (acons (eisX hx (Nn.ex C hC) T.b_isinstance (Nn.n_BadText C hC) (ev 0)) (acons (eisX hx (Nn.ex C hC) T.b_isinstance (Nn.n_BadNumber C hC) (ev 0)) (acons (eisX hx (Nn.ex C hC) T.b_isinstance (Nn.n_BadVector C hC) (ev 0)) (acons (eisX hx (Nn.ex C hC) T.b_isinstance (Nn.n_BadSize C hC) (ev 0)) anil))))) sc_law_names.nd)
  (scons (sset (i := 1) (ecat (ev 1) (elstF (acons (eisX hx (Nn.ex C hC) T.b_isinstance (Nn.n_BadCatalogue C hC) (ev 0)) (acons (eisX hx (Nn.ex C hC) T.b_isinstance (Nn.n_BadAxis C hC) (ev 0)) (acons (eisX hx (Nn.ex C hC) T.b_isinstance (Nn.n_BadLook C hC) (ev 0)) (acons (eisX hx (Nn.ex C hC) T.b_isinstance (Nn.n_NoTag C hC) (ev 0)) anil)))))) sc_law_names.nd)
  (scons (sset (i := 1) (ecat (ev 1) (elstF (acons (eisX hx (Nn.ex C hC) T.b_isinstance (Nn.n_DoubleTag C hC) (ev 0)) (acons (eisX hx (Nn.ex C hC) T.b_isinstance (Nn.n_BadBox C hC) (ev 0)) (acons (eisX hx (Nn.ex C hC) T.b_isinstance (Nn.n_BadRow C hC) (ev 0)) (acons (eisX hx (Nn.ex C hC) T.b_isinstance (Nn.n_BadStops C hC) (ev 0)) anil)))))) sc_law_names.nd)
  (scons (sset (i := 1) (ecat (ev 1) (elstF (acons (eisX hx (Nn.ex C hC) T.b_isinstance (Nn.n_BadCut C hC) (ev 0)) (acons (eisX hx (Nn.ex C hC) T.b_isinstance (Nn.n_NoDeed C hC) (ev 0)) (acons (eisX hx (Nn.ex C hC) T.b_isinstance (Nn.n_NotPlane C hC) (ev 0)) (acons (eisX hx (Nn.ex C hC) T.b_isinstance (Nn.n_NotLevel C hC) (ev 0)) anil)))))) sc_law_names.nd)
  (scons (sset (i := 1) (ecat (ev 1) (elstF (acons (eisX hx (Nn.ex C hC) T.b_isinstance (Nn.n_TooFewThick C hC) (ev 0)) (acons (eisX hx (Nn.ex C hC) T.b_isinstance (Nn.n_TooMany C hC) (ev 0)) (acons (eisX hx (Nn.ex C hC) T.b_isinstance (Nn.n_Overlap C hC) (ev 0)) (acons (eisX hx (Nn.ex C hC) T.b_isinstance (Nn.n_Hit C hC) (ev 0)) anil)))))) sc_law_names.nd)
  (scons (sset (i := 1) (ecat (ev 1) (elstF (acons (eisX hx (Nn.ex C hC) T.b_isinstance (Nn.n_Unturnable C hC) (ev 0)) (acons (eisX hx (Nn.ex C hC) T.b_isinstance (Nn.n_TooManyLoose C hC) (ev 0)) (acons (eisX hx (Nn.ex C hC) T.b_isinstance (Nn.n_Blocked C hC) (ev 0)) (acons (eisX hx (Nn.ex C hC) T.b_isinstance (Nn.n_NoRow C hC) (ev 0)) anil)))))) sc_law_names.nd)
  (scons (sset (i := 1) (ecat (ev 1) (elstF (acons (eisX hx (Nn.ex C hC) T.b_isinstance (Nn.n_Locked C hC) (ev 0)) (acons (eisX hx (Nn.ex C hC) T.b_isinstance (Nn.n_NoTree C hC) (ev 0)) (acons (eisX hx (Nn.ex C hC) T.b_isinstance (Nn.n_Jammed C hC) (ev 0)) (acons (enot (eisXB hx (Nn.ex C hC) "ValueError" T.b_isinstance Nn.b_ValueError (by decide +kernel) (Nn.n_ValueError C hC) (ev 0))) anil)))))) sc_law_names.nd)
  (scons (sset (i := 2) (elstF (acons es' (acons es' (acons es' (acons es' (acons es' (acons es' (acons es' (acons es' (acons es' anil)))))))))) sc_law_names.nd)
  (scons (sset (i := 2) (ecat (ev 2) (elstF (acons es' (acons es' (acons es' (acons es' (acons es' (acons es' (acons es' (acons es' anil)))))))))) sc_law_names.nd)
  (scons (sset (i := 2) (ecat (ev 2) (elstF (acons es' (acons es' (acons es' (acons es' (acons es' (acons es' (acons es' (acons es' (acons es' anil))))))))))) sc_law_names.nd)
  (scons (sset (i := 2) (ecat (ev 2) (elstF (acons es' (acons es' anil)))) sc_law_names.nd)
  (sone (sret (efrz (elcHR hx.c sc_law_names.nd [("k", 3)] 3 T.b_range (acons (ecb call_len_seq dc_len T.b_len (acons (ev 2) anil)) anil) (fun _ _ _ _ _ => gnmP 3 sc_law_names.nd) (fun _ _ _ _ _ => ⟨_, (tsone (ttru (eix (ev 1) (ev 3))))⟩) (fun _ _ _ _ _ => ⟨_, (eix (ev 2) (ev 3))⟩)))))))))))))))), fun ds μ Q E0 hc hE => by subst hE; exact pure_law_names A p.1 C dx ds μ Q E0 hc⟩
end K03
set_option maxHeartbeats 800000
namespace K03
open PySem L2 DL
theorem _root_.DL.RoomH.units65 {k : Nat} {A : Around} (r : L2H.RoomH k A) : A.units + 65 < cLine := by have := r.un; omega
local macro_rules | `(tactic| walk_at "w") => `(tactic| simp only [wSeq, wNext, wIf, wRet, wRetN, wDrop, wAsg, gN, wVar, wC, wOp, wUn, wNil, wCons, wCB, wTup, wLst, wLstF, wTe, tB0, wAnd, wOr, wNot, wAndV, wOrV, wNotV, wIfE, wCall, wCallG, wRaise, wFrz, fFrz, rets, fI, fI0, fAdd, fSub, fMul, fLt, fLe, fGt, fGe, fMod, fModN, fPow, fDiv, fDivG, fNeg, fEq, fNe, eqF_int, eqF_bl, eqF_str, scal_int, scal_bl, scal_str, fLen, sv, fIx, fAbs, fInt, fList, wSl, fSlL, oNo, oSo, lvr, lv, fCat, wMeL, fApp, fPop, fSetL, gSb, iLs, iTp, iR1, iR2, wFor, gTp, gCn, gNl, wPar, wBrk, wCnt, fIsi, wIsx, wLc, wYes, wip, wTr, truD, wTry, clrD, wFld, fieldsD, wSetF, wMeth, wMake, wIsX, wXf, wTryX, wRaiseL, wRaiseV, fCatM, fEqL, fStrI, fFmt, wJoin, wJs, wChain, wLc2, wLR, wProp, fRepT, wDIn, wDNewT, fSetD, iR3, gLs, fIns, fPopAt, fClear, fTuple, fMin2, fMaxL, fAny, iEn, wRev, fRev, wDNew, wDNewF, wDsp1, wDsp1F, fAddS, fIsN, fNotN, um_same, um_um, st0, List.map_cons, List.map_nil, List.length_cons, List.length_nil, List.getElem?_cons_zero, List.getElem?_cons_succ, List.set_cons_zero, List.set_cons_succ, List.cons_append, List.nil_append, List.replicate, atI_c0, atI_c1, atI_c2, atI_c3, atI_c4, atI_c5, atI_c6, ixN_70, ixN_71, ixN_72, ixN_73, ixN_74, ixN_75, ixN_76, Nat.reduceAdd, Int.reduceToNat, Int.reducePow, ite_T, ite_F, if_dec, if_ndec, if_nb, true_and, if_true, Bool.false_eq_true, if_false])
/-! ### what a caught error tells -/
def tabF : List (Str × Str) := [("Unturnable", "size"), ("TooFewThick", "few"), ("TooManyLoose", "loose"), ("NoRow", "circle"), ("Locked", "circle"), ("NoTree", "knot"), ("Jammed", "jam")]
/-- the field of the class -/
def fldOf (n : Str) : Option Str := tabF.lookup n
def tells (n : Str) (ks : List Str) (l : List D) (Q : List D → Prop) : Prop := match fldOf n with
  | some f => ∃ x, (ks.zip l).lookup f = some x ∧ Q [x]
  | none => Q []
theorem tells_imp {n : Str} {ks : List Str} {l : List D} {Q Q' : List D → Prop} (h : tells n ks l Q) (i : ∀ xs, xs.length ≤ 1 → Q xs → Q' xs) : tells n ks l Q' := by
  unfold tells at h ⊢
  cases e : fldOf n with
  | none =>
    rw [e] at h
    exact i [] (by decide) h
  | some f =>
    rw [e] at h
    obtain ⟨x, hx, h⟩ := h
    exact ⟨x, hx, i [x] (by simp) h⟩
theorem shp1 : ∀ n ∈ raised, SeqAt.shaped (.str n) = true := by decide +kernel
theorem any2 : ∀ n ∈ raised, (([.str "NoRow", .str "Locked"] : List PyData).any fun z => PyData.eqv z (.str n)) = (decide (n = "NoRow") || decide (n = "Locked")) := by decide +kernel
theorem no_fld : ∀ n ∈ raised, n ≠ "Unturnable" → n ≠ "TooFewThick" → n ≠ "TooManyLoose" → n ≠ "NoRow" → n ≠ "Locked" → n ≠ "NoTree" → n ≠ "Jammed" → fldOf n = none := by
  have : ∀ n ∈ raised, (n = "Unturnable" ∨ n = "TooFewThick" ∨ n = "TooManyLoose" ∨ n = "NoRow" ∨ n = "Locked" ∨ n = "NoTree" ∨ n = "Jammed") ∨ (fldOf n).isNone = true := by decide +kernel
  intro n hn c1 c2 c3 c4 c5 c6 c7
  rcases this n hn with (h | h | h | h | h | h | h) | h
  · exact absurd h c1
  · exact absurd h c2
  · exact absurd h c3
  · exact absurd h c4
  · exact absurd h c5
  · exact absurd h c6
  · exact absurd h c7
  · exact Option.isNone_iff_eq_none.mp h
def c_law_numbers_of (A : Ad) : CtX := fun a C dx ds μ Q _ => Cat A C ∧ match ds with
  | [.exc a' d' ks l, .str word] => a' = a ∧ d' = dx ∧ word = A.nm C ∧ tells word ks l fun xs => Q (.lst xs) μ
  | _ => False
theorem len_law_numbers_of (A : Ad) : ∀ a C dx ds μ Q E, c_law_numbers_of A a C dx ds μ Q E → ds.length = 2 := by
  rintro a C dx ds μ Q E ⟨_, h⟩
  split at h
  · rfl
  · exact h.elim
theorem cls_law_numbers_of (A : Ad) : ∀ a C dx ds μ Q E, c_law_numbers_of A a C dx ds μ Q E → Cat A C := fun a C dx ds μ Q E h => h.1
abbrev s_law_numbers_of : Stmt := top 57
theorem sc_law_numbers_of : FnScope ["e", "word"] ["e", "word"] (defScope s_law_numbers_of) := ⟨rfl, rfl, rfl, by decide +kernel, rfl, by decide +kernel, by decide +kernel⟩
def w_law_numbers_of (A : Ad) (pa C : Addr) (dx : Option Addr) (E : EX) : WS := (wSeq (wIf (wTe (wOp fEq (wVar 1) (wC (.str "Unturnable")))) (wRet (wLstF (wCons (wXf pa dx "size" (wVar 0)) wNil))) wNext)
  (wSeq (wIf (wTe (wOp fEq (wVar 1) (wC (.str "TooFewThick")))) (wRet (wLstF (wCons (wXf pa dx "few" (wVar 0)) wNil))) wNext)
  (wSeq (wIf (wTe (wOp fEq (wVar 1) (wC (.str "TooManyLoose")))) (wRet (wLstF (wCons (wXf pa dx "loose" (wVar 0)) wNil))) wNext)
  (wSeq (wIf (wTe (wOp (fInD false) (wVar 1) (wLstF (wCons (wC (.str "NoRow")) (wCons (wC (.str "Locked")) wNil))))) (wRet (wLstF (wCons (wXf pa dx "circle" (wVar 0)) wNil))) wNext)
  (wSeq (wIf (wTe (wOp fEq (wVar 1) (wC (.str "NoTree")))) (wRet (wLstF (wCons (wXf pa dx "knot" (wVar 0)) wNil))) wNext)
  (wSeq (wIf (wTe (wOp fEq (wVar 1) (wC (.str "Jammed")))) (wRet (wLstF (wCons (wXf pa dx "jam" (wVar 0)) wNil))) wNext)
  (wRet (wLstF wNil))))))))
theorem pure_law_numbers_of (A : Ad) (pa C : Addr) (dx : Option Addr) (ds μ Q E0) (h : c_law_numbers_of A pa C dx ds μ Q E0) : w_law_numbers_of A pa C dx (fun C fs _ μ => dwx E0 C fs μ) (rets Q) (st0 2 ds) μ := by
  obtain ⟨hC, h⟩ := h
  split at h
  · rename_i a' d' ks l word
    obtain ⟨rfl, rfl, hw, h⟩ := h
    obtain ⟨n, hn, rfl⟩ := hC
    rw [A.inv n (raised_errs n hn)] at hw
    subst hw
    unfold w_law_numbers_of
    walk_at "w"
    have yes : ∀ {n f : Str}, word = n → fldOf n = some f → ∃ ks_1 l_1 x, D.exc a' d' ks l = .exc a' d' ks_1 l_1 ∧ (ks_1.zip l_1).lookup f = some x ∧ 1 ≤ 100000 ∧ dwn Q (.lst [x]) μ := fun {n f} e ef => by
      unfold tells at h
      rw [e, ef] at h
      obtain ⟨x, hx, h⟩ := h
      exact ⟨ks, l, x, rfl, hx, by decide, dwn.of h⟩
    refine ite2 (fun c => yes c (by decide +kernel)) (fun c1 => ite2 (fun c => yes c (by decide +kernel)) (fun c2 => ite2 (fun c => yes c (by decide +kernel)) (fun c3 => ?_)))
    refine ⟨by decide, .str word, _, [.str "NoRow", .str "Locked"], rfl, rfl, rfl, shp1 word hn, by decide +kernel, ?_⟩
    rw [if_neg Bool.false_ne_true, any2 word hn]
    dsimp only
    by_cases c4 : word = "NoRow"
    · rw [decide_eq_true c4]
      exact yes c4 (by decide +kernel)
    · rw [decide_eq_false c4, Bool.false_or]
      by_cases c5 : word = "Locked"
      · rw [decide_eq_true c5]
        exact yes c5 (by decide +kernel)
      · rw [decide_eq_false c5, if_neg Bool.false_ne_true]
        refine ite2 (fun c => yes c (by decide +kernel)) (fun c6 => ite2 (fun c => yes c (by decide +kernel)) (fun c7 => ?_))
        have e0 := no_fld word hn c1 c2 c3 c4 c5 c6 c7
        unfold tells at h
        rw [e0] at h
        exact ⟨by decide, dwn.of h⟩
  · exact h.elim
theorem okh_law_numbers_of {P : Program} {w : World} {K : PySem.W.Frag} {mg : Str → Option Value} {base : Heap} {A : Ad} (D : Dfn K mg "_law_numbers_of" "_law_numbers_of" s_law_numbers_of ["e", "word"]) (T : Tx P base K mg A) (Nn : Nx K mg A) : DfX P w K mg base "_law_numbers_of" 1 ["e", "word"] (c_law_numbers_of A) := by
  obtain ⟨f, fd, F, hm, hb⟩ := D
  refine ⟨f, fd, okX F sc_law_numbers_of (by decide) (len_law_numbers_of A) (Cat A) (cls_law_numbers_of A) ?_, hm, F.kp, hb⟩
  intro X W E cdv B outer s H Ex p C dx hX hC hx tk hp hr
  subst hX
  exact ⟨_, w_law_numbers_of A p.1 C dx E, (scons (sif (tc' op_eq do_eq (ev 1) es') (sone (sret (elstF (acons (efX hx (Nn.xf C hC) (Nn.na C hC "size" (by decide)) (ev 0)) anil)))) snil)
  (scons (sif (tc' op_eq do_eq (ev 1) es') (sone (sret (elstF (acons (efX hx (Nn.xf C hC) (Nn.na C hC "few" (by decide)) (ev 0)) anil)))) snil)
  (scons (sif (tc' op_eq do_eq (ev 1) es') (sone (sret (elstF (acons (efX hx (Nn.xf C hC) (Nn.na C hC "loose" (by decide)) (ev 0)) anil)))) snil)
  (scons (sif (tc' (op_inD (RoomH.units65 hr)) do_inD (ev 1) (elstF (acons es' (acons es' anil))) (by rfl)) (sone (sret (elstF (acons (efX hx (Nn.xf C hC) (Nn.na C hC "circle" (by decide)) (ev 0)) anil)))) snil)
  (scons (sif (tc' op_eq do_eq (ev 1) es') (sone (sret (elstF (acons (efX hx (Nn.xf C hC) (Nn.na C hC "knot" (by decide)) (ev 0)) anil)))) snil)
  (scons (sif (tc' op_eq do_eq (ev 1) es') (sone (sret (elstF (acons (efX hx (Nn.xf C hC) (Nn.na C hC "jam" (by decide)) (ev 0)) anil)))) snil)
  (sone (sret (elstF anil))))))))), fun ds μ Q E0 hc hE => by subst hE; exact pure_law_numbers_of A p.1 C dx ds μ Q E0 hc⟩
def c_law_read (A : Ad) : CtX := fun a C dx ds μ Q _ => Cat A C ∧ match ds with
  | [.exc a' d' ks l] => a' = a ∧ d' = dx ∧ tells (A.nm C) ks l fun xs => Q (.lst (.str (A.nm C) :: xs)) μ
  | _ => False
theorem len_law_read (A : Ad) : ∀ a C dx ds μ Q E, c_law_read A a C dx ds μ Q E → ds.length = 1 := by
  rintro a C dx ds μ Q E ⟨_, h⟩
  split at h
  · rfl
  · exact h.elim
theorem cls_law_read (A : Ad) : ∀ a C dx ds μ Q E, c_law_read A a C dx ds μ Q E → Cat A C := fun a C dx ds μ Q E h => h.1
abbrev s_law_read : Stmt := top 58
theorem sc_law_read : FnScope ["e", "names"] ["e"] (defScope s_law_read) := ⟨rfl, rfl, rfl, by decide +kernel, rfl, by decide +kernel, by decide +kernel⟩
def w_law_read (A : Ad) (pa C : Addr) (dx : Option Addr) (E : EX) : WS := (wSeq (wAsg (wCall (c_law_names A pa C dx) E (wCons (wVar 0) wNil)) (gN 1))
  (wSeq (wIf (wTe (wOp fNe (wCB fLen (wCons (wVar 1) wNil)) (wC (.int (1))))) (wRet (wVar 1)) wNext)
  (wRet (wOp fCat (wVar 1) (wCall (c_law_numbers_of A pa C dx) E (wCons (wVar 0) (wCons (wOp fIx (wVar 1) (wC (.int (0)))) wNil)))))))
theorem pure_law_read (A : Ad) (pa C : Addr) (dx : Option Addr) (ds μ Q E0) (h : c_law_read A pa C dx ds μ Q E0) : w_law_read A pa C dx (fun C fs _ μ => dwx E0 C fs μ) (rets Q) (st0 2 ds) μ := by
  obtain ⟨hC, h⟩ := h
  split at h
  · rename_i a' d' ks l
    obtain ⟨rfl, rfl, h⟩ := h
    unfold w_law_read
    walk_at "w"
    refine ⟨hC, rfl, rfl, ?_⟩
    walk_at "w"
    refine ite2 (fun _ => ?_) (fun c => absurd (by decide) c)
    refine ⟨hC, rfl, rfl, rfl, tells_imp h fun xs hx hq => ?_⟩
    exact ⟨by show 1 + xs.length ≤ 100000; omega, dwn.of hq⟩
  · exact h.elim
theorem okh_law_read {P : Program} {w : World} {K : PySem.W.Frag} {mg : Str → Option Value} {base : Heap} {A : Ad} (D : Dfn K mg "_law_read" "_law_read" s_law_read ["e"]) (T : Tx P base K mg A) (Nn : Nx K mg A) (H_law_numbers_of : DfX P w K mg base "_law_numbers_of" 1 ["e", "word"] (c_law_numbers_of A)) (H_law_names : DfX P w K mg base "_law_names" 1 ["e"] (c_law_names A)) : DfX P w K mg base "_law_read" 2 ["e"] (c_law_read A) := by
  obtain ⟨f, fd, F, hm, hb⟩ := D
  refine ⟨f, fd, okX F sc_law_read (by decide) (len_law_read A) (Cat A) (cls_law_read A) ?_, hm, F.kp, hb⟩
  intro X W E cdv B outer s H Ex p C dx hX hC hx tk hp hr
  subst hX
  exact ⟨_, w_law_read A p.1 C dx E, (scons (sset (i := 1) (ecallX tk H_law_names hx (hr.mono (by decide)) (acons (ev 0) anil)) sc_law_read.nd)
  (scons (sif (tc' op_ne do_ne (ecb call_len_seq dc_len T.b_len (acons (ev 1) anil)) ei) (sone (sret (ev 1))) snil)
  (sone (sret (ecat (ev 1) (ecallX tk H_law_numbers_of hx (hr.mono (by decide)) (acons (ev 0) (acons (eix (ev 1) ei) anil)))))))), fun ds μ Q E0 hc hE => by subst hE; exact pure_law_read A p.1 C dx ds μ Q E0 hc⟩
end K03
set_option maxHeartbeats 800000
namespace K03
open PySem L2 DL
local macro_rules | `(tactic| walk_at "w") => `(tactic| simp only [wSeq, wNext, wIf, wRet, wRetN, wDrop, wAsg, gN, wVar, wC, wOp, wUn, wNil, wCons, wCB, wTup, wLst, wLstF, wTe, tB0, wAnd, wOr, wNot, wAndV, wOrV, wNotV, wIfE, wCall, wCallG, wRaise, wFrz, fFrz, rets, fI, fI0, fAdd, fSub, fMul, fLt, fLe, fGt, fGe, fMod, fModN, fPow, fDiv, fDivG, fNeg, fEq, fNe, eqF_int, eqF_bl, eqF_str, scal_int, scal_bl, scal_str, fLen, sv, fIx, fAbs, fInt, fList, wSl, fSlL, oNo, oSo, lvr, lv, fCat, wMeL, fApp, fPop, fSetL, gSb, iLs, iTp, iR1, iR2, wFor, gTp, gCn, gNl, wPar, wBrk, wCnt, fIsi, wIsx, wLc, wYes, wip, wTr, truD, wTry, clrD, wFld, fieldsD, wSetF, wMeth, wMake, wIsX, wXf, wTryX, wRaiseL, wRaiseV, fCatM, fEqL, fStrI, fFmt, wJoin, wJs, wChain, wLc2, wLR, wProp, fRepT, wDIn, wDNewT, fSetD, iR3, gLs, fIns, fPopAt, fClear, fTuple, fMin2, fMaxL, fAny, iEn, wRev, fRev, wDNew, wDNewF, wDsp1, wDsp1F, fAddS, fIsN, fNotN, um_same, um_um, st0, List.map_cons, List.map_nil, List.length_cons, List.length_nil, List.getElem?_cons_zero, List.getElem?_cons_succ, List.set_cons_zero, List.set_cons_succ, List.cons_append, List.nil_append, List.replicate, atI_c0, atI_c1, atI_c2, atI_c3, atI_c4, atI_c5, atI_c6, ixN_70, ixN_71, ixN_72, ixN_73, ixN_74, ixN_75, ixN_76, Nat.reduceAdd, Int.reduceToNat, Int.reducePow, ite_T, ite_F, if_dec, if_ndec, if_nb, true_and, if_true, Bool.false_eq_true, if_false])
/-! ### errors made and told; a catalogue asked -/
theorem refuse_raised {ps : List Int} {szs : List (List Int)} {x : Str} (h : refuse ps szs = some x) : x ∈ raised := by
  have h3 : x = "BadVector" ∨ x = "BadSize" ∨ x = "BadCatalogue" := by
    unfold refuse verdict at h
    by_cases c : ps.length < 1 ∨ 5 < ps.length
    · rw [if_pos c] at h
      cases h
      exact .inl rfl
    · rw [if_neg c] at h
      cases c1 : szs.all (fun s => decide (s.length = ps.length)) with
      | false =>
        rw [c1, if_pos rfl] at h
        cases h
        exact .inl rfl
      | true =>
        rw [c1, if_neg (by decide)] at h
        cases c2 : szs.all (fun s => s.all (inB 1000000)) with
        | false =>
          rw [c2, if_pos rfl] at h
          cases h
          exact .inr (.inl rfl)
        | true =>
          rw [c2, if_neg (by decide)] at h
          cases c3 : ps.all (inB 1000) with
          | false =>
            rw [c3, if_pos rfl] at h
            cases h
            exact .inr (.inr rfl)
          | true =>
            rw [c3, if_neg (by decide)] at h
            dsimp only at h
            by_cases c4 : (once szs).length < 1 ∨ 12 < (once szs).length
            · rw [if_pos c4] at h
              cases h
              exact .inr (.inr rfl)
            · rw [if_neg c4] at h
              cases h
  rcases h3 with rfl | rfl | rfl <;> decide +kernel
def words7 : List Str := ["TooFewThick", "TooManyLoose", "NoRow", "Locked", "NoTree", "Jammed"]
def c_law_raised_with (A : Ad) : Ct := fun ds μ Q _ => match ds with
  | [.str word, d] => (word = "Unturnable" ∧ Q (.lst [.str word, d]) μ) ∨ (word ∈ words7 ∧ ∃ l, lvr μ d = some l ∧ Q (.lst [.str word, .lst l]) μ)
  | _ => False
abbrev s_law_raised_with : Stmt := top 59
theorem sc_law_raised_with : FnScope ["word", "thing", "e"] ["word", "thing"] (defScope s_law_raised_with) := ⟨rfl, rfl, rfl, by decide +kernel, rfl, by decide +kernel, by decide +kernel⟩
def w_law_raised_with (A : Ad) (E : EX) : WS := (wTryX (Cat A) 2 (fun E => (wSeq (wIf (wTe (wOp fEq (wVar 0) (wC (.str "Unturnable")))) (wRaiseV (A.g "Unturnable") "size" E (wCons (wVar 1) wNil)) wNext)
  (wSeq (wIf (wTe (wOp fEq (wVar 0) (wC (.str "TooFewThick")))) (wRaiseL (A.g "TooFewThick") "few" E (wCons (wVar 1) wNil)) wNext)
  (wSeq (wIf (wTe (wOp fEq (wVar 0) (wC (.str "TooManyLoose")))) (wRaiseL (A.g "TooManyLoose") "loose" E (wCons (wVar 1) wNil)) wNext)
  (wSeq (wIf (wTe (wOp fEq (wVar 0) (wC (.str "NoRow")))) (wRaiseL (A.g "NoRow") "circle" E (wCons (wVar 1) wNil)) wNext)
  (wSeq (wIf (wTe (wOp fEq (wVar 0) (wC (.str "Locked")))) (wRaiseL (A.g "Locked") "circle" E (wCons (wVar 1) wNil)) wNext)
  (wSeq (wIf (wTe (wOp fEq (wVar 0) (wC (.str "NoTree")))) (wRaiseL (A.g "NoTree") "knot" E (wCons (wVar 1) wNil)) wNext)
  (wRaiseL (A.g "Jammed") "jam" E (wCons (wVar 1) wNil)))))))))
  (fun a C dx => (wRet (wCall (c_law_read A a C dx) noE (wCons (wVar 2) wNil)))))
theorem pure_law_raised_with (A : Ad) (ds μ Q E0) (h : c_law_raised_with A ds μ Q E0) : w_law_raised_with A (fun C fs _ μ => dwx E0 C fs μ) (rets Q) (st0 3 ds) μ := by
  unfold c_law_raised_with at h
  split at h
  · rename_i word d
    unfold w_law_raised_with
    walk_at "w"
    have read : ∀ (n f : Str) (x : D), n ∈ raised → fldOf n = some f → Q (.lst [.str n, x]) μ → ∀ (a : Addr) (dx : Option Addr) (E : Addr → List (Str × D) → Mu → Prop), c_law_read A a (A.g n) dx [.exc a dx [f] [x]] μ (fun d μ => dwn Q d μ) E := fun n f x hn hf hq a dx E => by
      refine ⟨⟨n, hn, rfl⟩, rfl, rfl, ?_⟩
      rw [A.inv n (raised_errs n hn)]
      unfold tells
      rw [hf]
      exact ⟨x, by simp [List.lookup], dwn.of hq⟩
    have go : ∀ n f : Str, n ∈ raised → n ≠ "Unturnable" → fldOf n = some f → word = n → ∃ (d_1 : D) (l : List D), [d] = [d_1] ∧ lvr μ d_1 = some l ∧ Cat A (A.g n) ∧ ∀ (a : Addr) (dx : Option Addr), c_law_read A a (A.g n) dx [.exc a dx [f] [.lst l]] μ (fun d μ => dwn Q d μ) fun C fs μ2 => noE C fs [some (.str word), some d, some (.exc a dx [f] [.lst l])] μ2 := fun n f hn hu hf e => by
      rcases h with ⟨e2, _⟩ | ⟨_, l, el, hq⟩
      · exact absurd (e ▸ e2) hu
      · rw [e] at hq
        exact ⟨d, l, rfl, el, ⟨n, hn, rfl⟩, fun a dx => read n f _ hn hf hq a dx _⟩
    refine ite2 (fun c => ?_) (fun c1 => ite2 (go _ _ (by decide +kernel) (by decide) (by decide +kernel)) (fun c2 => ite2 (go _ _ (by decide +kernel) (by decide) (by decide +kernel)) (fun c3 => ite2 (go _ _ (by decide +kernel) (by decide) (by decide +kernel)) (fun c4 => ite2 (go _ _ (by decide +kernel) (by decide) (by decide +kernel)) (fun c5 => ite2 (go _ _ (by decide +kernel) (by decide) (by decide +kernel)) (fun c6 => go _ _ (by decide +kernel) (by decide) (by decide +kernel) ?_))))))
    · rcases h with ⟨_, hq⟩ | ⟨hm, _⟩
      · rw [c] at hq
        exact ⟨d, rfl, ⟨_, by decide +kernel, rfl⟩, fun a dx => read _ _ _ (by decide +kernel) (by decide +kernel) hq a dx _⟩
      · rw [c] at hm
        exact absurd hm (by decide +kernel)
    · rcases h with ⟨e, _⟩ | ⟨hm, _⟩
      · exact absurd e c1
      · simp only [words7, List.mem_cons, List.not_mem_nil, or_false] at hm
        rcases hm with e | e | e | e | e | e
        · exact absurd e c2
        · exact absurd e c3
        · exact absurd e c4
        · exact absurd e c5
        · exact absurd e c6
        · exact e
  · exact h.elim
theorem len_law_raised_with (A : Ad) : ∀ ds μ Q E, c_law_raised_with A ds μ Q E → ds.length = 2 := by
  intro ds μ Q E h
  unfold c_law_raised_with at h
  first | (split at h) | (split at h)
  all_goals first | rfl | exact h.elim
theorem ok_law_raised_with {P : Program} {w : World} {K : PySem.W.Frag} {mg : Str → Option Value} {base : Heap} {A : Ad} (D : Dfn K mg "_law_raised_with" "_law_raised_with" s_law_raised_with ["word", "thing"]) (T : Tx P base K mg A)  (Nn : Nx K mg A) (I_Jammed : DfI P w K mg base "Jammed" (A.g "Jammed") (spIL K (A.g "Jammed") "jam")) (I_NoTree : DfI P w K mg base "NoTree" (A.g "NoTree") (spIL K (A.g "NoTree") "knot")) (I_Locked : DfI P w K mg base "Locked" (A.g "Locked") (spIL K (A.g "Locked") "circle")) (I_NoRow : DfI P w K mg base "NoRow" (A.g "NoRow") (spIL K (A.g "NoRow") "circle")) (I_TooManyLoose : DfI P w K mg base "TooManyLoose" (A.g "TooManyLoose") (spIL K (A.g "TooManyLoose") "loose")) (I_TooFewThick : DfI P w K mg base "TooFewThick" (A.g "TooFewThick") (spIL K (A.g "TooFewThick") "few")) (I_Unturnable : DfI P w K mg base "Unturnable" (A.g "Unturnable") (spIV K (A.g "Unturnable") "size")) (H_law_read : DfX P w K mg base "_law_read" 2 ["e"] (c_law_read A)) : DfOk P w K mg base "_law_raised_with" 4 ["word", "thing"] (c_law_raised_with A) := by
  obtain ⟨f, fd, F, hm, hb⟩ := D
  refine ⟨f, fd, okD F sc_law_raised_with (by decide) (len_law_raised_with A) ?_, hm, F.kp, hb⟩
  intro X W E cdv B outer s H Ex hX tk hp hr
  subst hX
  exact ⟨_, w_law_raised_with A E, (sone (stryX tk Nn.cat ⟨rfl, by decide, .inl Nn.yard.choose_spec.1⟩ sc_law_raised_with.nd
  (fun W E pn xe tk => ⟨_, (scons (sif (tc' op_eq do_eq (ev 0) es') (sone (sraiseV tk I_Unturnable (hr.mono (by decide)) (acons (ev 1) anil))) snil)
  (scons (sif (tc' op_eq do_eq (ev 0) es') (sone (sraiseL tk I_TooFewThick (hr.mono (by decide)) (acons (ev 1) anil))) snil)
  (scons (sif (tc' op_eq do_eq (ev 0) es') (sone (sraiseL tk I_TooManyLoose (hr.mono (by decide)) (acons (ev 1) anil))) snil)
  (scons (sif (tc' op_eq do_eq (ev 0) es') (sone (sraiseL tk I_NoRow (hr.mono (by decide)) (acons (ev 1) anil))) snil)
  (scons (sif (tc' op_eq do_eq (ev 0) es') (sone (sraiseL tk I_Locked (hr.mono (by decide)) (acons (ev 1) anil))) snil)
  (scons (sif (tc' op_eq do_eq (ev 0) es') (sone (sraiseL tk I_NoTree (hr.mono (by decide)) (acons (ev 1) anil))) snil)
  (sone (sraiseL tk I_Jammed (hr.mono (by decide)) (acons (ev 1) anil)))))))))⟩)
  (fun a C dx pn hC hx tk => ⟨_, (sone (sret (ecallX tk H_law_read hx (room_mark (hr.mono (by decide))) (acons (ev 2) anil))))⟩))), fun ds μ Q E0 hc hE => by subst hE; exact pure_law_raised_with A ds μ Q E0 hc⟩
def c_law_asked (A : Ad) : Ct := fun ds μ Q _ => match ds with
  | [.tup pl, d] => ∃ (ps : List Int) (szs : List (List Int)), pl = ps.map D.int ∧ lv μ d = some (szs.map tI) ∧ szs.length ≤ 1000 ∧ Q (wantD ps szs) μ
  | _ => False
abbrev s_law_asked : Stmt := top 61
theorem sc_law_asked : FnScope ["pitch", "sizes", "cat", "e"] ["pitch", "sizes"] (defScope s_law_asked) := ⟨rfl, rfl, rfl, by decide +kernel, rfl, by decide +kernel, by decide +kernel⟩
def w_law_asked (A : Ad) (E : EX) : WS := (wTryX (Cat A) 3 (fun E => (wSeq (wAsg (wMake (A.g "Catalogue") (c_Catalogue___init__ A) E (wCons (wVar 0) (wCons (wVar 1) wNil))) (gN 2))
  (wRet (wTup (wCons (wC (.str "value")) (wCons (wLstF (wCons (wProp (A.g "Catalogue") (c_Catalogue_pitch A) (wVar 2)) (wCons (wProp (A.g "Catalogue") (c_Catalogue_sizes A) (wVar 2)) (wCons (wProp (A.g "Catalogue") (c_Catalogue_axes A) (wVar 2)) (wCons (wProp (A.g "Catalogue") (c_Catalogue_thick A) (wVar 2)) wNil))))) wNil))))))
  (fun a C dx => (wRet (wTup (wCons (wC (.str "fault")) (wCons (wCall (c_law_names A a C dx) noE (wCons (wVar 3) wNil)) wNil))))))
theorem pure_law_asked (A : Ad) (ds μ Q E0) (h : c_law_asked A ds μ Q E0) : w_law_asked A (fun C fs _ μ => dwx E0 C fs μ) (rets Q) (st0 4 ds) μ := by
  unfold c_law_asked at h
  split at h
  · rename_i pl d
    obtain ⟨ps, szs, rfl, el, hl, h⟩ := h
    unfold w_law_asked
    walk_at "w"
    intro p hp
    refine ⟨ps, szs, rfl, lv_mono (le.um hp) el, hl, um_same, ?_⟩
    unfold wantD at h
    cases hr : refuse ps szs with
    | some x =>
      rw [hr] at h
      have hx := refuse_raised hr
      refine ⟨⟨x, hx, rfl⟩, fun a dx => ⟨⟨x, hx, rfl⟩, rfl, rfl, by decide, μ, le.um hp, ?_⟩⟩
      rw [A.inv x (raised_errs x hx)]
      exact h
    | none =>
      rw [hr] at h
      have hm : (um (um μ p (.ins (A.g "Catalogue") [])) p (.ins (A.g "Catalogue") (catF ps (once szs)))) p = some (.ins (A.g "Catalogue") (catF ps (once szs))) := um_same
      have hf : ∃ fs, (match (um (um μ p (.ins (A.g "Catalogue") [])) p (.ins (A.g "Catalogue") (catF ps (once szs)))) p with | some (.ins C fs) => some (C, fs) | _ => none) = some (A.g "Catalogue", fs) := ⟨_, by rw [hm]⟩
      refine ⟨rfl, hf, ps, once szs, hm, hf, ps, once szs, hm, hf, ps, once szs, hm, hf, ps, once szs, hm, by decide, by decide, μ, ?_, h⟩
      rw [um_um]
      exact le.um hp
  · exact h.elim
theorem len_law_asked (A : Ad) : ∀ ds μ Q E, c_law_asked A ds μ Q E → ds.length = 2 := by
  intro ds μ Q E h
  unfold c_law_asked at h
  first | (split at h) | (split at h)
  all_goals first | rfl | exact h.elim
theorem ok_law_asked {P : Program} {w : World} {K : PySem.W.Frag} {mg : Str → Option Value} {base : Heap} {A : Ad} (D : Dfn K mg "_law_asked" "_law_asked" s_law_asked ["pitch", "sizes"]) (T : Tx P base K mg A)  (Nn : Nx K mg A) (P_Catalogue_thick : DfP P w K mg base (A.g "Catalogue") "thick" 1 (c_Catalogue_thick A)) (P_Catalogue_axes : DfP P w K mg base (A.g "Catalogue") "axes" 1 (c_Catalogue_axes A)) (P_Catalogue_sizes : DfP P w K mg base (A.g "Catalogue") "sizes" 1 (c_Catalogue_sizes A)) (P_Catalogue_pitch : DfP P w K mg base (A.g "Catalogue") "pitch" 1 (c_Catalogue_pitch A)) (M_Catalogue : DfK P w K mg base "Catalogue" (A.g "Catalogue") 6 ["self", "pitch", "sizes"] (c_Catalogue___init__ A)) (H_law_names : DfX P w K mg base "_law_names" 1 ["e"] (c_law_names A)) : DfOk P w K mg base "_law_asked" 8 ["pitch", "sizes"] (c_law_asked A) := by
  obtain ⟨f, fd, F, hm, hb⟩ := D
  refine ⟨f, fd, okD F sc_law_asked (by decide) (len_law_asked A) ?_, hm, F.kp, hb⟩
  intro X W E cdv B outer s H Ex hX tk hp hr
  subst hX
  exact ⟨_, w_law_asked A E, (sone (stryX tk Nn.cat ⟨rfl, by decide, .inl Nn.yard.choose_spec.1⟩ sc_law_asked.nd
  (fun W E pn xe tk => ⟨_, (scons (sset (i := 2) (emake tk M_Catalogue (hr.mono (by decide)) (acons (ev 0) (acons (ev 1) anil))) sc_law_asked.nd)
  (sone (sret (etup (acons es' (acons (elstF (acons (eprop P_Catalogue_pitch (hr.mono (by decide)) (ev 2)) (acons (eprop P_Catalogue_sizes (hr.mono (by decide)) (ev 2)) (acons (eprop P_Catalogue_axes (hr.mono (by decide)) (ev 2)) (acons (eprop P_Catalogue_thick (hr.mono (by decide)) (ev 2)) anil))))) anil))))))⟩)
  (fun a C dx pn hC hx tk => ⟨_, (sone (sret (etup (acons es' (acons (ecallX tk H_law_names hx (room_mark (hr.mono (by decide))) (acons (ev 3) anil)) anil)))))⟩))), fun ds μ Q E0 hc hE => by subst hE; exact pure_law_asked A ds μ Q E0 hc⟩
end K03
set_option maxHeartbeats 800000
namespace K03
open PySem L2 DL
local macro_rules | `(tactic| walk_at "w") => `(tactic| simp only [wSeq, wNext, wIf, wRet, wRetN, wDrop, wAsg, gN, wVar, wC, wOp, wUn, wNil, wCons, wCB, wTup, wLst, wLstF, wTe, tB0, wAnd, wOr, wNot, wAndV, wOrV, wNotV, wIfE, wCall, wCallG, wRaise, wFrz, fFrz, rets, fI, fI0, fAdd, fSub, fMul, fLt, fLe, fGt, fGe, fMod, fModN, fPow, fDiv, fDivG, fNeg, fEq, fNe, eqF_int, eqF_bl, eqF_str, scal_int, scal_bl, scal_str, fLen, sv, fIx, fAbs, fInt, fList, wSl, fSlL, oNo, oSo, lvr, lv, fCat, wMeL, fApp, fPop, fSetL, gSb, iLs, iTp, iR1, iR2, wFor, gTp, gCn, gNl, wPar, wBrk, wCnt, fIsi, wIsx, wLc, wYes, wip, wTr, truD, wTry, clrD, wFld, fieldsD, wSetF, wMeth, wMake, wIsX, wXf, wTryX, wRaiseL, wRaiseV, fCatM, fEqL, fStrI, fFmt, wJoin, wJs, wChain, wLc2, wLR, wProp, fRepT, wDIn, wDNewT, fSetD, iR3, gLs, fIns, fPopAt, fClear, fTuple, fMin2, fMaxL, fAny, iEn, wRev, fRev, wDNew, wDNewF, wDsp1, wDsp1F, fAddS, fIsN, fNotN, um_same, um_um, st0, List.map_cons, List.map_nil, List.length_cons, List.length_nil, List.getElem?_cons_zero, List.getElem?_cons_succ, List.set_cons_zero, List.set_cons_succ, List.cons_append, List.nil_append, List.replicate, atI_c0, atI_c1, atI_c2, atI_c3, atI_c4, atI_c5, atI_c6, ixN_70, ixN_71, ixN_72, ixN_73, ixN_74, ixN_75, ixN_76, Nat.reduceAdd, Int.reduceToNat, Int.reducePow, ite_T, ite_F, if_dec, if_ndec, if_nb, true_and, if_true, Bool.false_eq_true, if_false])
/-! ### the seven refusals with a field -/
def c_law_refusals (A : Ad) : Ct := fun ds μ Q _ => match ds with
  | [.int _, .lst l] => ∃ ns : List Int, l = ns.map D.int ∧ ns.length ≤ 1000 ∧ Q (.bl true) μ
  | _ => False
abbrev s_law_refusals : Stmt := top 60
theorem sc_law_refusals : FnScope ["n", "rows", "word", "handed", "told"] ["n", "rows"] (defScope s_law_refusals) := ⟨rfl, rfl, rfl, by decide +kernel, rfl, by decide +kernel, by decide +kernel⟩
def w_law_refusals_1 (A : Ad) (E : EX) : WS := (wRet (wCall (c_law_same A) E (wCons (wCall (c_law_raised_with A) E (wCons (wC (.str "Unturnable")) (wCons (wCB fTuple (wCons (wVar 1) wNil)) wNil))) (wCons (wLstF (wCons (wC (.str "Unturnable")) (wCons (wCB fTuple (wCons (wVar 1) wNil)) wNil))) wNil))))
def w_law_refusals_b1 (A : Ad) (E : EX) : WS := (wSeq (wAsg (wCB fList (wCons (wVar 1) wNil)) (gN 3))
  (wSeq (wAsg (wCall (c_law_raised_with A) E (wCons (wVar 2) (wCons (wVar 3) wNil))) (gN 4))
  (wSeq (wIf (wOr (wNot (wTe (wCall (c_law_same A) E (wCons (wVar 4) (wCons (wLstF (wCons (wVar 2) (wCons (wVar 1) wNil))) wNil))))) (wNot (wTe (wCall (c_law_same A) E (wCons (wVar 3) (wCons (wVar 1) wNil)))))) (wRet (wC (.bl false))) wNext)
  (wSeq (wDrop (wMeL fApp (wVar 3) (wCons (wVar 0) wNil)))
  (wIf (wNot (wTe (wCall (c_law_same A) E (wCons (wVar 4) (wCons (wLstF (wCons (wVar 2) (wCons (wVar 1) wNil))) wNil))))) (wRet (wC (.bl false))) wNext)))))
def w_law_refusals (A : Ad) (E : EX) : WS := (wSeq (wFor (iLs (wLstF (wCons (wC (.str "TooFewThick")) (wCons (wC (.str "TooManyLoose")) (wCons (wC (.str "NoRow")) (wCons (wC (.str "Locked")) (wCons (wC (.str "NoTree")) (wCons (wC (.str "Jammed")) wNil)))))))) (gN 2) (w_law_refusals_b1 A E))
  (w_law_refusals_1 A E))
theorem pds_ints : ∀ ns : List Int, pds (ns.map D.int) = true
  | [] => rfl
  | n :: ns => pds_ints ns
theorem szs_ints : ∀ ns : List Int, szs (ns.map D.int) = ns.length
  | [] => rfl
  | n :: ns => by
    show 1 + szs (ns.map D.int) = ns.length + 1
    rw [szs_ints ns]; omega
theorem same_lst {A : Ad} {l : List D} {μ : Mu} {Q : D → Mu → Prop} {E : Addr → List (Str × D) → Mu → Prop} (h1 : pd (.lst l) = true) (h2 : szD (.lst l) < 100000) (q : Q (.bl true) μ) : c_law_same A [.lst l, .lst l] μ Q E :=
  ⟨h1, h1, h2, fun b hb => by obtain rfl : b = true := hb.mpr rfl; exact q⟩
theorem same_tup {A : Ad} {l : List D} {μ : Mu} {Q : D → Mu → Prop} {E : Addr → List (Str × D) → Mu → Prop} (h1 : pd (.tup l) = true) (h2 : szD (.tup l) < 100000) (q : Q (.bl true) μ) : c_law_same A [.tup l, .tup l] μ Q E :=
  ⟨h1, h1, h2, fun b hb => by obtain rfl : b = true := hb.mpr rfl; exact q⟩
theorem pure_law_refusals (A : Ad) (ds μ Q E0) (h : c_law_refusals A ds μ Q E0) : w_law_refusals A (fun C fs _ μ => dwx E0 C fs μ) (rets Q) (st0 5 ds) μ := by
  unfold c_law_refusals at h
  split at h
  · rename_i n l
    obtain ⟨ns, rfl, hl, h⟩ := h
    unfold w_law_refusals
    walk_at "w"
    refine ⟨by decide, fun i ρ μ' => μ' = μ ∧ ∃ r2 r3 r4 : Option D, ρ = [some (.int n), some (.lst (ns.map D.int)), r2, r3, r4], ⟨rfl, _, _, _, rfl⟩, fun _ _ _ _ => trivial, ?_, ?_⟩
    · rintro i d ρ μ' hd ⟨rfl, r2, r3, r4, rfl⟩
      rw [fixi] at hd
      obtain ⟨word, hw, rfl⟩ : ∃ w ∈ words7, d = .str w := by
        have : ([.str "TooFewThick", .str "TooManyLoose", .str "NoRow", .str "Locked", .str "NoTree", .str "Jammed"] : List D) = words7.map D.str := rfl
        rw [this] at hd
        obtain ⟨w, hw, e⟩ := List.mem_map.mp (List.mem_of_getElem? hd)
        exact ⟨w, hw, e.symm⟩
      clear hd
      unfold w_law_refusals_b1
      walk_at "w"
      intro p hp
      have pl : pd (.lst [.str word, .lst (ns.map D.int)]) = true := by
        show (true && (pds (ns.map D.int) && true)) = true
        rw [pds_ints]; rfl
      have sz : szD (.lst [.str word, .lst (ns.map D.int)]) < 100000 := by
        show 1 + (1 + (1 + szs (ns.map D.int) + 0)) < 100000
        rw [szs_ints]; omega
      refine .inr ⟨hw, ns.map D.int, lvr_cell um_same, by decide, same_lst pl sz ?_⟩
      dsimp only
      rw [if_pos rfl]
      refine ⟨ns.map D.int, um_same, pds_ints ns, pds_ints ns, by rw [szs_ints]; omega, fun b hb => ?_⟩
      obtain rfl : b = true := hb.mpr rfl
      dsimp only
      rw [if_pos rfl]
      refine ⟨⟨p, _, rfl, um_same⟩, ?_⟩
      rw [um_same]
      refine ⟨by rw [List.length_map]; omega, by decide, same_lst pl sz ?_⟩
      dsimp only
      rw [if_pos rfl, um_um]
      exact wk.mu (le.um hp) ⟨rfl, _, _, _, rfl⟩
    · rintro ρ μ' ⟨rfl, r2, r3, r4, rfl⟩
      unfold w_law_refusals_1
      walk_at "w"
      refine ⟨_, rfl, .inl ⟨rfl, _, rfl, by decide, same_lst ?_ ?_ (dwn.of h)⟩⟩
      · show (true && (pds (ns.map D.int) && true)) = true
        rw [pds_ints]; rfl
      · show 1 + (1 + (1 + szs (ns.map D.int) + 0)) < 100000
        rw [szs_ints]; omega
  · exact h.elim
theorem len_law_refusals (A : Ad) : ∀ ds μ Q E, c_law_refusals A ds μ Q E → ds.length = 2 := by
  intro ds μ Q E h
  unfold c_law_refusals at h
  first | (split at h) | (split at h)
  all_goals first | rfl | exact h.elim
theorem ok_law_refusals {P : Program} {w : World} {K : PySem.W.Frag} {mg : Str → Option Value} {base : Heap} {A : Ad} (D : Dfn K mg "_law_refusals" "_law_refusals" s_law_refusals ["n", "rows"]) (T : Tx P base K mg A) (G_law_same : DfOk P w K mg base "_law_same" 2 ["told", "wanted"] (c_law_same A)) (G_law_raised_with : DfOk P w K mg base "_law_raised_with" 4 ["word", "thing"] (c_law_raised_with A)) : DfOk P w K mg base "_law_refusals" 5 ["n", "rows"] (c_law_refusals A) := by
  obtain ⟨f, fd, F, hm, hb⟩ := D
  refine ⟨f, fd, okD F sc_law_refusals (by decide) (len_law_refusals A) ?_, hm, F.kp, hb⟩
  intro X W E cdv B outer s H Ex hX tk hp hr
  subst hX
  exact ⟨_, w_law_refusals A E, (scons (sfor hp (il (elstF (acons es' (acons es' (acons es' (acons es' (acons es' (acons es' anil)))))))) (gnm 2 sc_law_refusals.nd) (scons (sset (i := 3) (ecty call_list_of dc_list T.b_list (acons (ev 1) anil)) sc_law_refusals.nd)
  (scons (sset (i := 4) (ecall2 tk G_law_raised_with (hr.mono (by decide)) (acons (ev 2) (acons (ev 3) anil))) sc_law_refusals.nd)
  (scons (sif (tbo (tor (tnot (tval (ecall2 tk G_law_same (hr.mono (by decide)) (acons (ev 4) (acons (elstF (acons (ev 2) (acons (ev 1) anil))) anil))))) (tor1 (tnot (tval (ecall2 tk G_law_same (hr.mono (by decide)) (acons (ev 3) (acons (ev 1) anil)))))))) (sone (sret eb)) snil)
  (scons (sexpr (eapp (ev 3) (acons (ev 0) anil)))
  (sone (sif (tnot (tval (ecall2 tk G_law_same (hr.mono (by decide)) (acons (ev 4) (acons (elstF (acons (ev 2) (acons (ev 1) anil))) anil))))) (sone (sret eb)) snil)))))))
  (sone (sret (ecall2 tk G_law_same (hr.mono (by decide)) (acons (ecall2 tk G_law_raised_with (hr.mono (by decide)) (acons es' (acons (ecty call_tuple_of dc_tuple T.b_tuple (acons (ev 1) anil)) anil))) (acons (elstF (acons es' (acons (ecty call_tuple_of dc_tuple T.b_tuple (acons (ev 1) anil)) anil))) anil)))))), fun ds μ Q E0 hc hE => by subst hE; exact pure_law_refusals A ds μ Q E0 hc⟩
end K03
set_option maxHeartbeats 800000
namespace K03
open PySem L2 DL
local macro_rules | `(tactic| walk_at "w") => `(tactic| simp only [wSeq, wNext, wIf, wRet, wRetN, wDrop, wAsg, gN, wVar, wC, wOp, wUn, wNil, wCons, wCB, wTup, wLst, wLstF, wTe, tB0, wAnd, wOr, wNot, wAndV, wOrV, wNotV, wIfE, wCall, wCallG, wRaise, wFrz, fFrz, rets, fI, fI0, fAdd, fSub, fMul, fLt, fLe, fGt, fGe, fMod, fModN, fPow, fDiv, fDivG, fNeg, fEq, fNe, eqF_int, eqF_bl, eqF_str, scal_int, scal_bl, scal_str, fLen, sv, fIx, fAbs, fInt, fList, wSl, fSlL, oNo, oSo, lvr, lv, fCat, wMeL, fApp, fPop, fSetL, gSb, iLs, iTp, iR1, iR2, wFor, gTp, gCn, gNl, wPar, wBrk, wCnt, fIsi, wIsx, wLc, wYes, wip, wTr, truD, wTry, clrD, wFld, fieldsD, wSetF, wMeth, wMake, wIsX, wXf, wTryX, wRaiseL, wRaiseV, fCatM, fEqL, fStrI, fFmt, wJoin, wJs, wChain, wLc2, wLR, wProp, fRepT, wDIn, wDNewT, fSetD, iR3, gLs, fIns, fPopAt, fClear, fTuple, fMin2, fMaxL, fAny, iEn, wRev, fRev, wDNew, wDNewF, wDsp1, wDsp1F, fAddS, fIsN, fNotN, um_same, um_um, st0, List.map_cons, List.map_nil, List.length_cons, List.length_nil, List.getElem?_cons_zero, List.getElem?_cons_succ, List.set_cons_zero, List.set_cons_succ, List.cons_append, List.nil_append, List.replicate, atI_c0, atI_c1, atI_c2, atI_c3, atI_c4, atI_c5, atI_c6, ixN_70, ixN_71, ixN_72, ixN_73, ixN_74, ixN_75, ixN_76, Nat.reduceAdd, Int.reduceToNat, Int.reducePow, ite_T, ite_F, if_dec, if_ndec, if_nb, true_and, if_true, Bool.false_eq_true, if_false])
local macro_rules | `(tactic| walk_at "q") => `(tactic| simp only [wSeq, wNext, wIf, wRet, wDrop, wAsg, gN, wVar, wC, wOp, wUn, wNil, wCons, wTe, tB0, wOr, wNot, wCall, wFor, iR1, List.length_cons, List.length_nil, List.getElem?_cons_zero, List.getElem?_cons_succ, List.set_cons_zero, List.set_cons_succ, true_and])
/-! ### the law -/
def c_law (A : Ad) : Ct := fun ds μ Q _ => match ds with
  | [.lsr l] => ∃ ns : List Int, l = ns.map D.int ∧ ns.length ≤ 63 ∧ Q (.bl true) μ
  | _ => False
abbrev s_law : Stmt := top 66
theorem sc_law : FnScope ["script", "store", "pitch", "sizes", "wanted", "other", "way", "handed", "turn", "size", "k"] ["script"] (defScope s_law) := ⟨rfl, rfl, rfl, by decide +kernel, rfl, by decide +kernel, by decide +kernel⟩
def w_law_10 (A : Ad) (E : EX) : WS := (wSeq (wIf (wOr (wNot (wTe (wCall (c_law_same A) E (wCons (wCall (c_law_asked A) E (wCons (wVar 2) (wCons (wVar 7) wNil))) (wCons (wVar 4) wNil))))) (wNot (wTe (wCall (c_law_same A) E (wCons (wCall (c_law_asked A) E (wCons (wVar 2) (wCons (wFrz (wCB fList (wCons (wVar 3) wNil))) wNil))) (wCons (wVar 4) wNil)))))) (wRet (wC (.bl false))) wNext)
  (wRet (wCall (c_law_refusals A) E (wCons (wCall (c_law_whole A) E (wCons (wVar 1) wNil)) (wCons (wFrz (wLc (iR1 (wCons (wCall (c_law_take A) E (wCons (wVar 1) (wCons (wC (.int (5))) wNil))) wNil)) 10 [10] wYes (wCall (c_law_whole A) noE (wCons (wVar 1) wNil)))) wNil)))))
def w_law_b1 (A : Ad) (E : EX) : WS := (wDrop (wMeL fApp (wVar 7) (wCons (wVar 9) wNil)))
def w_law_9 (A : Ad) (E : EX) : WS := (wSeq (wFor (iLs (wVar 3)) (gN 9) (w_law_b1 A E))
  (w_law_10 A E))
def w_law_8 (A : Ad) (E : EX) : WS := (wSeq (wDrop (wMeL fClear (wVar 7) wNil))
  (w_law_9 A E))
def w_law_b2 (A : Ad) (E : EX) : WS := (wSeq (wIf (wNot (wTe (wCall (c_law_same A) E (wCons (wCall (c_law_asked A) E (wCons (wOp fIx (wVar 5) (wC (.int (0)))) (wCons (wVar 7) wNil))) (wCons (wCall (c_law_wanted_of A) E (wCons (wOp fIx (wVar 5) (wC (.int (0)))) (wCons (wOp fIx (wVar 5) (wC (.int (1)))) wNil))) wNil))))) (wRet (wC (.bl false))) wNext)
  (wIf (wNot (wTe (wCall (c_law_same A) E (wCons (wVar 7) (wCons (wOp fIx (wVar 5) (wC (.int (1)))) wNil))))) (wRet (wC (.bl false))) wNext))
def w_law_7 (A : Ad) (E : EX) : WS := (wSeq (wFor (iR1 (wCons (wC (.int (2))) wNil)) (gN 8) (w_law_b2 A E))
  (w_law_8 A E))
def w_law_6 (A : Ad) (E : EX) : WS := (wSeq (wAsg (wCB fList (wCons (wOp fIx (wVar 5) (wC (.int (1)))) wNil)) (gN 7))
  (w_law_7 A E))
def w_law_b3 (A : Ad) (E : EX) : WS := (wAsg (wCall (c_law_bent_pair A) E (wCons (wVar 1) (wCons (wOp fIx (wVar 5) (wC (.int (0)))) (wCons (wOp fIx (wVar 5) (wC (.int (1)))) (wCons (wVar 6) wNil))))) (gN 5))
def w_law_5 (A : Ad) (E : EX) : WS := (wSeq (wFor (iLs (wSl fSlL (wCall (c_law_shuffled A) E (wCons (wVar 1) (wCons (wLstF (wCons (wC (.int (0))) (wCons (wC (.int (1))) (wCons (wC (.int (2))) (wCons (wC (.int (3))) (wCons (wC (.int (4))) (wCons (wC (.int (5))) (wCons (wC (.int (6))) (wCons (wC (.int (7))) (wCons (wC (.int (8))) wNil)))))))))) wNil))) oNo (oSo (wCall (c_law_take A) E (wCons (wVar 1) (wCons (wC (.int (4))) wNil)))))) (gN 6) (w_law_b3 A E))
  (w_law_6 A E))
def w_law_4 (A : Ad) (E : EX) : WS := (wSeq (wAsg (wLstF (wCons (wVar 2) (wCons (wVar 3) wNil))) (gN 5))
  (w_law_5 A E))
def w_law_3 (A : Ad) (E : EX) : WS := (wSeq (wIf (wOr (wTe (wOp fNe (wOp fIx (wVar 4) (wC (.int (0)))) (wC (.str "value")))) (wNot (wTe (wCall (c_law_same A) E (wCons (wCall (c_law_asked A) E (wCons (wVar 2) (wCons (wFrz (wCB fList (wCons (wVar 3) wNil))) wNil))) (wCons (wVar 4) wNil)))))) (wRet (wC (.bl false))) wNext)
  (w_law_4 A E))
def w_law_2 (A : Ad) (E : EX) : WS := (wSeq (wAsg (wCall (c_law_wanted_of A) E (wCons (wVar 2) (wCons (wVar 3) wNil))) (gN 4))
  (w_law_3 A E))
def w_law_1 (A : Ad) (E : EX) : WS := (wSeq (wAsg (wCall (c_law_good A) E (wCons (wVar 1) wNil)) (gLs 2 (gCn (gN 2) (gCn (gN 3) gNl))))
  (w_law_2 A E))
def w_law (A : Ad) (E : EX) : WS := (wSeq (wAsg (wCall (c_law_store A) E (wCons (wVar 0) wNil)) (gN 1))
  (w_law_1 A E))
theorem refuse_len {ps : List Int} {szs : List (List Int)} (h : refuse ps szs = none) : ps.length ≤ 10 ∧ ∀ s ∈ szs, s.length ≤ 20 := by
  unfold refuse at h
  cases hv : verdict ps szs with
  | some x => rw [hv] at h; cases h
  | none =>
    obtain ⟨h1, h5, hs⟩ := verdict_none hv
    exact ⟨by omega, fun s hm => by rw [hs s hm]; omega⟩
theorem refuse_five {ps : List Int} {szs : List (List Int)} (h : refuse ps szs = none) : ps.length ≤ 5 ∧ ∀ s ∈ szs, s.length ≤ 5 := by
  unfold refuse at h
  cases hv : verdict ps szs with
  | some x => rw [hv] at h; cases h
  | none =>
    obtain ⟨h1, h5, hs⟩ := verdict_none hv
    exact ⟨h5, fun s hm => by rw [hs s hm]; exact h5⟩
theorem want_value {ps : List Int} {szs : List (List Int)} (h : refuse ps szs = none) : ∃ V, wantD ps szs = .tup [.str "value", V] := by
  unfold wantD
  rw [h]
  exact ⟨_, rfl⟩
theorem pds_tups : ∀ L : List (List Int), pds (L.map tI) = true
  | [] => rfl
  | s :: L => by
    show (pds (s.map D.int) && pds (L.map tI)) = true
    rw [pds_ints, pds_tups L]; rfl
theorem szs_tups : ∀ L : List (List Int), (∀ s ∈ L, s.length ≤ 20) → szs (L.map tI) ≤ 21 * L.length
  | [], _ => Nat.le_refl _
  | s :: L, h => by
    have h1 := h s List.mem_cons_self
    have h2 := szs_tups L fun t ht => h t (List.mem_cons_of_mem _ ht)
    show (1 + szs (s.map D.int)) + szs (L.map tI) ≤ 21 * (L.length + 1)
    rw [szs_ints]
    omega
theorem thick_len (ps : List Int) (szs : List (List Int)) : (thickP ps szs).length ≤ ps.length := by
  unfold thickP
  rw [List.length_map]
  refine Nat.le_trans (List.length_filter_le _ _) ?_
  rw [List.length_zip]
  exact Nat.min_le_right _ _
theorem same_want {A : Ad} {ps : List Int} {szs' : List (List Int)} {μ : Mu} {Q : D → Mu → Prop} {E : Addr → List (Str × D) → Mu → Prop} (h1 : ps.length ≤ 10) (h2 : ∀ s ∈ szs', s.length ≤ 20) (h3 : szs'.length ≤ 1000) (q : Q (.bl true) μ) : c_law_same A [wantD ps szs', wantD ps szs'] μ Q E := by
  unfold wantD
  cases refuse ps szs' with
  | some x => exact same_tup rfl (by decide : (3 : Nat) + 1 < 100000) q
  | none =>
    have ho := once_len szs'
    have hs := szs_tups (once szs') fun s hs => h2 s (once_mem hs)
    have ht := thick_len ps (once szs')
    refine same_tup ?_ ?_ q
    · show (true && ((pds (ps.map D.int) && (pds ((once szs').map tI) && (true && (pds ((thickP ps (once szs')).map D.int) && true)))) && true)) = true
      rw [pds_ints, pds_ints, pds_tups]; rfl
    · show 1 + (1 + ((1 + ((1 + szs (ps.map D.int)) + ((1 + szs ((once szs').map tI)) + (1 + ((1 + szs ((thickP ps (once szs')).map D.int)) + 0))))) + 0)) < 100000
      rw [szs_ints, szs_ints]
      omega
theorem copyF {μ : Mu} {x : D} {l : List D} {Q : D → Mu → Prop} (e : sv μ x = some l) (q : Q (.lst l) μ) : fList [x] μ fun x μ1 => fFrz x μ1 Q := by
  unfold fList
  dsimp only
  rw [e]
  intro p hp
  unfold fFrz
  dsimp only
  rw [um_same]
  dsimp only
  rw [rm_um hp]
  exact q
theorem copyW {ρ : En} {i : Nat} {μ : Mu} {d : D} {l : List D} {Q : D → Mu → Prop} (hv : ρ[i]? = some (some d)) (e : sv μ d = some l) (q : Q (.lst l) μ) : wFrz (wCB fList (wCons (wVar i) wNil)) ρ μ Q := by
  simp only [wFrz, wUn, wCB, wCons, wNil, wVar, hv]
  exact copyF e q
theorem next_i {D : DEnds} {ρ : En} {μ : Mu} (h : D.nx ρ μ) : wNext D ρ μ := h
theorem tB_t {μ : Mu} {F : Bool → Mu → Prop} (h : F true μ) : tB0 (.bl true) μ F := h
theorem sv_mut {μ : Mu} {a : Addr} {l : List D} (h : μ a = some (.lst l)) : sv μ (.mut a) = some l := by
  show (match μ a with | some (.lst l) => some l | _ => none) = _
  rw [h]
theorem pure_law (A : Ad) (ds μ Q E0) (h : c_law A ds μ Q E0) : w_law A (fun C fs _ μ => dwx E0 C fs μ) (rets Q) (st0 11 ds) μ := by
  unfold c_law at h
  split at h
  · rename_i l
    obtain ⟨ns, rfl, hl, h⟩ := h
    unfold w_law
    walk_at "w"
    refine ⟨ns, rfl, hl, fun p st hst hp => ?_⟩
    have r10 : ∀ (ps : List Int) (szs : List (List Int)) (st : List D) (q : Addr) (r5 r6 r8 r9 : Option D), refuse ps szs = none → szs.length ≤ 40 → StOk st → q ≠ p → μ q = none →
        w_law_10 A (fun C fs x μ => dwx E0 C fs μ) (rets Q) [some (.lsr (ns.map D.int)), some (.mut p), some (tI ps), some (.lst (szs.map tI)), some (wantD ps szs), r5, r6, some (.mut q), r8, r9, none] (um (um μ p (.lst st)) q (.lst (szs.map tI))) := by
      intro ps szs st q r5 r6 r8 r9 hr hz hst hne hq
      obtain ⟨b1, b2⟩ := refuse_len hr
      unfold w_law_10
      walk_at "q"
      refine ⟨ps, szs, rfl, lv_mut um_same, by omega, same_want b1 b2 (by omega) ?_⟩
      show ite _ _ _
      rw [if_neg (by decide)]
      refine copyW rfl rfl ?_
      refine ⟨ps, szs, rfl, rfl, by omega, same_want b1 b2 (by omega) ?_⟩
      show ite _ _ _
      rw [if_neg (by decide)]
      have fr : ∀ S : List D, (um (um μ p (.lst S)) q (.lst (szs.map tI))) p = some (.lst S) := fun S => by rw [um_ne (Ne.symm hne), um_same]
      have le1 : ∀ S : List D, le μ (um (um μ p (.lst S)) q (.lst (szs.map tI))) := fun S => (le.um hp).trans (le.um (by rw [um_ne hne]; exact hq))
      refine ⟨st, fr st, hst, fun n st2 _ hs2 => ?_⟩
      rw [um_swap hne, um_um]
      refine lc_any (I := fun k μ1 => ∃ (n : Nat) (st3 : List D), n ≤ 5 ∧ StOk st3 ∧ k = .fix (rng 0 n) ∧ μ1 = um (um μ p (.lst st3)) q (.lst (szs.map tI))) (fun R hR => ?_) ?_
      · simp only [iR1, wCall, wCons, wNil, wVar, wC, List.getElem?_cons_zero, List.getElem?_cons_succ]
        refine ⟨st2, fr st2, hs2, bd_small (n := 2990) (by decide) (by decide), fun v st3 hs3 v0 v1 _ => ?_⟩
        have v1 := v1 (by decide)
        rw [um_swap hne, um_um]
        exact ⟨⟨by omega, by omega⟩, hR _ _ ⟨v.toNat, st3, by omega, hs3, rfl, rfl⟩⟩
      · rintro k μ1 ⟨m, st3, hm, hs3, rfl, rfl⟩
        simp only [wFrz, wUn]
        refine lc_draw (p0 := p) (S := StOk) (P := fun e => ∃ n, e = .int n ∧ True) (L := rng 0 m) (fr st3) hs3 (fun R hR => hR (.fix _) rfl fun _ _ _ _ => trivial) (by rw [rng_len]; omega) (fun e he r l st R hr hS hR => ?_) (fun l st r hr hne2 hl' hP hS => ?_)
        · have hne2 : r ≠ p := fun e => by rw [e, fr] at hr; cases hr
          simp only [wip, wCall, wCons, wNil, wVar, List.getElem?_cons_zero, List.getElem?_cons_succ, List.set_cons_zero, List.set_cons_succ]
          refine ⟨st, by rw [um_ne (Ne.symm hne2), um_same], hS, fun n st4 _ hs4 => ?_⟩
          have := hR (.int n) st4 ⟨_, rfl, trivial⟩ hs4
          rw [um_swap hne2, um_um]
          exact this
        · obtain ⟨ns2, rfl, _⟩ := ints_of hP
          rw [List.length_map, rng_len] at hl'
          unfold fFrz
          dsimp only
          rw [um_same]
          dsimp only
          refine ⟨ns2, rfl, by omega, μ, ?_, h⟩
          have hr2 : μ r = none := le_none (le1 st3) hr
          refine le_rm hr2 (le_um_r ?_ hr2)
          rw [um_swap hne, um_um]
          exact le1 st
    have r7 : ∀ (ps : List Int) (szs : List (List Int)) (ps' : List Int) (szs' : List (List Int)) (st : List D) (q : Addr) (r6 : Option D), refuse ps szs = none → szs.length ≤ 40 → ps'.length ≤ 7 → szs'.length ≤ 900 → (∀ s ∈ szs', s.length ≤ 20) → StOk st → q ≠ p → μ q = none →
        w_law_7 A (fun C fs x μ => dwx E0 C fs μ) (rets Q) [some (.lsr (ns.map D.int)), some (.mut p), some (tI ps), some (.lst (szs.map tI)), some (wantD ps szs), some (.lst [tI ps', .lst (szs'.map tI)]), r6, some (.mut q), none, none, none] (um (um μ p (.lst st)) q (.lst (szs'.map tI))) := by
      intro ps szs ps' szs' st q r6 hr hz hp' hz' hs' hst hne hq
      unfold w_law_7
      walk_at "q"
      refine ⟨⟨by decide, by decide⟩, fun i ρ μ' => μ' = um (um μ p (.lst st)) q (.lst (szs'.map tI)) ∧ ∃ r8, ρ = [some (.lsr (ns.map D.int)), some (.mut p), some (tI ps), some (.lst (szs.map tI)), some (wantD ps szs), some (.lst [tI ps', .lst (szs'.map tI)]), r6, some (.mut q), r8, none, none], ⟨rfl, _, rfl⟩, fun _ _ _ _ => trivial, ?_, ?_⟩
      · rintro i d ρ μ' hd ⟨rfl, r8, rfl⟩
        unfold w_law_b2
        simp only [wSeq, wIf, wNot, wTe, wCall, wCons, wNil, wVar, wOp, wC, fIx, sv, atI_c0, atI_c1, List.getElem?_cons_zero, List.getElem?_cons_succ, List.set_cons_zero, List.set_cons_succ]
        refine ⟨ps', szs', rfl, lv_mut um_same, by omega, ps', szs', rfl, rfl, by omega, hs', by omega, same_want (by omega) hs' (by omega) ?_⟩
        refine tB_t ?_
        try dsimp only
        rw [if_neg (by decide)]
        simp only [wNext]
        refine ⟨szs'.map tI, um_same, pds_tups _, pds_tups _, by have := szs_tups szs' hs'; omega, fun b hb => ?_⟩
        obtain rfl : b = true := hb.mpr rfl
        refine tB_t ?_
        try dsimp only
        rw [if_neg (by decide)]
        exact wk.of ⟨rfl, _, rfl⟩
      · rintro ρ μ' ⟨rfl, r8, rfl⟩
        unfold w_law_8
        simp only [wSeq, wDrop, wMeL, wVar, wNil, fClear, um_same, um_um, List.getElem?_cons_zero, List.getElem?_cons_succ]
        refine ⟨⟨q, _, rfl, um_same⟩, ?_⟩
        unfold w_law_9 wSeq
        refine for_lv2 (d := .lst (szs.map tI)) (l := szs.map tI) rfl rfl (fun i ρ' μ' => μ' = um (um μ p (.lst st)) q (.lst ((szs.take i).map tI)) ∧ ∃ r9, ρ' = [some (.lsr (ns.map D.int)), some (.mut p), some (tI ps), some (.lst (szs.map tI)), some (wantD ps szs), some (.lst [tI ps', .lst (szs'.map tI)]), r6, some (.mut q), r8, r9, none]) ⟨by rw [List.take_zero]; rfl, _, rfl⟩ (fun i ρ' μ' _ => rfl) ?_ ?_
        · rintro i e ρ' μ' he ⟨rfl, r9, rfl⟩
          rw [List.getElem?_map] at he
          cases hs2 : szs[i]? with
          | none => rw [hs2] at he; cases he
          | some s =>
            rw [hs2] at he
            obtain rfl : tI s = e := Option.some.inj he
            unfold w_law_b1
            simp only [gN, wDrop, wMeL, wCons, wNil, wVar, fApp, um_same, um_um, List.getElem?_cons_zero, List.getElem?_cons_succ, List.set_cons_zero, List.set_cons_succ]
            have e2 : (szs.take (i + 1)).map tI = (szs.take i).map tI ++ [tI s] := by rw [List.take_succ, hs2, Option.toList_some, List.map_append]; rfl
            exact ⟨⟨q, _, rfl, um_same⟩, by rw [List.length_map, List.length_take]; omega, wk.of ⟨by rw [e2], _, rfl⟩⟩
        · rintro ρ' μ' ⟨rfl, r9, rfl⟩
          rw [List.length_map, List.take_length]
          exact r10 ps szs st q _ _ _ _ hr hz hst hne hq
    have r5 : ∀ (ps : List Int) (szs : List (List Int)) (st : List D), refuse ps szs = none → szs.length ≤ 40 → StOk st →
        w_law_5 A (fun C fs x μ => dwx E0 C fs μ) (rets Q) [some (.lsr (ns.map D.int)), some (.mut p), some (tI ps), some (.lst (szs.map tI)), some (wantD ps szs), some (.lst [tI ps, .lst (szs.map tI)]), none, none, none, none, none] (um μ p (.lst st)) := by
      intro ps szs st hr hz hst
      obtain ⟨b1, b2⟩ := refuse_len hr
      have b3 := refuse_five hr
      unfold w_law_5
      simp only [wSeq, wFor, iLs, wSl, wCall, wCons, wNil, wVar, wC, wLstF, oNo, oSo, List.length_cons, List.length_nil, List.getElem?_cons_zero, List.getElem?_cons_succ]
      refine ⟨by decide, st, um_same, hst, by decide, fun l' st2 hl' hm hs2 => ?_⟩
      rw [um_um]
      refine ⟨st2, um_same, hs2, bd_small (n := 2990) (by decide) (by decide), fun w st3 hs3 _ _ _ => ?_⟩
      rw [um_um]
      simp only [fSlL, lvr]
      have hc : ∀ e ∈ cutD l' none (some w), ∃ n : Int, e = .int n ∧ True := fun e he => by
        have := hm e (mem_cutD he)
        simp only [List.mem_cons, List.not_mem_nil, or_false] at this
        rcases this with rfl | rfl | rfl | rfl | rfl | rfl | rfl | rfl | rfl <;> exact ⟨_, rfl, trivial⟩
      have lc : (cutD l' none (some w)).length ≤ 9 := by
        have : l'.length = 9 := hl'
        unfold cutD
        rw [List.length_take, List.length_drop]
        omega
      refine ⟨fun i ρ μ' => ∃ (st : List D) (ps' : List Int) (szs' : List (List Int)) (r6 : Option D), μ' = um μ p (.lst st) ∧ StOk st ∧ ps'.length ≤ 7 ∧ szs'.length ≤ 40 + 16 * i ∧ (∀ s ∈ szs', s.length ≤ 7 + i) ∧ ρ = [some (.lsr (ns.map D.int)), some (.mut p), some (tI ps), some (.lst (szs.map tI)), some (wantD ps szs), some (.lst [tI ps', .lst (szs'.map tI)]), r6, none, none, none, none], ⟨st3, ps, szs, _, rfl, hs3, by omega, by omega, fun s hs => by have := b3.2 s hs; omega, rfl⟩, fun _ _ _ _ => trivial, ?_, ?_⟩
      · rintro i d ρ μ' hd ⟨st, ps', szs', r6, rfl, hst, hp', hz', hs', rfl⟩
        rw [fixi] at hd
        have hi := (List.getElem?_eq_some_iff.mp hd).1
        obtain ⟨n, rfl, _⟩ := hc d (List.mem_of_getElem? hd)
        unfold w_law_b3
        simp only [gN, wAsg, wCall, wCons, wNil, wVar, wOp, wC, fIx, sv, atI_c0, atI_c1, List.getElem?_cons_zero, List.getElem?_cons_succ, List.set_cons_zero, List.set_cons_succ]
        refine ⟨st, ps', szs', 7 + i, um_same, hst, rfl, rfl, hp', by omega, by omega, by omega, hs', fun ps2 szs2 st2 h1 h2 h3 h4 => ?_⟩
        rw [um_um]
        exact wk.of ⟨st2, ps2, szs2, _, rfl, h4, h1, by omega, fun s hs => by have := h3 s hs; omega, rfl⟩
      · rintro ρ μ' ⟨st, ps', szs', r6, rfl, hst, hp', hz', hs', rfl⟩
        rw [fixi] at hz' hs'
        unfold w_law_6
        simp only [wSeq, wAsg, gN, wCB, wCons, wNil, wVar, wOp, wC, fIx, sv, atI_c1, fList, List.getElem?_cons_zero, List.getElem?_cons_succ, List.set_cons_zero, List.set_cons_succ]
        intro q hq
        have hne : q ≠ p := fun e => by rw [e, um_same] at hq; cases hq
        rw [um_ne hne] at hq
        exact r7 ps szs ps' szs' st q _ hr hz hp' (by omega) (fun s hs => by have := hs' s hs; omega) hst hne hq
    have r4 : ∀ (ps : List Int) (szs : List (List Int)) (st : List D), refuse ps szs = none → szs.length ≤ 40 → StOk st →
        w_law_4 A (fun C fs x μ => dwx E0 C fs μ) (rets Q) [some (.lsr (ns.map D.int)), some (.mut p), some (tI ps), some (.lst (szs.map tI)), some (wantD ps szs), none, none, none, none, none, none] (um μ p (.lst st)) := by
      intro ps szs st hr hz hst
      unfold w_law_4
      simp only [wSeq, wAsg, wLstF, wCons, wNil, wVar, gN, List.length_cons, List.length_nil, List.getElem?_cons_zero, List.getElem?_cons_succ, List.set_cons_zero, List.set_cons_succ]
      exact ⟨by decide, r5 ps szs st hr hz hst⟩
    have r3 : ∀ (ps : List Int) (szs : List (List Int)) (st : List D), refuse ps szs = none → szs.length ≤ 40 → StOk st →
        w_law_3 A (fun C fs x μ => dwx E0 C fs μ) (rets Q) [some (.lsr (ns.map D.int)), some (.mut p), some (tI ps), some (.lst (szs.map tI)), some (wantD ps szs), none, none, none, none, none, none] (um μ p (.lst st)) := by
      intro ps szs st hr hz hst
      obtain ⟨b1, b2⟩ := refuse_len hr
      obtain ⟨V, hV⟩ := want_value hr
      unfold w_law_3
      rw [hV]
      simp only [wSeq, wIf, wOr, wTe, wOp, wVar, wC, List.getElem?_cons_zero, List.getElem?_cons_succ]
      simp only [fIx, sv, atI_c0]
      simp only [fNe, scal_str, eqF_str, tB0]
      refine ⟨trivial, ?_⟩
      rw [if_neg (by decide)]
      simp only [wNot, wTe, wCall, wCons, wNil, wVar, wFrz, wUn, wCB, List.getElem?_cons_zero, List.getElem?_cons_succ]
      refine copyF rfl ?_
      rw [← hV]
      refine ⟨ps, szs, rfl, rfl, by omega, same_want b1 b2 (by omega) ?_⟩
      refine tB_t ?_
      try dsimp only
      rw [if_neg (by decide)]
      refine next_i ?_
      exact r4 ps szs st hr hz hst
    unfold w_law_1
    walk_at "w"
    refine ⟨st, um_same, hst, fun ps szs st1 hr hz hs1 => ?_⟩
    rw [um_um]
    refine ⟨rfl, ?_⟩
    obtain ⟨b1, b2⟩ := refuse_len hr
    unfold w_law_2
    walk_at "w"
    exact ⟨ps, szs, rfl, rfl, by omega, b2, b1, r3 ps szs st1 hr hz hs1⟩
  · exact h.elim
theorem len_law (A : Ad) : ∀ ds μ Q E, c_law A ds μ Q E → ds.length = 1 := by
  intro ds μ Q E h
  unfold c_law at h
  first | (split at h) | (split at h)
  all_goals first | rfl | exact h.elim
theorem ok_law {P : Program} {w : World} {K : PySem.W.Frag} {mg : Str → Option Value} {base : Heap} {A : Ad} (D : Dfn K mg "law" "law" s_law ["script"]) (T : Tx P base K mg A) (G_law_refusals : DfOk P w K mg base "_law_refusals" 5 ["n", "rows"] (c_law_refusals A)) (G_law_take : DfOk P w K mg base "_law_take" 2 ["store", "many"] (c_law_take A)) (G_law_whole : DfOk P w K mg base "_law_whole" 4 ["store"] (c_law_whole A)) (G_law_same : DfOk P w K mg base "_law_same" 2 ["told", "wanted"] (c_law_same A)) (G_law_asked : DfOk P w K mg base "_law_asked" 8 ["pitch", "sizes"] (c_law_asked A)) (G_law_wanted_of : DfOk P w K mg base "_law_wanted_of" 2 ["pitch", "sizes"] (c_law_wanted_of A)) (G_law_bent_pair : DfOk P w K mg base "_law_bent_pair" 5 ["store", "pitch", "sizes", "way"] (c_law_bent_pair A)) (G_law_shuffled : DfOk P w K mg base "_law_shuffled" 3 ["store", "things"] (c_law_shuffled A)) (G_law_good : DfOk P w K mg base "_law_good" 5 ["store"] (c_law_good A)) (G_law_store : DfOk P w K mg base "_law_store" 2 ["script"] (c_law_store A)) : DfOk P w K mg base "law" 9 ["script"] (c_law A) := by
  obtain ⟨f, fd, F, hm, hb⟩ := D
  refine ⟨f, fd, okD F sc_law (by decide) (len_law A) ?_, hm, F.kp, hb⟩
  intro X W E cdv B outer s H Ex hX tk hp hr
  subst hX
  exact ⟨_, w_law A E, (scons (sset (i := 1) (ecall2 tk G_law_store (hr.mono (by decide)) (acons (ev 0) anil)) sc_law.nd)
  (scons (sasg (ecall2 tk G_law_good (hr.mono (by decide)) (acons (ev 1) anil)) (gls (n := 2) (gcn (gnm 2 sc_law.nd) (gcn (gnm 3 sc_law.nd) gnl))))
  (scons (sset (i := 4) (ecall2 tk G_law_wanted_of (hr.mono (by decide)) (acons (ev 2) (acons (ev 3) anil))) sc_law.nd)
  (scons (sif (tbo (tor (tc' op_ne do_ne (eix (ev 4) ei) es') (tor1 (tnot (tval (ecall2 tk G_law_same (hr.mono (by decide)) (acons (ecall2 tk G_law_asked (hr.mono (by decide)) (acons (ev 2) (acons (efrz (ecty call_list_of dc_list T.b_list (acons (ev 3) anil))) anil))) (acons (ev 4) anil)))))))) (sone (sret eb)) snil)
  (scons (sset (i := 5) (elstF (acons (ev 2) (acons (ev 3) anil))) sc_law.nd)
  (scons (sfor hp (il (eslL (ecall2 tk G_law_shuffled (hr.mono (by decide)) (acons (ev 1) (acons (elstF (acons ei (acons ei (acons ei (acons ei (acons ei (acons ei (acons ei (acons ei (acons ei anil)))))))))) anil))) onone (osome (ecall2 tk G_law_take (hr.mono (by decide)) (acons (ev 1) (acons ei anil)))))) (gnm 6 sc_law.nd) (sone (sset (i := 5) (ecall2 tk G_law_bent_pair (hr.mono (by decide)) (acons (ev 1) (acons (eix (ev 5) ei) (acons (eix (ev 5) ei) (acons (ev 6) anil))))) sc_law.nd)))
  (scons (sset (i := 7) (ecty call_list_of dc_list T.b_list (acons (eix (ev 5) ei) anil)) sc_law.nd)
  (scons (sfor hp (ir1 T.b_range (acons ei anil)) (gnm 8 sc_law.nd) (scons (sif (tnot (tval (ecall2 tk G_law_same (hr.mono (by decide)) (acons (ecall2 tk G_law_asked (hr.mono (by decide)) (acons (eix (ev 5) ei) (acons (ev 7) anil))) (acons (ecall2 tk G_law_wanted_of (hr.mono (by decide)) (acons (eix (ev 5) ei) (acons (eix (ev 5) ei) anil))) anil))))) (sone (sret eb)) snil)
  (sone (sif (tnot (tval (ecall2 tk G_law_same (hr.mono (by decide)) (acons (ev 7) (acons (eix (ev 5) ei) anil))))) (sone (sret eb)) snil))))
  (scons (sexpr (emeL0 (m := "") PySem.F.slot_list_clear PySem.F.type_list_clear mt_clear dm_clear (ev 7)))
  (scons (sfor hp (il (ev 3)) (gnm 9 sc_law.nd) (sone (sexpr (eapp (ev 7) (acons (ev 9) anil)))))
  (scons (sif (tbo (tor (tnot (tval (ecall2 tk G_law_same (hr.mono (by decide)) (acons (ecall2 tk G_law_asked (hr.mono (by decide)) (acons (ev 2) (acons (ev 7) anil))) (acons (ev 4) anil))))) (tor1 (tnot (tval (ecall2 tk G_law_same (hr.mono (by decide)) (acons (ecall2 tk G_law_asked (hr.mono (by decide)) (acons (ev 2) (acons (efrz (ecty call_list_of dc_list T.b_list (acons (ev 3) anil))) anil))) (acons (ev 4) anil)))))))) (sone (sret eb)) snil)
  (sone (sret (ecall2 tk G_law_refusals (hr.mono (by decide)) (acons (ecall2 tk G_law_whole (hr.mono (by decide)) (acons (ev 1) anil)) (acons (efrz (elcN sc_law.nd [("k", 10)] 10 (ir1 T.b_range (acons (ecall2 tk G_law_take (hr.mono (by decide)) (acons (ev 1) (acons ei anil))) anil)) (fun _ _ _ _ _ => gnmP 10 sc_law.nd) (fun _ _ _ _ _ => ⟨_, tsnil⟩) (fun _ _ _ _ _ => ⟨_, (ecall2 takes_no G_law_whole (hr.mono (by decide)) (acons (ev 1) anil))⟩))) anil)))))))))))))))), fun ds μ Q E0 hc hE => by subst hE; exact pure_law A ds μ Q E0 hc⟩
theorem okx_law {P : Program} {w : World} {K : PySem.W.Frag} {mg : Str → Option Value} {base : Heap} {A : Ad} {f : Addr} {fd : FuncData} (F : Fun K "law" "law" s_law f fd) (T : Tx P base K mg A) (G_law_refusals : DfOk P w K mg base "_law_refusals" 5 ["n", "rows"] (c_law_refusals A)) (G_law_take : DfOk P w K mg base "_law_take" 2 ["store", "many"] (c_law_take A)) (G_law_whole : DfOk P w K mg base "_law_whole" 4 ["store"] (c_law_whole A)) (G_law_same : DfOk P w K mg base "_law_same" 2 ["told", "wanted"] (c_law_same A)) (G_law_asked : DfOk P w K mg base "_law_asked" 8 ["pitch", "sizes"] (c_law_asked A)) (G_law_wanted_of : DfOk P w K mg base "_law_wanted_of" 2 ["pitch", "sizes"] (c_law_wanted_of A)) (G_law_bent_pair : DfOk P w K mg base "_law_bent_pair" 5 ["store", "pitch", "sizes", "way"] (c_law_bent_pair A)) (G_law_shuffled : DfOk P w K mg base "_law_shuffled" 3 ["store", "things"] (c_law_shuffled A)) (G_law_good : DfOk P w K mg base "_law_good" 5 ["store"] (c_law_good A)) (G_law_store : DfOk P w K mg base "_law_store" 2 ["script"] (c_law_store A)) : FnOk P w K mg base (L2N.CX P w) 9 f fd ["script"] (spD K (c_law A)) := by
  refine okD F sc_law (by decide) (len_law A) ?_
  intro X W E cdv B outer s H Ex hX tk hp hr
  subst hX
  exact ⟨_, w_law A E, (scons (sset (i := 1) (ecall2 tk G_law_store (hr.mono (by decide)) (acons (ev 0) anil)) sc_law.nd)
  (scons (sasg (ecall2 tk G_law_good (hr.mono (by decide)) (acons (ev 1) anil)) (gls (n := 2) (gcn (gnm 2 sc_law.nd) (gcn (gnm 3 sc_law.nd) gnl))))
  (scons (sset (i := 4) (ecall2 tk G_law_wanted_of (hr.mono (by decide)) (acons (ev 2) (acons (ev 3) anil))) sc_law.nd)
  (scons (sif (tbo (tor (tc' op_ne do_ne (eix (ev 4) ei) es') (tor1 (tnot (tval (ecall2 tk G_law_same (hr.mono (by decide)) (acons (ecall2 tk G_law_asked (hr.mono (by decide)) (acons (ev 2) (acons (efrz (ecty call_list_of dc_list T.b_list (acons (ev 3) anil))) anil))) (acons (ev 4) anil)))))))) (sone (sret eb)) snil)
  (scons (sset (i := 5) (elstF (acons (ev 2) (acons (ev 3) anil))) sc_law.nd)
  (scons (sfor hp (il (eslL (ecall2 tk G_law_shuffled (hr.mono (by decide)) (acons (ev 1) (acons (elstF (acons ei (acons ei (acons ei (acons ei (acons ei (acons ei (acons ei (acons ei (acons ei anil)))))))))) anil))) onone (osome (ecall2 tk G_law_take (hr.mono (by decide)) (acons (ev 1) (acons ei anil)))))) (gnm 6 sc_law.nd) (sone (sset (i := 5) (ecall2 tk G_law_bent_pair (hr.mono (by decide)) (acons (ev 1) (acons (eix (ev 5) ei) (acons (eix (ev 5) ei) (acons (ev 6) anil))))) sc_law.nd)))
  (scons (sset (i := 7) (ecty call_list_of dc_list T.b_list (acons (eix (ev 5) ei) anil)) sc_law.nd)
  (scons (sfor hp (ir1 T.b_range (acons ei anil)) (gnm 8 sc_law.nd) (scons (sif (tnot (tval (ecall2 tk G_law_same (hr.mono (by decide)) (acons (ecall2 tk G_law_asked (hr.mono (by decide)) (acons (eix (ev 5) ei) (acons (ev 7) anil))) (acons (ecall2 tk G_law_wanted_of (hr.mono (by decide)) (acons (eix (ev 5) ei) (acons (eix (ev 5) ei) anil))) anil))))) (sone (sret eb)) snil)
  (sone (sif (tnot (tval (ecall2 tk G_law_same (hr.mono (by decide)) (acons (ev 7) (acons (eix (ev 5) ei) anil))))) (sone (sret eb)) snil))))
  (scons (sexpr (emeL0 (m := "") PySem.F.slot_list_clear PySem.F.type_list_clear mt_clear dm_clear (ev 7)))
  (scons (sfor hp (il (ev 3)) (gnm 9 sc_law.nd) (sone (sexpr (eapp (ev 7) (acons (ev 9) anil)))))
  (scons (sif (tbo (tor (tnot (tval (ecall2 tk G_law_same (hr.mono (by decide)) (acons (ecall2 tk G_law_asked (hr.mono (by decide)) (acons (ev 2) (acons (ev 7) anil))) (acons (ev 4) anil))))) (tor1 (tnot (tval (ecall2 tk G_law_same (hr.mono (by decide)) (acons (ecall2 tk G_law_asked (hr.mono (by decide)) (acons (ev 2) (acons (efrz (ecty call_list_of dc_list T.b_list (acons (ev 3) anil))) anil))) (acons (ev 4) anil)))))))) (sone (sret eb)) snil)
  (sone (sret (ecall2 tk G_law_refusals (hr.mono (by decide)) (acons (ecall2 tk G_law_whole (hr.mono (by decide)) (acons (ev 1) anil)) (acons (efrz (elcN sc_law.nd [("k", 10)] 10 (ir1 T.b_range (acons (ecall2 tk G_law_take (hr.mono (by decide)) (acons (ev 1) (acons ei anil))) anil)) (fun _ _ _ _ _ => gnmP 10 sc_law.nd) (fun _ _ _ _ _ => ⟨_, tsnil⟩) (fun _ _ _ _ _ => ⟨_, (ecall2 takes_no G_law_whole (hr.mono (by decide)) (acons (ev 1) anil))⟩))) anil)))))))))))))))), fun ds μ Q E0 hc hE => by subst hE; exact pure_law A ds μ Q E0 hc⟩
end K03
set_option maxHeartbeats 8000000
namespace K03
open PySem L2 DL PySem.Spec PyProof.Rows
theorem joined {P : Program} {w : World} {K : PySem.W.Frag} {mg : Str → Option Value} {base : Heap} {A : Ad} {f : Addr} {fd : FuncData} (T : Tx P base K mg A) (Nn : Nx K mg A) (F : Fun K "law" "law" s_law f fd)
    (d_check_size : Dfn K mg "check_size" "check_size" s_check_size ["size", "axes"])
    (d_check_catalogue : Dfn K mg "check_catalogue" "check_catalogue" s_check_catalogue ["pitch", "sizes"])
    (d_each_once : Dfn K mg "each_once" "each_once" s_each_once ["sizes"])
    (d_thick_axes : Dfn K mg "thick_axes" "thick_axes" s_thick_axes ["pitch", "sizes"])
    (d_law_mix : Dfn K mg "_law_mix" "_law_mix" s_law_mix ["number"])
    (d_law_store : Dfn K mg "_law_store" "_law_store" s_law_store ["script"])
    (d_law_take : Dfn K mg "_law_take" "_law_take" s_law_take ["store", "many"])
    (d_law_pick : Dfn K mg "_law_pick" "_law_pick" s_law_pick ["store", "things"])
    (d_law_rare : Dfn K mg "_law_rare" "_law_rare" s_law_rare ["store", "many"])
    (d_law_shuffled : Dfn K mg "_law_shuffled" "_law_shuffled" s_law_shuffled ["store", "things"])
    (d_law_once : Dfn K mg "_law_once" "_law_once" s_law_once ["things"])
    (d_law_whole : Dfn K mg "_law_whole" "_law_whole" s_law_whole ["store"])
    (d_law_dim : Dfn K mg "_law_dim" "_law_dim" s_law_dim ["store", "least"])
    (d_law_pitch : Dfn K mg "_law_pitch" "_law_pitch" s_law_pitch ["store", "d"])
    (d_law_slim_size : Dfn K mg "_law_slim_size" "_law_slim_size" s_law_slim_size ["store", "pitch", "slim"])
    (d_law_catalogue : Dfn K mg "_law_catalogue" "_law_catalogue" s_law_catalogue ["store", "d", "thick", "most"])
    (d_law_number : Dfn K mg "_law_number" "_law_number" s_law_number ["told"])
    (d_law_same : Dfn K mg "_law_same" "_law_same" s_law_same ["told", "wanted"])
    (d_law_thick : Dfn K mg "_law_thick" "_law_thick" s_law_thick ["pitch", "sizes"])
    (d_law_names : Dfn K mg "_law_names" "_law_names" s_law_names ["e"])
    (d_law_numbers_of : Dfn K mg "_law_numbers_of" "_law_numbers_of" s_law_numbers_of ["e", "word"])
    (d_law_read : Dfn K mg "_law_read" "_law_read" s_law_read ["e"])
    (d_law_raised_with : Dfn K mg "_law_raised_with" "_law_raised_with" s_law_raised_with ["word", "thing"])
    (d_law_refusals : Dfn K mg "_law_refusals" "_law_refusals" s_law_refusals ["n", "rows"])
    (d_law_asked : Dfn K mg "_law_asked" "_law_asked" s_law_asked ["pitch", "sizes"])
    (d_law_wanted_of : Dfn K mg "_law_wanted_of" "_law_wanted_of" s_law_wanted_of ["pitch", "sizes"])
    (d_law_good : Dfn K mg "_law_good" "_law_good" s_law_good ["store"])
    (d_law_spoilt : Dfn K mg "_law_spoilt" "_law_spoilt" s_law_spoilt ["store", "sizes", "way", "d"])
    (d_law_bent_pair : Dfn K mg "_law_bent_pair" "_law_bent_pair" s_law_bent_pair ["store", "pitch", "sizes", "way"])
    {f_Catalogue___init__ : Addr} {fd_Catalogue___init__ : FuncData} (F_Catalogue___init__ : Fun K "__init__" "Catalogue.__init__" s_Catalogue___init__ f_Catalogue___init__ fd_Catalogue___init__) (B_Catalogue___init__ : Binds K fd_Catalogue___init__ ["self", "pitch", "sizes"] [])
    (mk_Catalogue : Mk K (A.g "Catalogue") f_Catalogue___init__) (gl_Catalogue : mg "Catalogue" = some (.ref (A.g "Catalogue")))
    {f_Catalogue_pitch : Addr} {fd_Catalogue_pitch : FuncData} (F_Catalogue_pitch : Fun K "pitch" "Catalogue.pitch" s_Catalogue_pitch f_Catalogue_pitch fd_Catalogue_pitch) (B_Catalogue_pitch : Binds K fd_Catalogue_pitch ["self"] [])
    {p_Catalogue_pitch : Addr} (R_Catalogue_pitch : PropOf K (A.g "Catalogue") "pitch" p_Catalogue_pitch f_Catalogue_pitch)
    {f_Catalogue_sizes : Addr} {fd_Catalogue_sizes : FuncData} (F_Catalogue_sizes : Fun K "sizes" "Catalogue.sizes" s_Catalogue_sizes f_Catalogue_sizes fd_Catalogue_sizes) (B_Catalogue_sizes : Binds K fd_Catalogue_sizes ["self"] [])
    {p_Catalogue_sizes : Addr} (R_Catalogue_sizes : PropOf K (A.g "Catalogue") "sizes" p_Catalogue_sizes f_Catalogue_sizes)
    {f_Catalogue_axes : Addr} {fd_Catalogue_axes : FuncData} (F_Catalogue_axes : Fun K "axes" "Catalogue.axes" s_Catalogue_axes f_Catalogue_axes fd_Catalogue_axes) (B_Catalogue_axes : Binds K fd_Catalogue_axes ["self"] [])
    {p_Catalogue_axes : Addr} (R_Catalogue_axes : PropOf K (A.g "Catalogue") "axes" p_Catalogue_axes f_Catalogue_axes)
    {f_Catalogue_thick : Addr} {fd_Catalogue_thick : FuncData} (F_Catalogue_thick : Fun K "thick" "Catalogue.thick" s_Catalogue_thick f_Catalogue_thick fd_Catalogue_thick) (B_Catalogue_thick : Binds K fd_Catalogue_thick ["self"] [])
    {p_Catalogue_thick : Addr} (R_Catalogue_thick : PropOf K (A.g "Catalogue") "thick" p_Catalogue_thick f_Catalogue_thick)
    {f_Unturnable___init__ : Addr} {fd_Unturnable___init__ : FuncData} (F_Unturnable___init__ : Fun K "__init__" "Unturnable.__init__" s_Unturnable___init__ f_Unturnable___init__ fd_Unturnable___init__) (B_Unturnable___init__ : Binds K fd_Unturnable___init__ ["self", "size"] [])
    (O_Unturnable : OexC K (A.g "Unturnable")) (N_Unturnable : PySem.W.findIn K (.ref (A.g "Unturnable")) "size" = some none) (in_Unturnable : PySem.W.findIn K (.ref (A.g "Unturnable")) "__init__" = some (some (.ref f_Unturnable___init__))) (ty_Unturnable : PySem.W.typeIn K (.ref f_Unturnable___init__) = some (.type "function")) (gl_Unturnable : mg "Unturnable" = some (.ref (A.g "Unturnable")))
    {f_TooFewThick___init__ : Addr} {fd_TooFewThick___init__ : FuncData} (F_TooFewThick___init__ : Fun K "__init__" "TooFewThick.__init__" s_TooFewThick___init__ f_TooFewThick___init__ fd_TooFewThick___init__) (B_TooFewThick___init__ : Binds K fd_TooFewThick___init__ ["self", "few"] [])
    (O_TooFewThick : OexC K (A.g "TooFewThick")) (N_TooFewThick : PySem.W.findIn K (.ref (A.g "TooFewThick")) "few" = some none) (in_TooFewThick : PySem.W.findIn K (.ref (A.g "TooFewThick")) "__init__" = some (some (.ref f_TooFewThick___init__))) (ty_TooFewThick : PySem.W.typeIn K (.ref f_TooFewThick___init__) = some (.type "function")) (gl_TooFewThick : mg "TooFewThick" = some (.ref (A.g "TooFewThick")))
    {f_TooManyLoose___init__ : Addr} {fd_TooManyLoose___init__ : FuncData} (F_TooManyLoose___init__ : Fun K "__init__" "TooManyLoose.__init__" s_TooManyLoose___init__ f_TooManyLoose___init__ fd_TooManyLoose___init__) (B_TooManyLoose___init__ : Binds K fd_TooManyLoose___init__ ["self", "loose"] [])
    (O_TooManyLoose : OexC K (A.g "TooManyLoose")) (N_TooManyLoose : PySem.W.findIn K (.ref (A.g "TooManyLoose")) "loose" = some none) (in_TooManyLoose : PySem.W.findIn K (.ref (A.g "TooManyLoose")) "__init__" = some (some (.ref f_TooManyLoose___init__))) (ty_TooManyLoose : PySem.W.typeIn K (.ref f_TooManyLoose___init__) = some (.type "function")) (gl_TooManyLoose : mg "TooManyLoose" = some (.ref (A.g "TooManyLoose")))
    {f_NoRow___init__ : Addr} {fd_NoRow___init__ : FuncData} (F_NoRow___init__ : Fun K "__init__" "NoRow.__init__" s_NoRow___init__ f_NoRow___init__ fd_NoRow___init__) (B_NoRow___init__ : Binds K fd_NoRow___init__ ["self", "circle"] [])
    (O_NoRow : OexC K (A.g "NoRow")) (N_NoRow : PySem.W.findIn K (.ref (A.g "NoRow")) "circle" = some none) (in_NoRow : PySem.W.findIn K (.ref (A.g "NoRow")) "__init__" = some (some (.ref f_NoRow___init__))) (ty_NoRow : PySem.W.typeIn K (.ref f_NoRow___init__) = some (.type "function")) (gl_NoRow : mg "NoRow" = some (.ref (A.g "NoRow")))
    {f_Locked___init__ : Addr} {fd_Locked___init__ : FuncData} (F_Locked___init__ : Fun K "__init__" "Locked.__init__" s_Locked___init__ f_Locked___init__ fd_Locked___init__) (B_Locked___init__ : Binds K fd_Locked___init__ ["self", "circle"] [])
    (O_Locked : OexC K (A.g "Locked")) (N_Locked : PySem.W.findIn K (.ref (A.g "Locked")) "circle" = some none) (in_Locked : PySem.W.findIn K (.ref (A.g "Locked")) "__init__" = some (some (.ref f_Locked___init__))) (ty_Locked : PySem.W.typeIn K (.ref f_Locked___init__) = some (.type "function")) (gl_Locked : mg "Locked" = some (.ref (A.g "Locked")))
    {f_NoTree___init__ : Addr} {fd_NoTree___init__ : FuncData} (F_NoTree___init__ : Fun K "__init__" "NoTree.__init__" s_NoTree___init__ f_NoTree___init__ fd_NoTree___init__) (B_NoTree___init__ : Binds K fd_NoTree___init__ ["self", "knot"] [])
    (O_NoTree : OexC K (A.g "NoTree")) (N_NoTree : PySem.W.findIn K (.ref (A.g "NoTree")) "knot" = some none) (in_NoTree : PySem.W.findIn K (.ref (A.g "NoTree")) "__init__" = some (some (.ref f_NoTree___init__))) (ty_NoTree : PySem.W.typeIn K (.ref f_NoTree___init__) = some (.type "function")) (gl_NoTree : mg "NoTree" = some (.ref (A.g "NoTree")))
    {f_Jammed___init__ : Addr} {fd_Jammed___init__ : FuncData} (F_Jammed___init__ : Fun K "__init__" "Jammed.__init__" s_Jammed___init__ f_Jammed___init__ fd_Jammed___init__) (B_Jammed___init__ : Binds K fd_Jammed___init__ ["self", "jam"] [])
    (O_Jammed : OexC K (A.g "Jammed")) (N_Jammed : PySem.W.findIn K (.ref (A.g "Jammed")) "jam" = some none) (in_Jammed : PySem.W.findIn K (.ref (A.g "Jammed")) "__init__" = some (some (.ref f_Jammed___init__))) (ty_Jammed : PySem.W.typeIn K (.ref f_Jammed___init__) = some (.type "function")) (gl_Jammed : mg "Jammed" = some (.ref (A.g "Jammed")))
    (Cl_Catalogue : Cls K (A.g "Catalogue"))
    (Na_Catalogue_own_thick : NoAttr K (A.g "Catalogue") "own_thick")
    (Na_Catalogue_own_sizes : NoAttr K (A.g "Catalogue") "own_sizes")
    (Na_Catalogue_own_pitch : NoAttr K (A.g "Catalogue") "own_pitch") : FnOk P w K mg base (L2N.CX P w) 9 f fd ["script"] (spD K (c_law A)) := by
  have g_law_mix := ok_law_mix (P := P) (w := w) (K := K) (mg := mg) (base := base) (A := A) (D := d_law_mix) (T := T)
  have g_law_store := ok_law_store (P := P) (w := w) (K := K) (mg := mg) (base := base) (A := A) (D := d_law_store) (T := T) (G_law_mix := g_law_mix)
  have g_law_take := ok_law_take (P := P) (w := w) (K := K) (mg := mg) (base := base) (A := A) (D := d_law_take) (T := T) (G_law_mix := g_law_mix)
  have g_law_pick := ok_law_pick (P := P) (w := w) (K := K) (mg := mg) (base := base) (A := A) (D := d_law_pick) (T := T) (G_law_take := g_law_take)
  have g_law_rare := ok_law_rare (P := P) (w := w) (K := K) (mg := mg) (base := base) (A := A) (D := d_law_rare) (T := T) (G_law_take := g_law_take)
  have g_law_whole := ok_law_whole (P := P) (w := w) (K := K) (mg := mg) (base := base) (A := A) (D := d_law_whole) (T := T) (G_law_take := g_law_take) (G_law_pick := g_law_pick)
  have g_law_number := ok_law_number (P := P) (w := w) (K := K) (mg := mg) (base := base) (A := A) (D := d_law_number) (T := T)
  have g_law_same := ok_law_same (P := P) (w := w) (K := K) (mg := mg) (base := base) (A := A) (D := d_law_same) (T := T) (G_law_number := g_law_number)
  have g_check_size := ok_check_size (P := P) (w := w) (K := K) (mg := mg) (base := base) (A := A) (D := d_check_size) (T := T)
  have g_check_catalogue := ok_check_catalogue (P := P) (w := w) (K := K) (mg := mg) (base := base) (A := A) (D := d_check_catalogue) (T := T) (G_check_size := g_check_size)
  have g_each_once := ok_each_once (P := P) (w := w) (K := K) (mg := mg) (base := base) (A := A) (D := d_each_once) (T := T)
  have g_thick_axes := ok_thick_axes (P := P) (w := w) (K := K) (mg := mg) (base := base) (A := A) (D := d_thick_axes) (T := T)
  have M_Catalogue := DfK.mk (⟨_, _, okm_Catalogue___init__ (P := P) (w := w) (K := K) (mg := mg) (base := base) (A := A) (F := F_Catalogue___init__) (T := T) (G_thick_axes := g_thick_axes) (G_each_once := g_each_once) (G_check_catalogue := g_check_catalogue) (Cl_Catalogue := Cl_Catalogue) (Na_Catalogue_own_thick := Na_Catalogue_own_thick) (Na_Catalogue_own_sizes := Na_Catalogue_own_sizes) (Na_Catalogue_own_pitch := Na_Catalogue_own_pitch), mk_Catalogue, gl_Catalogue, B_Catalogue___init__⟩ : ∃ f fd, FnOk P w K mg base (L2N.CX P w) _ f fd _ (spD K (c_Catalogue___init__ A)) ∧ Mk K (A.g "Catalogue") f ∧ mg "Catalogue" = some (.ref (A.g "Catalogue")) ∧ Binds K fd _ [])
  have P_Catalogue_pitch := DfP.mk (⟨_, _, _, okm_Catalogue_pitch (P := P) (w := w) (K := K) (mg := mg) (base := base) (A := A) (F := F_Catalogue_pitch) (T := T) (Cl_Catalogue := Cl_Catalogue) (Na_Catalogue_own_pitch := Na_Catalogue_own_pitch), R_Catalogue_pitch, B_Catalogue_pitch⟩ : ∃ p g fd, FnOk P w K mg base (L2N.CX P w) _ g fd ["self"] (spD K (c_Catalogue_pitch A)) ∧ PropOf K (A.g "Catalogue") "pitch" p g ∧ Binds K fd ["self"] []) Cl_Catalogue
  have P_Catalogue_sizes := DfP.mk (⟨_, _, _, okm_Catalogue_sizes (P := P) (w := w) (K := K) (mg := mg) (base := base) (A := A) (F := F_Catalogue_sizes) (T := T) (Cl_Catalogue := Cl_Catalogue) (Na_Catalogue_own_sizes := Na_Catalogue_own_sizes), R_Catalogue_sizes, B_Catalogue_sizes⟩ : ∃ p g fd, FnOk P w K mg base (L2N.CX P w) _ g fd ["self"] (spD K (c_Catalogue_sizes A)) ∧ PropOf K (A.g "Catalogue") "sizes" p g ∧ Binds K fd ["self"] []) Cl_Catalogue
  have P_Catalogue_axes := DfP.mk (⟨_, _, _, okm_Catalogue_axes (P := P) (w := w) (K := K) (mg := mg) (base := base) (A := A) (F := F_Catalogue_axes) (T := T) (Cl_Catalogue := Cl_Catalogue) (Na_Catalogue_own_pitch := Na_Catalogue_own_pitch), R_Catalogue_axes, B_Catalogue_axes⟩ : ∃ p g fd, FnOk P w K mg base (L2N.CX P w) _ g fd ["self"] (spD K (c_Catalogue_axes A)) ∧ PropOf K (A.g "Catalogue") "axes" p g ∧ Binds K fd ["self"] []) Cl_Catalogue
  have P_Catalogue_thick := DfP.mk (⟨_, _, _, okm_Catalogue_thick (P := P) (w := w) (K := K) (mg := mg) (base := base) (A := A) (F := F_Catalogue_thick) (T := T) (Cl_Catalogue := Cl_Catalogue) (Na_Catalogue_own_thick := Na_Catalogue_own_thick), R_Catalogue_thick, B_Catalogue_thick⟩ : ∃ p g fd, FnOk P w K mg base (L2N.CX P w) _ g fd ["self"] (spD K (c_Catalogue_thick A)) ∧ PropOf K (A.g "Catalogue") "thick" p g ∧ Binds K fd ["self"] []) Cl_Catalogue
  have g_law_shuffled := ok_law_shuffled (P := P) (w := w) (K := K) (mg := mg) (base := base) (A := A) (D := d_law_shuffled) (T := T) (G_law_take := g_law_take)
  have g_law_once := ok_law_once (P := P) (w := w) (K := K) (mg := mg) (base := base) (A := A) (D := d_law_once) (T := T)
  have g_law_dim := ok_law_dim (P := P) (w := w) (K := K) (mg := mg) (base := base) (A := A) (D := d_law_dim) (T := T) (G_law_pick := g_law_pick)
  have g_law_pitch := ok_law_pitch (P := P) (w := w) (K := K) (mg := mg) (base := base) (A := A) (D := d_law_pitch) (T := T) (G_law_take := g_law_take)
  have g_law_slim_size := ok_law_slim_size (P := P) (w := w) (K := K) (mg := mg) (base := base) (A := A) (D := d_law_slim_size) (T := T) (G_law_take := g_law_take)
  have g_law_catalogue := ok_law_catalogue (P := P) (w := w) (K := K) (mg := mg) (base := base) (A := A) (D := d_law_catalogue) (T := T) (G_law_take := g_law_take) (G_law_slim_size := g_law_slim_size) (G_law_shuffled := g_law_shuffled) (G_law_pitch := g_law_pitch)
  have g_law_thick := ok_law_thick (P := P) (w := w) (K := K) (mg := mg) (base := base) (A := A) (D := d_law_thick) (T := T)
  have g_law_wanted_of := ok_law_wanted_of (P := P) (w := w) (K := K) (mg := mg) (base := base) (A := A) (D := d_law_wanted_of) (T := T) (G_law_thick := g_law_thick) (G_law_once := g_law_once)
  have g_law_good := ok_law_good (P := P) (w := w) (K := K) (mg := mg) (base := base) (A := A) (D := d_law_good) (T := T) (G_law_rare := g_law_rare) (G_law_once := g_law_once) (G_law_pick := g_law_pick) (G_law_take := g_law_take) (G_law_catalogue := g_law_catalogue) (G_law_dim := g_law_dim)
  have g_law_spoilt := ok_law_spoilt (P := P) (w := w) (K := K) (mg := mg) (base := base) (A := A) (D := d_law_spoilt) (T := T) (G_law_take := g_law_take) (G_law_pick := g_law_pick)
  have g_law_bent_pair := ok_law_bent_pair (P := P) (w := w) (K := K) (mg := mg) (base := base) (A := A) (D := d_law_bent_pair) (T := T) (G_law_spoilt := g_law_spoilt) (G_law_take := g_law_take) (G_law_pick := g_law_pick)
  have I_Unturnable : DfI P w K mg base "Unturnable" (A.g "Unturnable") (spIV K (A.g "Unturnable") "size") := ⟨_, _, _, oki_Unturnable___init__ (P := P) (w := w) (K := K) (mg := mg) (base := base) (C := A.g "Unturnable") (F := F_Unturnable___init__) (ml := T.b_list) (O := O_Unturnable) (hno := N_Unturnable), O_Unturnable, in_Unturnable, ty_Unturnable, B_Unturnable___init__, gl_Unturnable⟩
  have I_TooFewThick : DfI P w K mg base "TooFewThick" (A.g "TooFewThick") (spIL K (A.g "TooFewThick") "few") := ⟨_, _, _, oki_TooFewThick___init__ (P := P) (w := w) (K := K) (mg := mg) (base := base) (C := A.g "TooFewThick") (F := F_TooFewThick___init__) (ml := T.b_list) (O := O_TooFewThick) (hno := N_TooFewThick), O_TooFewThick, in_TooFewThick, ty_TooFewThick, B_TooFewThick___init__, gl_TooFewThick⟩
  have I_TooManyLoose : DfI P w K mg base "TooManyLoose" (A.g "TooManyLoose") (spIL K (A.g "TooManyLoose") "loose") := ⟨_, _, _, oki_TooManyLoose___init__ (P := P) (w := w) (K := K) (mg := mg) (base := base) (C := A.g "TooManyLoose") (F := F_TooManyLoose___init__) (ml := T.b_list) (O := O_TooManyLoose) (hno := N_TooManyLoose), O_TooManyLoose, in_TooManyLoose, ty_TooManyLoose, B_TooManyLoose___init__, gl_TooManyLoose⟩
  have I_NoRow : DfI P w K mg base "NoRow" (A.g "NoRow") (spIL K (A.g "NoRow") "circle") := ⟨_, _, _, oki_NoRow___init__ (P := P) (w := w) (K := K) (mg := mg) (base := base) (C := A.g "NoRow") (F := F_NoRow___init__) (ml := T.b_list) (O := O_NoRow) (hno := N_NoRow), O_NoRow, in_NoRow, ty_NoRow, B_NoRow___init__, gl_NoRow⟩
  have I_Locked : DfI P w K mg base "Locked" (A.g "Locked") (spIL K (A.g "Locked") "circle") := ⟨_, _, _, oki_Locked___init__ (P := P) (w := w) (K := K) (mg := mg) (base := base) (C := A.g "Locked") (F := F_Locked___init__) (ml := T.b_list) (O := O_Locked) (hno := N_Locked), O_Locked, in_Locked, ty_Locked, B_Locked___init__, gl_Locked⟩
  have I_NoTree : DfI P w K mg base "NoTree" (A.g "NoTree") (spIL K (A.g "NoTree") "knot") := ⟨_, _, _, oki_NoTree___init__ (P := P) (w := w) (K := K) (mg := mg) (base := base) (C := A.g "NoTree") (F := F_NoTree___init__) (ml := T.b_list) (O := O_NoTree) (hno := N_NoTree), O_NoTree, in_NoTree, ty_NoTree, B_NoTree___init__, gl_NoTree⟩
  have I_Jammed : DfI P w K mg base "Jammed" (A.g "Jammed") (spIL K (A.g "Jammed") "jam") := ⟨_, _, _, oki_Jammed___init__ (P := P) (w := w) (K := K) (mg := mg) (base := base) (C := A.g "Jammed") (F := F_Jammed___init__) (ml := T.b_list) (O := O_Jammed) (hno := N_Jammed), O_Jammed, in_Jammed, ty_Jammed, B_Jammed___init__, gl_Jammed⟩
  have g_law_names := okh_law_names (P := P) (w := w) (K := K) (mg := mg) (base := base) (A := A) (D := d_law_names) (T := T) (Nn := Nn)
  have g_law_numbers_of := okh_law_numbers_of (P := P) (w := w) (K := K) (mg := mg) (base := base) (A := A) (D := d_law_numbers_of) (T := T) (Nn := Nn)
  have g_law_read := okh_law_read (P := P) (w := w) (K := K) (mg := mg) (base := base) (A := A) (D := d_law_read) (T := T) (Nn := Nn) (H_law_numbers_of := g_law_numbers_of) (H_law_names := g_law_names)
  have g_law_raised_with := ok_law_raised_with (P := P) (w := w) (K := K) (mg := mg) (base := base) (A := A) (D := d_law_raised_with) (T := T) (Nn := Nn) (I_Jammed := I_Jammed) (I_NoTree := I_NoTree) (I_Locked := I_Locked) (I_NoRow := I_NoRow) (I_TooManyLoose := I_TooManyLoose) (I_TooFewThick := I_TooFewThick) (I_Unturnable := I_Unturnable) (H_law_read := g_law_read)
  have g_law_asked := ok_law_asked (P := P) (w := w) (K := K) (mg := mg) (base := base) (A := A) (D := d_law_asked) (T := T) (Nn := Nn) (P_Catalogue_thick := P_Catalogue_thick) (P_Catalogue_axes := P_Catalogue_axes) (P_Catalogue_sizes := P_Catalogue_sizes) (P_Catalogue_pitch := P_Catalogue_pitch) (M_Catalogue := M_Catalogue) (H_law_names := g_law_names)
  have g_law_refusals := ok_law_refusals (P := P) (w := w) (K := K) (mg := mg) (base := base) (A := A) (D := d_law_refusals) (T := T) (G_law_same := g_law_same) (G_law_raised_with := g_law_raised_with)
  exact okx_law (A := A) F (T := T) (G_law_refusals := g_law_refusals) (G_law_take := g_law_take) (G_law_whole := g_law_whole) (G_law_same := g_law_same) (G_law_asked := g_law_asked) (G_law_wanted_of := g_law_wanted_of) (G_law_bent_pair := g_law_bent_pair) (G_law_shuffled := g_law_shuffled) (G_law_good := g_law_good) (G_law_store := g_law_store)
theorem ends {P : Program} {w : World} {K : PySem.W.Frag} {h : Heap} {mg : Str → Option Value} {fa : Addr} (X : K.In h) (G : h.Ns mainGlobals mg) (tree : P.given.tree = none) (hl : mg "law" = some (.ref fa)) (c0 : He5.SaysA ([] ++ K03H.hfa ++ []) (K03H.hfn ++ [] ++ []) K) (ex0 : ((true && true) && K03H.hex K) = true) :
    ∃ (A : Ad) (fd : FuncData), (∀ (s : Shared) (u : Value), BindsTo s fd ⟨[u], []⟩ [("script", u)]) ∧ ∀ base : Heap, K.In base → base.Ns mainGlobals mg → base.NoSeer → FnOk P w K mg base (L2N.CX P w) 9 fa fd ["script"] (spD K (c_law A)) := by
  have c : He5.SaysA K03H.hfa K03H.hfn K := by simpa only [List.nil_append, List.append_nil] using c0
  have ex : K03H.hex K = true := by simpa only [Bool.true_and] using ex0
  unfold K03H.hex at ex
  simp only [Bool.and_eq_true] at ex
  obtain ⟨x0, x1, x2, x3, x4, x5, x6, x7, x8⟩ := ex
  let A : Ad := ⟨He.ga K, K03H.nmK K, fun n hn => of_decide_eq_true (List.all_eq_true.mp x0 n hn)⟩
  have cC : ∀ C, Cat A C → ExcC K C := by
    rintro _ ⟨n, hn, rfl⟩
    exact K03H.excB_ok (List.all_eq_true.mp x1 n hn)
  have cX : ∀ C, Cat A C → XfC K C := by
    rintro _ ⟨n, hn, rfl⟩
    exact xfB_ok (List.all_eq_true.mp x2 n hn)
  have cN : ∀ C, Cat A C → ∀ f ∈ flds, PySem.W.findIn K (.ref C) f = some none := by
    rintro _ ⟨n, hn, rfl⟩ f hf
    exact of_decide_eq_true (List.all_eq_true.mp (List.all_eq_true.mp x3 n hn) f hf)
  have cY : ∀ C, Cat A C → PySem.W.exmOne K (.ref C) (.ref (He.ga K "YardError")) = some true := by
    rintro _ ⟨n, hn, rfl⟩
    exact of_decide_eq_true (List.all_eq_true.mp x4 n hn)
  have cV : ∀ C, Cat A C → PySem.W.kitOne K (.ref C) (.type "ValueError") = some true := by
    rintro _ ⟨n, hn, rfl⟩
    exact of_decide_eq_true (List.all_eq_true.mp x5 n hn)
  have cK : ∀ m ∈ errs, ∀ C, Cat A C → PySem.W.kitOne K (.ref C) (.ref (He.ga K m)) = some (decide (A.nm C = m)) := by
    rintro m hm _ ⟨n, hn, rfl⟩
    have e : A.nm (A.g n) = n := A.inv n (raised_errs n hn)
    rw [e]
    exact of_decide_eq_true (List.all_eq_true.mp (List.all_eq_true.mp x6 n hn) m hm)
  have Nn : Nx K mg A := { ex := cC, xf := cX, na := cN, yard := ⟨_, He.glo_ok X G (c.fact 30 (f := .glo "YardError") rfl), cY⟩, b_ValueError := He.free_ok X G (c.fact 73 (f := .free "ValueError") rfl), n_ValueError := cV, n_BadText := fun C hC => ⟨_, He.glo_ok X G (c.fact 31 (f := .glo "BadText") rfl), cK "BadText" (by decide) C hC⟩, n_BadNumber := fun C hC => ⟨_, He.glo_ok X G (c.fact 32 (f := .glo "BadNumber") rfl), cK "BadNumber" (by decide) C hC⟩, n_BadVector := fun C hC => ⟨_, He.glo_ok X G (c.fact 33 (f := .glo "BadVector") rfl), cK "BadVector" (by decide) C hC⟩, n_BadSize := fun C hC => ⟨_, He.glo_ok X G (c.fact 34 (f := .glo "BadSize") rfl), cK "BadSize" (by decide) C hC⟩, n_BadCatalogue := fun C hC => ⟨_, He.glo_ok X G (c.fact 35 (f := .glo "BadCatalogue") rfl), cK "BadCatalogue" (by decide) C hC⟩, n_BadAxis := fun C hC => ⟨_, He.glo_ok X G (c.fact 36 (f := .glo "BadAxis") rfl), cK "BadAxis" (by decide) C hC⟩, n_BadLook := fun C hC => ⟨_, He.glo_ok X G (c.fact 37 (f := .glo "BadLook") rfl), cK "BadLook" (by decide) C hC⟩, n_NoTag := fun C hC => ⟨_, He.glo_ok X G (c.fact 38 (f := .glo "NoTag") rfl), cK "NoTag" (by decide) C hC⟩, n_DoubleTag := fun C hC => ⟨_, He.glo_ok X G (c.fact 39 (f := .glo "DoubleTag") rfl), cK "DoubleTag" (by decide) C hC⟩, n_BadBox := fun C hC => ⟨_, He.glo_ok X G (c.fact 40 (f := .glo "BadBox") rfl), cK "BadBox" (by decide) C hC⟩, n_BadRow := fun C hC => ⟨_, He.glo_ok X G (c.fact 41 (f := .glo "BadRow") rfl), cK "BadRow" (by decide) C hC⟩, n_BadStops := fun C hC => ⟨_, He.glo_ok X G (c.fact 42 (f := .glo "BadStops") rfl), cK "BadStops" (by decide) C hC⟩, n_BadCut := fun C hC => ⟨_, He.glo_ok X G (c.fact 43 (f := .glo "BadCut") rfl), cK "BadCut" (by decide) C hC⟩, n_NoDeed := fun C hC => ⟨_, He.glo_ok X G (c.fact 44 (f := .glo "NoDeed") rfl), cK "NoDeed" (by decide) C hC⟩, n_NotPlane := fun C hC => ⟨_, He.glo_ok X G (c.fact 45 (f := .glo "NotPlane") rfl), cK "NotPlane" (by decide) C hC⟩, n_NotLevel := fun C hC => ⟨_, He.glo_ok X G (c.fact 46 (f := .glo "NotLevel") rfl), cK "NotLevel" (by decide) C hC⟩, n_TooFewThick := fun C hC => ⟨_, He.glo_ok X G (c.fact 47 (f := .glo "TooFewThick") rfl), cK "TooFewThick" (by decide) C hC⟩, n_TooMany := fun C hC => ⟨_, He.glo_ok X G (c.fact 48 (f := .glo "TooMany") rfl), cK "TooMany" (by decide) C hC⟩, n_Overlap := fun C hC => ⟨_, He.glo_ok X G (c.fact 49 (f := .glo "Overlap") rfl), cK "Overlap" (by decide) C hC⟩, n_Hit := fun C hC => ⟨_, He.glo_ok X G (c.fact 50 (f := .glo "Hit") rfl), cK "Hit" (by decide) C hC⟩, n_Unturnable := fun C hC => ⟨_, He.glo_ok X G (c.fact 51 (f := .glo "Unturnable") rfl), cK "Unturnable" (by decide) C hC⟩, n_TooManyLoose := fun C hC => ⟨_, He.glo_ok X G (c.fact 52 (f := .glo "TooManyLoose") rfl), cK "TooManyLoose" (by decide) C hC⟩, n_Blocked := fun C hC => ⟨_, He.glo_ok X G (c.fact 53 (f := .glo "Blocked") rfl), cK "Blocked" (by decide) C hC⟩, n_NoRow := fun C hC => ⟨_, He.glo_ok X G (c.fact 54 (f := .glo "NoRow") rfl), cK "NoRow" (by decide) C hC⟩, n_Locked := fun C hC => ⟨_, He.glo_ok X G (c.fact 55 (f := .glo "Locked") rfl), cK "Locked" (by decide) C hC⟩, n_NoTree := fun C hC => ⟨_, He.glo_ok X G (c.fact 56 (f := .glo "NoTree") rfl), cK "NoTree" (by decide) C hC⟩, n_Jammed := fun C hC => ⟨_, He.glo_ok X G (c.fact 57 (f := .glo "Jammed") rfl), cK "Jammed" (by decide) C hC⟩ }
  have d_check_size : Dfn K mg "check_size" "check_size" s_check_size ["size", "axes"] := dfn_ofA X G c 0 0 rfl rfl fun _ _ _ _ _ _ us hl => match us, hl with | [_, _], _ => rfl
  have d_check_catalogue : Dfn K mg "check_catalogue" "check_catalogue" s_check_catalogue ["pitch", "sizes"] := dfn_ofA X G c 1 1 rfl rfl fun _ _ _ _ _ _ us hl => match us, hl with | [_, _], _ => rfl
  have d_each_once : Dfn K mg "each_once" "each_once" s_each_once ["sizes"] := dfn_ofA X G c 2 2 rfl rfl fun _ _ _ _ _ _ us hl => match us, hl with | [_], _ => rfl
  have d_thick_axes : Dfn K mg "thick_axes" "thick_axes" s_thick_axes ["pitch", "sizes"] := dfn_ofA X G c 3 3 rfl rfl fun _ _ _ _ _ _ us hl => match us, hl with | [_, _], _ => rfl
  have d_law_mix : Dfn K mg "_law_mix" "_law_mix" s_law_mix ["number"] := dfn_ofA X G c 4 4 rfl rfl fun _ _ _ _ _ _ us hl => match us, hl with | [_], _ => rfl
  have d_law_store : Dfn K mg "_law_store" "_law_store" s_law_store ["script"] := dfn_ofA X G c 5 5 rfl rfl fun _ _ _ _ _ _ us hl => match us, hl with | [_], _ => rfl
  have d_law_take : Dfn K mg "_law_take" "_law_take" s_law_take ["store", "many"] := dfn_ofA X G c 6 6 rfl rfl fun _ _ _ _ _ _ us hl => match us, hl with | [_, _], _ => rfl
  have d_law_pick : Dfn K mg "_law_pick" "_law_pick" s_law_pick ["store", "things"] := dfn_ofA X G c 7 7 rfl rfl fun _ _ _ _ _ _ us hl => match us, hl with | [_, _], _ => rfl
  have d_law_rare : Dfn K mg "_law_rare" "_law_rare" s_law_rare ["store", "many"] := dfn_ofA X G c 8 8 rfl rfl fun _ _ _ _ _ _ us hl => match us, hl with | [_, _], _ => rfl
  have d_law_shuffled : Dfn K mg "_law_shuffled" "_law_shuffled" s_law_shuffled ["store", "things"] := dfn_ofA X G c 9 9 rfl rfl fun _ _ _ _ _ _ us hl => match us, hl with | [_, _], _ => rfl
  have d_law_once : Dfn K mg "_law_once" "_law_once" s_law_once ["things"] := dfn_ofA X G c 10 10 rfl rfl fun _ _ _ _ _ _ us hl => match us, hl with | [_], _ => rfl
  have d_law_whole : Dfn K mg "_law_whole" "_law_whole" s_law_whole ["store"] := dfn_ofA X G c 11 11 rfl rfl fun _ _ _ _ _ _ us hl => match us, hl with | [_], _ => rfl
  have d_law_dim : Dfn K mg "_law_dim" "_law_dim" s_law_dim ["store", "least"] := dfn_ofA X G c 12 12 rfl rfl fun _ _ _ _ _ _ us hl => match us, hl with | [_, _], _ => rfl
  have d_law_pitch : Dfn K mg "_law_pitch" "_law_pitch" s_law_pitch ["store", "d"] := dfn_ofA X G c 13 13 rfl rfl fun _ _ _ _ _ _ us hl => match us, hl with | [_, _], _ => rfl
  have d_law_slim_size : Dfn K mg "_law_slim_size" "_law_slim_size" s_law_slim_size ["store", "pitch", "slim"] := dfn_ofA X G c 14 14 rfl rfl fun _ _ _ _ _ _ us hl => match us, hl with | [_, _, _], _ => rfl
  have d_law_catalogue : Dfn K mg "_law_catalogue" "_law_catalogue" s_law_catalogue ["store", "d", "thick", "most"] := dfn_ofA X G c 15 15 rfl rfl fun _ _ _ _ _ _ us hl => match us, hl with | [_, _, _, _], _ => rfl
  have d_law_number : Dfn K mg "_law_number" "_law_number" s_law_number ["told"] := dfn_ofA X G c 16 16 rfl rfl fun _ _ _ _ _ _ us hl => match us, hl with | [_], _ => rfl
  have d_law_same : Dfn K mg "_law_same" "_law_same" s_law_same ["told", "wanted"] := dfn_ofA X G c 17 17 rfl rfl fun _ _ _ _ _ _ us hl => match us, hl with | [_, _], _ => rfl
  have d_law_thick : Dfn K mg "_law_thick" "_law_thick" s_law_thick ["pitch", "sizes"] := dfn_ofA X G c 18 18 rfl rfl fun _ _ _ _ _ _ us hl => match us, hl with | [_, _], _ => rfl
  have d_law_names : Dfn K mg "_law_names" "_law_names" s_law_names ["e"] := dfn_ofA X G c 19 19 rfl rfl fun _ _ _ _ _ _ us hl => match us, hl with | [_], _ => rfl
  have d_law_numbers_of : Dfn K mg "_law_numbers_of" "_law_numbers_of" s_law_numbers_of ["e", "word"] := dfn_ofA X G c 20 20 rfl rfl fun _ _ _ _ _ _ us hl => match us, hl with | [_, _], _ => rfl
  have d_law_read : Dfn K mg "_law_read" "_law_read" s_law_read ["e"] := dfn_ofA X G c 21 21 rfl rfl fun _ _ _ _ _ _ us hl => match us, hl with | [_], _ => rfl
  have d_law_raised_with : Dfn K mg "_law_raised_with" "_law_raised_with" s_law_raised_with ["word", "thing"] := dfn_ofA X G c 22 22 rfl rfl fun _ _ _ _ _ _ us hl => match us, hl with | [_, _], _ => rfl
  have d_law_refusals : Dfn K mg "_law_refusals" "_law_refusals" s_law_refusals ["n", "rows"] := dfn_ofA X G c 23 23 rfl rfl fun _ _ _ _ _ _ us hl => match us, hl with | [_, _], _ => rfl
  have d_law_asked : Dfn K mg "_law_asked" "_law_asked" s_law_asked ["pitch", "sizes"] := dfn_ofA X G c 24 24 rfl rfl fun _ _ _ _ _ _ us hl => match us, hl with | [_, _], _ => rfl
  have d_law_wanted_of : Dfn K mg "_law_wanted_of" "_law_wanted_of" s_law_wanted_of ["pitch", "sizes"] := dfn_ofA X G c 25 25 rfl rfl fun _ _ _ _ _ _ us hl => match us, hl with | [_, _], _ => rfl
  have d_law_good : Dfn K mg "_law_good" "_law_good" s_law_good ["store"] := dfn_ofA X G c 26 26 rfl rfl fun _ _ _ _ _ _ us hl => match us, hl with | [_], _ => rfl
  have d_law_spoilt : Dfn K mg "_law_spoilt" "_law_spoilt" s_law_spoilt ["store", "sizes", "way", "d"] := dfn_ofA X G c 27 27 rfl rfl fun _ _ _ _ _ _ us hl => match us, hl with | [_, _, _, _], _ => rfl
  have d_law_bent_pair : Dfn K mg "_law_bent_pair" "_law_bent_pair" s_law_bent_pair ["store", "pitch", "sizes", "way"] := dfn_ofA X G c 28 28 rfl rfl fun _ _ _ _ _ _ us hl => match us, hl with | [_, _, _, _], _ => rfl
  have d_law : Dfn K mg "law" "law" s_law ["script"] := dfn_ofA X G c 29 29 rfl rfl fun _ _ _ _ _ _ us hl => match us, hl with | [_], _ => rfl
  obtain ⟨fd_Catalogue___init__, F_Catalogue___init__⟩ := funA c (K := K) (x := "__init__") (q := "Catalogue.__init__") (st := s_Catalogue___init__) 30 rfl rfl rfl rfl rfl rfl rfl
  have B_Catalogue___init__ : Binds K fd_Catalogue___init__ ["self", "pitch", "sizes"] [] := F_Catalogue___init__.binds fun _ _ _ _ _ _ us hl => match us, hl with | [_, _, _], _ => rfl
  have mk_Catalogue : Mk K (A.g "Catalogue") (He.ma K (He.ga K "Catalogue") "__init__") := He.mkr_ok (c.fact 84 (f := .mkr "Catalogue") rfl)
  have gl_Catalogue : mg "Catalogue" = some (.ref (A.g "Catalogue")) := He.glo_ok X G (c.fact 58 (f := .glo "Catalogue") rfl)
  obtain ⟨fd_Catalogue_pitch, F_Catalogue_pitch⟩ := funA c (K := K) (x := "pitch") (q := "Catalogue.pitch") (st := s_Catalogue_pitch) 31 rfl rfl rfl rfl rfl rfl rfl
  have B_Catalogue_pitch : Binds K fd_Catalogue_pitch ["self"] [] := F_Catalogue_pitch.binds fun _ _ _ _ _ _ us hl => match us, hl with | [_], _ => rfl
  have R_Catalogue_pitch := propB_ok (List.all_eq_true.mp x8 ("Catalogue", "pitch") (by decide))
  obtain ⟨fd_Catalogue_sizes, F_Catalogue_sizes⟩ := funA c (K := K) (x := "sizes") (q := "Catalogue.sizes") (st := s_Catalogue_sizes) 32 rfl rfl rfl rfl rfl rfl rfl
  have B_Catalogue_sizes : Binds K fd_Catalogue_sizes ["self"] [] := F_Catalogue_sizes.binds fun _ _ _ _ _ _ us hl => match us, hl with | [_], _ => rfl
  have R_Catalogue_sizes := propB_ok (List.all_eq_true.mp x8 ("Catalogue", "sizes") (by decide))
  obtain ⟨fd_Catalogue_axes, F_Catalogue_axes⟩ := funA c (K := K) (x := "axes") (q := "Catalogue.axes") (st := s_Catalogue_axes) 33 rfl rfl rfl rfl rfl rfl rfl
  have B_Catalogue_axes : Binds K fd_Catalogue_axes ["self"] [] := F_Catalogue_axes.binds fun _ _ _ _ _ _ us hl => match us, hl with | [_], _ => rfl
  have R_Catalogue_axes := propB_ok (List.all_eq_true.mp x8 ("Catalogue", "axes") (by decide))
  obtain ⟨fd_Catalogue_thick, F_Catalogue_thick⟩ := funA c (K := K) (x := "thick") (q := "Catalogue.thick") (st := s_Catalogue_thick) 34 rfl rfl rfl rfl rfl rfl rfl
  have B_Catalogue_thick : Binds K fd_Catalogue_thick ["self"] [] := F_Catalogue_thick.binds fun _ _ _ _ _ _ us hl => match us, hl with | [_], _ => rfl
  have R_Catalogue_thick := propB_ok (List.all_eq_true.mp x8 ("Catalogue", "thick") (by decide))
  obtain ⟨fd_Unturnable___init__, F_Unturnable___init__⟩ := funA c (K := K) (x := "__init__") (q := "Unturnable.__init__") (st := s_Unturnable___init__) 35 rfl rfl rfl rfl rfl rfl rfl
  have B_Unturnable___init__ : Binds K fd_Unturnable___init__ ["self", "size"] [] := F_Unturnable___init__.binds fun _ _ _ _ _ _ us hl => match us, hl with | [_, _], _ => rfl
  obtain ⟨o1_Unturnable, o2_Unturnable⟩ := He.ba (List.all_eq_true.mp x7 "Unturnable" (by decide))
  have O_Unturnable : OexC K (A.g "Unturnable") := oexB_ok o1_Unturnable
  have N_Unturnable : PySem.W.findIn K (.ref (A.g "Unturnable")) "size" = some none := He.noat_ok (c.fact 86 (f := .noat "Unturnable" "size") rfl)
  obtain ⟨p1_Unturnable, p2_Unturnable⟩ := He.ba o2_Unturnable
  have in_Unturnable := of_decide_eq_true p1_Unturnable
  have ty_Unturnable := of_decide_eq_true p2_Unturnable
  have gl_Unturnable : mg "Unturnable" = some (.ref (A.g "Unturnable")) := He.glo_ok X G (c.fact 51 (f := .glo "Unturnable") rfl)
  obtain ⟨fd_TooFewThick___init__, F_TooFewThick___init__⟩ := funA c (K := K) (x := "__init__") (q := "TooFewThick.__init__") (st := s_TooFewThick___init__) 36 rfl rfl rfl rfl rfl rfl rfl
  have B_TooFewThick___init__ : Binds K fd_TooFewThick___init__ ["self", "few"] [] := F_TooFewThick___init__.binds fun _ _ _ _ _ _ us hl => match us, hl with | [_, _], _ => rfl
  obtain ⟨o1_TooFewThick, o2_TooFewThick⟩ := He.ba (List.all_eq_true.mp x7 "TooFewThick" (by decide))
  have O_TooFewThick : OexC K (A.g "TooFewThick") := oexB_ok o1_TooFewThick
  have N_TooFewThick : PySem.W.findIn K (.ref (A.g "TooFewThick")) "few" = some none := He.noat_ok (c.fact 87 (f := .noat "TooFewThick" "few") rfl)
  obtain ⟨p1_TooFewThick, p2_TooFewThick⟩ := He.ba o2_TooFewThick
  have in_TooFewThick := of_decide_eq_true p1_TooFewThick
  have ty_TooFewThick := of_decide_eq_true p2_TooFewThick
  have gl_TooFewThick : mg "TooFewThick" = some (.ref (A.g "TooFewThick")) := He.glo_ok X G (c.fact 47 (f := .glo "TooFewThick") rfl)
  obtain ⟨fd_TooManyLoose___init__, F_TooManyLoose___init__⟩ := funA c (K := K) (x := "__init__") (q := "TooManyLoose.__init__") (st := s_TooManyLoose___init__) 37 rfl rfl rfl rfl rfl rfl rfl
  have B_TooManyLoose___init__ : Binds K fd_TooManyLoose___init__ ["self", "loose"] [] := F_TooManyLoose___init__.binds fun _ _ _ _ _ _ us hl => match us, hl with | [_, _], _ => rfl
  obtain ⟨o1_TooManyLoose, o2_TooManyLoose⟩ := He.ba (List.all_eq_true.mp x7 "TooManyLoose" (by decide))
  have O_TooManyLoose : OexC K (A.g "TooManyLoose") := oexB_ok o1_TooManyLoose
  have N_TooManyLoose : PySem.W.findIn K (.ref (A.g "TooManyLoose")) "loose" = some none := He.noat_ok (c.fact 88 (f := .noat "TooManyLoose" "loose") rfl)
  obtain ⟨p1_TooManyLoose, p2_TooManyLoose⟩ := He.ba o2_TooManyLoose
  have in_TooManyLoose := of_decide_eq_true p1_TooManyLoose
  have ty_TooManyLoose := of_decide_eq_true p2_TooManyLoose
  have gl_TooManyLoose : mg "TooManyLoose" = some (.ref (A.g "TooManyLoose")) := He.glo_ok X G (c.fact 52 (f := .glo "TooManyLoose") rfl)
  obtain ⟨fd_NoRow___init__, F_NoRow___init__⟩ := funA c (K := K) (x := "__init__") (q := "NoRow.__init__") (st := s_NoRow___init__) 38 rfl rfl rfl rfl rfl rfl rfl
  have B_NoRow___init__ : Binds K fd_NoRow___init__ ["self", "circle"] [] := F_NoRow___init__.binds fun _ _ _ _ _ _ us hl => match us, hl with | [_, _], _ => rfl
  obtain ⟨o1_NoRow, o2_NoRow⟩ := He.ba (List.all_eq_true.mp x7 "NoRow" (by decide))
  have O_NoRow : OexC K (A.g "NoRow") := oexB_ok o1_NoRow
  have N_NoRow : PySem.W.findIn K (.ref (A.g "NoRow")) "circle" = some none := He.noat_ok (c.fact 89 (f := .noat "NoRow" "circle") rfl)
  obtain ⟨p1_NoRow, p2_NoRow⟩ := He.ba o2_NoRow
  have in_NoRow := of_decide_eq_true p1_NoRow
  have ty_NoRow := of_decide_eq_true p2_NoRow
  have gl_NoRow : mg "NoRow" = some (.ref (A.g "NoRow")) := He.glo_ok X G (c.fact 54 (f := .glo "NoRow") rfl)
  obtain ⟨fd_Locked___init__, F_Locked___init__⟩ := funA c (K := K) (x := "__init__") (q := "Locked.__init__") (st := s_Locked___init__) 39 rfl rfl rfl rfl rfl rfl rfl
  have B_Locked___init__ : Binds K fd_Locked___init__ ["self", "circle"] [] := F_Locked___init__.binds fun _ _ _ _ _ _ us hl => match us, hl with | [_, _], _ => rfl
  obtain ⟨o1_Locked, o2_Locked⟩ := He.ba (List.all_eq_true.mp x7 "Locked" (by decide))
  have O_Locked : OexC K (A.g "Locked") := oexB_ok o1_Locked
  have N_Locked : PySem.W.findIn K (.ref (A.g "Locked")) "circle" = some none := He.noat_ok (c.fact 90 (f := .noat "Locked" "circle") rfl)
  obtain ⟨p1_Locked, p2_Locked⟩ := He.ba o2_Locked
  have in_Locked := of_decide_eq_true p1_Locked
  have ty_Locked := of_decide_eq_true p2_Locked
  have gl_Locked : mg "Locked" = some (.ref (A.g "Locked")) := He.glo_ok X G (c.fact 55 (f := .glo "Locked") rfl)
  obtain ⟨fd_NoTree___init__, F_NoTree___init__⟩ := funA c (K := K) (x := "__init__") (q := "NoTree.__init__") (st := s_NoTree___init__) 40 rfl rfl rfl rfl rfl rfl rfl
  have B_NoTree___init__ : Binds K fd_NoTree___init__ ["self", "knot"] [] := F_NoTree___init__.binds fun _ _ _ _ _ _ us hl => match us, hl with | [_, _], _ => rfl
  obtain ⟨o1_NoTree, o2_NoTree⟩ := He.ba (List.all_eq_true.mp x7 "NoTree" (by decide))
  have O_NoTree : OexC K (A.g "NoTree") := oexB_ok o1_NoTree
  have N_NoTree : PySem.W.findIn K (.ref (A.g "NoTree")) "knot" = some none := He.noat_ok (c.fact 91 (f := .noat "NoTree" "knot") rfl)
  obtain ⟨p1_NoTree, p2_NoTree⟩ := He.ba o2_NoTree
  have in_NoTree := of_decide_eq_true p1_NoTree
  have ty_NoTree := of_decide_eq_true p2_NoTree
  have gl_NoTree : mg "NoTree" = some (.ref (A.g "NoTree")) := He.glo_ok X G (c.fact 56 (f := .glo "NoTree") rfl)
  obtain ⟨fd_Jammed___init__, F_Jammed___init__⟩ := funA c (K := K) (x := "__init__") (q := "Jammed.__init__") (st := s_Jammed___init__) 41 rfl rfl rfl rfl rfl rfl rfl
  have B_Jammed___init__ : Binds K fd_Jammed___init__ ["self", "jam"] [] := F_Jammed___init__.binds fun _ _ _ _ _ _ us hl => match us, hl with | [_, _], _ => rfl
  obtain ⟨o1_Jammed, o2_Jammed⟩ := He.ba (List.all_eq_true.mp x7 "Jammed" (by decide))
  have O_Jammed : OexC K (A.g "Jammed") := oexB_ok o1_Jammed
  have N_Jammed : PySem.W.findIn K (.ref (A.g "Jammed")) "jam" = some none := He.noat_ok (c.fact 92 (f := .noat "Jammed" "jam") rfl)
  obtain ⟨p1_Jammed, p2_Jammed⟩ := He.ba o2_Jammed
  have in_Jammed := of_decide_eq_true p1_Jammed
  have ty_Jammed := of_decide_eq_true p2_Jammed
  have gl_Jammed : mg "Jammed" = some (.ref (A.g "Jammed")) := He.glo_ok X G (c.fact 57 (f := .glo "Jammed") rfl)
  have Cl_Catalogue : Cls K (A.g "Catalogue") := He.cls_ok (c.fact 85 (f := .cls "Catalogue") rfl)
  have Na_Catalogue_own_thick : NoAttr K (A.g "Catalogue") "own_thick" := He.noat_ok (c.fact 81 (f := .noat "Catalogue" "own_thick") rfl)
  have Na_Catalogue_own_sizes : NoAttr K (A.g "Catalogue") "own_sizes" := He.noat_ok (c.fact 82 (f := .noat "Catalogue" "own_sizes") rfl)
  have Na_Catalogue_own_pitch : NoAttr K (A.g "Catalogue") "own_pitch" := He.noat_ok (c.fact 83 (f := .noat "Catalogue" "own_pitch") rfl)
  obtain ⟨t_MOST_AXES, i_MOST_AXES⟩ := He.int_ok X G (c.fact 74 (f := .int "MOST_AXES" (5)) rfl)
  obtain ⟨t_MOST_SIZES, i_MOST_SIZES⟩ := He.int_ok X G (c.fact 75 (f := .int "MOST_SIZES" (12)) rfl)
  obtain ⟨t_LONGEST, i_LONGEST⟩ := He.int_ok X G (c.fact 76 (f := .int "LONGEST" (1000000)) rfl)
  obtain ⟨t_WIDEST, i_WIDEST⟩ := He.int_ok X G (c.fact 77 (f := .int "WIDEST" (1000)) rfl)
  have xc_BadVector : Xc K mg "BadVector" (A.g "BadVector") := by
    obtain ⟨a1, a2, a3, a4⟩ := He.exc_ok (c.fact 78 (f := .exc "BadVector") rfl)
    exact ⟨He.glo_ok X G (c.fact 33 (f := .glo "BadVector") rfl), a2, a1, a3, a4⟩
  have xc_BadSize : Xc K mg "BadSize" (A.g "BadSize") := by
    obtain ⟨a1, a2, a3, a4⟩ := He.exc_ok (c.fact 79 (f := .exc "BadSize") rfl)
    exact ⟨He.glo_ok X G (c.fact 34 (f := .glo "BadSize") rfl), a2, a1, a3, a4⟩
  have xc_BadCatalogue : Xc K mg "BadCatalogue" (A.g "BadCatalogue") := by
    obtain ⟨a1, a2, a3, a4⟩ := He.exc_ok (c.fact 80 (f := .exc "BadCatalogue") rfl)
    exact ⟨He.glo_ok X G (c.fact 35 (f := .glo "BadCatalogue") rfl), a2, a1, a3, a4⟩
  obtain ⟨f, fd, F, hm, hb⟩ := d_law
  have e := hl.symm.trans hm
  cases e
  refine ⟨A, fd, fun s u => ?_, fun base kb gb seer => ?_⟩
  · obtain ⟨oc, od, kV, dc, pm, an, cv, ct, sl, rfl, lk, hcd⟩ := F.ex
    exact .of_eq rfl
  have T : Tx P base K mg A := { seer := seer, tree := tree, b_len := He.free_ok X G (c.fact 59 (f := .free "len") rfl), b_abs := He.free_ok X G (c.fact 60 (f := .free "abs") rfl), b_int := He.free_ok X G (c.fact 61 (f := .free "int") rfl), b_list := He.free_ok X G (c.fact 62 (f := .free "list") rfl), b_range := He.free_ok X G (c.fact 63 (f := .free "range") rfl), b_isinstance := He.free_ok X G (c.fact 64 (f := .free "isinstance") rfl), b_bool := He.free_ok X G (c.fact 65 (f := .free "bool") rfl), b_str := He.free_ok X G (c.fact 66 (f := .free "str") rfl), b_tuple := He.free_ok X G (c.fact 67 (f := .free "tuple") rfl), b_dict := He.free_ok X G (c.fact 68 (f := .free "dict") rfl), b_enumerate := He.free_ok X G (c.fact 69 (f := .free "enumerate") rfl), b_any := He.free_ok X G (c.fact 70 (f := .free "any") rfl), b_max := He.free_ok X G (c.fact 71 (f := .free "max") rfl), b_min := He.free_ok X G (c.fact 72 (f := .free "min") rfl), g_MOST_AXES := ⟨_, i_MOST_AXES, ⟨_, rfl⟩⟩, g_MOST_SIZES := ⟨_, i_MOST_SIZES, ⟨_, rfl⟩⟩, g_LONGEST := ⟨_, i_LONGEST, ⟨_, rfl⟩⟩, g_WIDEST := ⟨_, i_WIDEST, ⟨_, rfl⟩⟩, x_BadVector := xc_BadVector, x_BadSize := xc_BadSize, x_BadCatalogue := xc_BadCatalogue }
  exact joined (A := A) T Nn F d_check_size d_check_catalogue d_each_once d_thick_axes d_law_mix d_law_store d_law_take d_law_pick d_law_rare d_law_shuffled d_law_once d_law_whole d_law_dim d_law_pitch d_law_slim_size d_law_catalogue d_law_number d_law_same d_law_thick d_law_names d_law_numbers_of d_law_read d_law_raised_with d_law_refusals d_law_asked d_law_wanted_of d_law_good d_law_spoilt d_law_bent_pair F_Catalogue___init__ B_Catalogue___init__ mk_Catalogue gl_Catalogue F_Catalogue_pitch B_Catalogue_pitch R_Catalogue_pitch F_Catalogue_sizes B_Catalogue_sizes R_Catalogue_sizes F_Catalogue_axes B_Catalogue_axes R_Catalogue_axes F_Catalogue_thick B_Catalogue_thick R_Catalogue_thick F_Unturnable___init__ B_Unturnable___init__ O_Unturnable N_Unturnable in_Unturnable ty_Unturnable gl_Unturnable F_TooFewThick___init__ B_TooFewThick___init__ O_TooFewThick N_TooFewThick in_TooFewThick ty_TooFewThick gl_TooFewThick F_TooManyLoose___init__ B_TooManyLoose___init__ O_TooManyLoose N_TooManyLoose in_TooManyLoose ty_TooManyLoose gl_TooManyLoose F_NoRow___init__ B_NoRow___init__ O_NoRow N_NoRow in_NoRow ty_NoRow gl_NoRow F_Locked___init__ B_Locked___init__ O_Locked N_Locked in_Locked ty_Locked gl_Locked F_NoTree___init__ B_NoTree___init__ O_NoTree N_NoTree in_NoTree ty_NoTree gl_NoTree F_Jammed___init__ B_Jammed___init__ O_Jammed N_Jammed in_Jammed ty_Jammed gl_Jammed Cl_Catalogue Na_Catalogue_own_thick Na_Catalogue_own_sizes Na_Catalogue_own_pitch
end K03
set_option maxHeartbeats 0
open PySem PySem.W PySem.Calls PyProof.Rows
theorem PySem.Challenge.cw_twothick_k03_catalogue_refusals_holds : PySem.Challenge.rw_twothick_k03_catalogue_refusals.Holds :=
 by
  w_on; o_law
  refine HandSHeadRun.head_any (r := OpenLaw.row PySem.Challenge.rw_twothick_k03_catalogue_refusals) (q := view (OpenLaw.row PySem.Challenge.rw_twothick_k03_catalogue_refusals).prog [66]) (H := K03H.hk) (ob := K03H.hob) (M := 20000) (loose := K03H.hnames) (d := HandSHeadRun.topDef (OpenLaw.row PySem.Challenge.rw_twothick_k03_catalogue_refusals).prog 66) (kwd := []) K03H.hob_eq
    (by kernel_rfl) (fun s => by kernel_rfl) K03H.hrun (by kernel_rfl) (by kernel_rfl) (by kernel_rfl) (by rfl) (by first | assumption | decide +kernel) (by decide +kernel) ⟨rfl, rfl, rfl, rfl, rfl, by decide +kernel⟩ ?hw ?hc
  case hw => w_witness2
  case hc =>
    refine DL.walk_seerE (l := PySem.Challenge.rw_twothick_k03_catalogue_refusals) (n := 63) (k := 9) (x := "script") (CX := fun w => L2N.CX PySem.Challenge.rw_twothick_k03_catalogue_refusals.prog w) rfl (by decide) (by kernel_rfl) ⟨rfl, by decide, by decide⟩ (by decide +kernel) ?F ?h
    case h =>
      rintro w H s e s' ⟨a, B, H', cls, d, rfl, x1, x2, x3, x4, x5, x6, hE⟩
      exact hE
    case F =>
      intro w mg fa h Y G hmg0
      obtain ⟨K, KX, c, cx⟩ := Y
      have hmg : mg ("law" : PySem.Str) = some (.ref fa) := by
        have e : (HandSHeadRun.topDef (OpenLaw.row PySem.Challenge.rw_twothick_k03_catalogue_refusals).prog 66).name = ("law" : PySem.Str) := by kernel_rfl
        rw [← e]
        exact hmg0
      obtain ⟨A, fd, hb, hF⟩ := K03.ends (P := PySem.Challenge.rw_twothick_k03_catalogue_refusals.prog) (w := w) KX G rfl hmg c cx
      exact ⟨K, fd, _, KX, hb, fun H a ns hl _ hs => DL.law_sp hl hs fun μ Q E h => ⟨ns, rfl, hl, h⟩, hF⟩
