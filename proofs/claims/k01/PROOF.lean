import PyProof.Rows.All
import Wide.All
import OpenK.AllK
import Wide.FinOn
import HandS.ForMost
import HandS.ForExc
import HandS.HotCalls
import HandS.ExcIs
import HandS.Comp
import HandS.Wide
import HandS.Defaults
import HandS.IsInst
import HandS.Ends
import HandS.Head0
import HandS.Head1
import HandS.Head2
import HandS.HeadEnd
import HandS.HeadHook1
import HandS.HeadHook2
import HandS.HeadHook3
import HandS.HeadHook4
import HandS.CallSlots
import HandS.Property
import HandS.FStr
import HandS.RaiseMore
import PyProof.Rows.StrOr
import PyProof.StrReplace2
import KE.KRevSl
import PySem.Challenge.RW_twothick_k01_ratio_readings
set_option Elab.async false
set_option linter.all false
set_option maxRecDepth 100000
set_option maxHeartbeats 4000000
/-! a layer of plain data over the hand layer -/
namespace DL
open PySem L2

/-! ### data -/
inductive D where
  | non | bl (b : Bool) | int (i : Int) | str (x : Str)
  | tup (l : List D) | lst (l : List D) | lsr (l : List D)
  | dK (ks : List Key) (l : List D) | dT (ks : List (List Key)) (l : List D)
  | ins (C : Addr) (fs : List Str) (l : List D)
  | mut (a : Addr)
inductive MO where
  | lst (l : List D) | dK (kvs : List (Key × D)) | dT (kvs : List (List Key × D)) | ins (C : Addr) (fs : List (Str × D))
abbrev Mu := Addr → Option MO
abbrev En := List (Option D)
def um (μ : Mu) (a : Addr) (m : MO) : Mu := fun b => if b = a then some m else μ b
def rm (μ : Mu) (a : Addr) : Mu := fun b => if b = a then none else μ b
theorem um_same {μ : Mu} {a : Addr} {m : MO} : um μ a m a = some m := by unfold um; rw [if_pos rfl]
theorem um_ne {μ : Mu} {a b : Addr} {m : MO} (h : b ≠ a) : um μ a m b = μ b := by unfold um; rw [if_neg h]
theorem um_um {μ : Mu} {a : Addr} {m m' : MO} : um (um μ a m) a m' = um μ a m' := by
  funext b; unfold um; split <;> rfl
theorem rm_same {μ : Mu} {a : Addr} : rm μ a a = none := by unfold rm; rw [if_pos rfl]
theorem rm_ne {μ : Mu} {a b : Addr} (h : b ≠ a) : rm μ a b = μ b := by unfold rm; rw [if_neg h]
theorem rm_um {μ : Mu} {a : Addr} {m : MO} (h : μ a = none) : rm (um μ a m) a = μ := by
  funext b; unfold rm um; split
  · rename_i e; rw [e, h]
  · rfl
theorem um_id {μ : Mu} {a : Addr} {m : MO} (h : μ a = some m) : um μ a m = μ := by
  funext b; unfold um; split
  · rename_i e; rw [e, h]
  · rfl
theorem ne_nm {μ : Mu} {a b : Addr} {m : MO} (h : μ a = some m) (h' : μ b = none) : a ≠ b := by
  intro e; subst e; rw [h] at h'; cases h'
/-- less is known -/
def le (μ μ' : Mu) : Prop := ∀ a m, μ a = some m → μ' a = some m
theorem le.refl {μ : Mu} : le μ μ := fun _ _ h => h
theorem le.trans {a b c : Mu} (h : le a b) (h' : le b c) : le a c := fun x m e => h' x m (h x m e)
theorem le.um {μ : Mu} {a : Addr} {m : MO} (h : μ a = none) : le μ (um μ a m) := fun b n e => by
  rw [um_ne (ne_nm e h)]; exact e
theorem le.um2 {μ μ' : Mu} {a : Addr} {m : MO} (h : le μ μ') : le (DL.um μ a m) (DL.um μ' a m) := fun b n e => by
  unfold DL.um at *
  split
  · rename_i q; rw [if_pos q] at e; exact e
  · rename_i q; rw [if_neg q] at e; exact h b n e

mutual
/-- v is the data d, its parts standing in F for good -/
def DV (K : PySem.W.Frag) (F : Hp) : D → V → Prop
  | .non, v => v = .non
  | .bl b, v => v = .bl b
  | .int i, v => v = .int i
  | .str x, v => v = .str x
  | .tup l, v => ∃ a xs, v = .ref a ∧ SqT K F a xs ∧ DVs K F l xs
  | .lst l, v => ∃ a xs, v = .ref a ∧ F a = some (.lst xs) ∧ DVs K F l xs
  | .lsr l, v => ∃ a xs, v = .ref a ∧ SqL K F a xs ∧ DVs K F l xs
  | .dK ks l, v => ∃ a kvs, v = .ref a ∧ F a = some (.dK kvs) ∧ kvs.map (·.1) = ks ∧ DVs K F l (kvs.map (·.2))
  | .dT ks l, v => ∃ a kvs, v = .ref a ∧ F a = some (.dT kvs) ∧ kvs.map (·.1) = ks ∧ DVs K F l (kvs.map (·.2))
  | .ins C fs l, v => ∃ a dx kvs, v = .ref a ∧ F a = some (.ins C dx kvs) ∧ kvs.map (·.1) = fs ∧ DVs K F l (kvs.map (·.2))
  | .mut a, v => v = .ref a
def DVs (K : PySem.W.Frag) (F : Hp) : List D → List V → Prop
  | [], xs => xs = []
  | d :: l, xs => ∃ v vs, xs = v :: vs ∧ DV K F d v ∧ DVs K F l vs
end
def Grow (F F' : Hp) : Prop := ∀ a o, F a = some o → F' a = some o
theorem Grow.refl {F : Hp} : Grow F F := fun _ _ h => h
theorem Grow.trans {F G H : Hp} (a : Grow F G) (b : Grow G H) : Grow F H := fun x o h => b x o (a x o h)
theorem Grow.new {F : Hp} {p : Addr} {o : HO} (h : F p = none) : Grow F (upd F p o) := fun a u e => by
  rw [upd_ne (ne_of_none e h)]; exact e
theorem Grow.rd {H H' : Hp} {a : Addr} {u : HO} (e : Grow H H') (h : Rd H a u) : Rd H' a u := by
  rcases h with h | ⟨o, h⟩
  · exact .inl (e a _ h)
  · exact .inr ⟨o, e a _ h⟩
theorem Grow.sl {K : PySem.W.Frag} {H H' : Hp} {a : Addr} {xs : List V} (e : Grow H H') (h : SqL K H a xs) : SqL K H' a xs := by
  rcases h with h | h
  · exact .inl (e.rd h)
  · exact .inr h
theorem Grow.st {K : PySem.W.Frag} {H H' : Hp} {a : Addr} {xs : List V} (e : Grow H H') (h : SqT K H a xs) : SqT K H' a xs := by
  rcases h with h | h
  · exact .inl (e.rd h)
  · exact .inr h
section
variable {K : PySem.W.Frag} {F F' : Hp}
mutual
theorem DV.mono (g : Grow F F') : ∀ {d : D} {v : V}, DV K F d v → DV K F' d v
  | .non, _, h => h
  | .bl _, _, h => h
  | .int _, _, h => h
  | .str _, _, h => h
  | .mut _, _, h => h
  | .tup l, _, h => let ⟨a, xs, e, s, r⟩ := h; ⟨a, xs, e, g.st s, DVs.mono g r⟩
  | .lst l, _, h => let ⟨a, xs, e, s, r⟩ := h; ⟨a, xs, e, g _ _ s, DVs.mono g r⟩
  | .lsr l, _, h => let ⟨a, xs, e, s, r⟩ := h; ⟨a, xs, e, g.sl s, DVs.mono g r⟩
  | .dK _ _, _, h => let ⟨a, xs, e, s, k, r⟩ := h; ⟨a, xs, e, g _ _ s, k, DVs.mono g r⟩
  | .dT _ _, _, h => let ⟨a, xs, e, s, k, r⟩ := h; ⟨a, xs, e, g _ _ s, k, DVs.mono g r⟩
  | .ins _ _ _, _, h => let ⟨a, dx, xs, e, s, k, r⟩ := h; ⟨a, dx, xs, e, g _ _ s, k, DVs.mono g r⟩
theorem DVs.mono (g : Grow F F') : ∀ {l : List D} {xs : List V}, DVs K F l xs → DVs K F' l xs
  | [], _, h => h
  | _ :: _, _, h => let ⟨v, vs, e, a, r⟩ := h; ⟨v, vs, e, DV.mono g a, DVs.mono g r⟩
end
theorem DVs.len : ∀ {l : List D} {xs : List V}, DVs K F l xs → xs.length = l.length
  | [], _, h => by rw [show _ = [] from h]; rfl
  | _ :: l, _, h => by
    obtain ⟨v, vs, rfl, a, r⟩ := h
    show vs.length + 1 = l.length + 1
    rw [DVs.len r]
theorem DVs.get : ∀ {l : List D} {xs : List V} {i : Nat} {d : D}, DVs K F l xs → l[i]? = some d → ∃ v, xs[i]? = some v ∧ DV K F d v
  | [], _, _, _, _, e => by simp at e
  | _ :: l, _, 0, _, h, e => by
    obtain ⟨v, vs, rfl, a, r⟩ := h
    simp at e; subst e
    exact ⟨v, rfl, a⟩
  | _ :: l, _, i + 1, d, h, e => by
    obtain ⟨v, vs, rfl, a, r⟩ := h
    obtain ⟨u, h1, h2⟩ := DVs.get (i := i) (d := d) r (by simpa using e)
    exact ⟨u, by simpa using h1, h2⟩
theorem DVs.back : ∀ {l : List D} {xs : List V} {i : Nat} {v : V}, DVs K F l xs → xs[i]? = some v → ∃ d, l[i]? = some d ∧ DV K F d v
  | [], _, _, _, h, e => by rw [show _ = [] from h] at e; simp at e
  | _ :: l, _, 0, _, h, e => by
    obtain ⟨v, vs, rfl, a, r⟩ := h
    simp at e; subst e
    exact ⟨_, rfl, a⟩
  | _ :: l, _, i + 1, d, h, e => by
    obtain ⟨v, vs, rfl, a, r⟩ := h
    obtain ⟨u, h1, h2⟩ := DVs.back (i := i) (v := d) r (by simpa using e)
    exact ⟨u, by simpa using h1, h2⟩
theorem DVs.nil : DVs K F [] [] := rfl
theorem DVs.cons {d : D} {v : V} {l : List D} {xs : List V} (h : DV K F d v) (r : DVs K F l xs) : DVs K F (d :: l) (v :: xs) := ⟨v, xs, rfl, h, r⟩
theorem DVs.append : ∀ {l m : List D} {xs ys : List V}, DVs K F l xs → DVs K F m ys → DVs K F (l ++ m) (xs ++ ys)
  | [], _, _, _, h, q => by rw [show _ = [] from h]; exact q
  | _ :: l, _, _, _, h, q => by
    obtain ⟨v, vs, rfl, a, r⟩ := h
    exact ⟨v, _, rfl, a, DVs.append r q⟩
theorem DVs.set : ∀ {l : List D} {xs : List V} (i : Nat) {d : D} {v : V}, DVs K F l xs → DV K F d v → DVs K F (l.set i d) (xs.set i v)
  | [], _, _, _, _, h, _ => by rw [show _ = [] from h]; exact rfl
  | _ :: l, _, 0, _, _, h, q => by
    obtain ⟨v, vs, rfl, a, r⟩ := h
    exact ⟨_, _, rfl, q, r⟩
  | _ :: l, _, i + 1, _, _, h, q => by
    obtain ⟨v, vs, rfl, a, r⟩ := h
    exact ⟨_, _, rfl, a, DVs.set i r q⟩
theorem DVs.take : ∀ {l : List D} {xs : List V} (n : Nat), DVs K F l xs → DVs K F (l.take n) (xs.take n)
  | _, _, 0, _ => by simp; exact rfl
  | [], _, _ + 1, h => by rw [show _ = [] from h]; exact rfl
  | _ :: l, _, n + 1, h => by
    obtain ⟨v, vs, rfl, a, r⟩ := h
    exact ⟨_, _, rfl, a, DVs.take n r⟩
theorem DVs.drop : ∀ {l : List D} {xs : List V} (n : Nat), DVs K F l xs → DVs K F (l.drop n) (xs.drop n)
  | _, _, 0, h => h
  | [], _, _ + 1, h => by rw [show _ = [] from h]; exact rfl
  | _ :: l, _, n + 1, h => by
    obtain ⟨v, vs, rfl, a, r⟩ := h
    exact DVs.drop n r
theorem DVs.dropLast {l : List D} {xs : List V} (h : DVs K F l xs) : DVs K F l.dropLast xs.dropLast := by
  rw [List.dropLast_eq_take, List.dropLast_eq_take, h.len]
  exact h.take _
theorem DVs.ints : ∀ {ns : List Int} {xs : List V}, DVs K F (ns.map D.int) xs → xs = ns.map V.int
  | [], _, h => h
  | n :: ns, _, h => by
    obtain ⟨v, vs, rfl, a, r⟩ := h
    rw [show v = V.int n from a, DVs.ints r]; rfl
theorem DVs.of_ints : ∀ {ns : List Int}, DVs K F (ns.map D.int) (ns.map V.int)
  | [] => rfl
  | n :: ns => ⟨_, _, rfl, rfl, DVs.of_ints⟩
theorem DVs.bls : ∀ {ns : List Bool} {xs : List V}, DVs K F (ns.map D.bl) xs → xs = ns.map V.bl
  | [], _, h => h
  | n :: ns, _, h => by
    obtain ⟨v, vs, rfl, a, r⟩ := h
    rw [show v = V.bl n from a, DVs.bls r]; rfl
end

/-! ### the state -/
def KD (K : PySem.W.Frag) (F : Hp) {κ : Type} (kvs : List (κ × D)) (ys : List (κ × V)) : Prop := ys.map (·.1) = kvs.map (·.1) ∧ DVs K F (kvs.map (·.2)) (ys.map (·.2))
theorem KD.mono {K : PySem.W.Frag} {F F' : Hp} {κ : Type} {kvs : List (κ × D)} {ys : List (κ × V)} (g : Grow F F') (h : KD K F kvs ys) : KD K F' kvs ys := ⟨h.1, h.2.mono g⟩
def MOk (K : PySem.W.Frag) (F H : Hp) (a : Addr) : MO → Prop
  | .lst l => ∃ xs, H a = some (.lst xs) ∧ DVs K F l xs
  | .dK kvs => ∃ ys, H a = some (.dK ys) ∧ KD K F kvs ys
  | .dT kvs => ∃ ys, H a = some (.dT ys) ∧ KD K F kvs ys
  | .ins C fs => ∃ dx ys, H a = some (.ins C dx ys) ∧ KD K F fs ys
structure Sok (K : PySem.W.Frag) (F : Hp) (μ : Mu) (H : Hp) : Prop where
  sub : ∀ a o, F a = some o → H a = some o
  cel : ∀ a m, μ a = some m → F a = none ∧ MOk K F H a m
def EnvOk (K : PySem.W.Frag) (F : Hp) (ρ : En) (σ : L2.St) : Prop := ρ.length = σ.length ∧ ∀ (i : Nat) (d : D), ρ[i]? = some (some d) → ∃ v, σ[i]? = some (some v) ∧ DV K F d v
/-- an exception's fields, in its own dict -/
def ExD (K : PySem.W.Frag) (F : Hp) (d : Option Addr) (fs : List (Str × D)) : Prop := (fs = [] ∧ d = none) ∨ fs ≠ [] ∧ ∃ dd ys, d = some dd ∧ F dd = some (.xd ys) ∧ KD K F fs ys
/-- what is wanted of an exception: its class, its fields, the slots and cells at its raise -/
abbrev EX := Addr → List (Str × D) → En → Mu → Prop
def WOk (K : PySem.W.Frag) (W : WX) (E : EX) (F : Hp) : Prop := ∀ (F' : Hp) (μ : Mu) (H : Hp) (ρ : En) (σ : L2.St) C d fs, Grow F F' → Sok K F' μ H → EnvOk K F' ρ σ → ExD K F' d fs → E C fs ρ μ → W (.ref C) d σ H
structure S0 (K : PySem.W.Frag) (W : WX) (E : EX) (F : Hp) (μ : Mu) (H : Hp) (ρ : En) (σ : L2.St) : Prop where
  ok : Sok K F μ H
  env : EnvOk K F ρ σ
  wok : WOk K W E F
section
variable {K : PySem.W.Frag} {W : WX} {E : EX} {F F' H H' : Hp} {μ μ' : Mu} {ρ ρ' : En} {σ σ' : L2.St} {p a : Addr} {o : HO} {m : MO} {d : D} {v : V}
theorem EnvOk.mono (g : Grow F F') (h : EnvOk K F ρ σ) : EnvOk K F' ρ σ := ⟨h.1, fun i d e => let ⟨v, a, b⟩ := h.2 i d e; ⟨v, a, b.mono g⟩⟩
theorem WOk.mono (g : Grow F F') (h : WOk K W E F) : WOk K W E F' := fun F1 μ H σ ρ C d fs g1 => h F1 μ H σ ρ C d fs (g.trans g1)
theorem MOk.mono (g : Grow F F') (hk : ∀ o, H a = some o → H' a = some o) (h : MOk K F H a m) : MOk K F' H' a m := by
  cases m with
  | lst l => obtain ⟨xs, e, r⟩ := h; exact ⟨xs, hk _ e, r.mono g⟩
  | dK l => obtain ⟨xs, e, r⟩ := h; exact ⟨xs, hk _ e, r.mono g⟩
  | dT l => obtain ⟨xs, e, r⟩ := h; exact ⟨xs, hk _ e, r.mono g⟩
  | ins C l => obtain ⟨dx, xs, e, r⟩ := h; exact ⟨dx, xs, hk _ e, r.mono g⟩
theorem MOk.some (h : MOk K F H a m) : ∃ o, H a = some o := by
  cases m with
  | lst l => obtain ⟨xs, e, r⟩ := h; exact ⟨_, e⟩
  | dK l => obtain ⟨xs, e, r⟩ := h; exact ⟨_, e⟩
  | dT l => obtain ⟨xs, e, r⟩ := h; exact ⟨_, e⟩
  | ins C l => obtain ⟨dx, xs, e, r⟩ := h; exact ⟨_, e⟩
theorem Sok.free (h : Sok K F μ H) (hp : H p = none) : F p = none ∧ μ p = none := by
  constructor
  · cases e : F p with
    | none => rfl
    | some o => rw [h.sub p o e] at hp; cases hp
  · cases e : μ p with
    | none => rfl
    | some m =>
      obtain ⟨o, q⟩ := (h.cel p m e).2.some
      rw [q] at hp; cases hp
/-- a new object for good -/
theorem Sok.put (h : Sok K F μ H) (hp : H p = none) : Sok K (upd F p o) μ (upd H p o) := by
  obtain ⟨f, m⟩ := h.free hp
  refine ⟨fun a u e => ?_, fun a u e => ?_⟩
  · by_cases q : a = p
    · subst q; rw [upd_same] at *; exact e
    · rw [upd_ne q] at *; exact h.sub a u e
  · obtain ⟨x, y⟩ := h.cel a u e
    have q : a ≠ p := ne_nm e m
    refine ⟨by rw [upd_ne q]; exact x, y.mono (Grow.new f) fun o' z => by rw [upd_ne q]; exact z⟩
/-- a new object, not of our world -/
theorem Sok.junk (h : Sok K F μ H) (hp : H p = none) : Sok K F μ (upd H p o) := by
  obtain ⟨f, m⟩ := h.free hp
  refine ⟨fun a u e => ?_, fun a u e => ?_⟩
  · rw [upd_ne (ne_of_none e f)]; exact h.sub a u e
  · obtain ⟨x, y⟩ := h.cel a u e
    have q : a ≠ p := ne_nm e m
    exact ⟨x, y.mono Grow.refl fun o' z => by rw [upd_ne q]; exact z⟩
/-- a new or changed cell -/
theorem Sok.cell (h : Sok K F μ H) (hp : F p = none) (hm : MOk K F (upd H p o) p m) : Sok K F (um μ p m) (upd H p o) := by
  refine ⟨fun a u e => ?_, fun a u e => ?_⟩
  · rw [upd_ne (ne_of_none e hp)]; exact h.sub a u e
  · by_cases q : a = p
    · subst q; rw [um_same] at e; cases e; exact ⟨hp, hm⟩
    · rw [um_ne q] at e
      obtain ⟨x, y⟩ := h.cel a u e
      exact ⟨x, y.mono Grow.refl fun o' z => by rw [upd_ne q]; exact z⟩
theorem Sok.weak (h : Sok K F μ H) (l : le μ' μ) : Sok K F μ' H := ⟨h.sub, fun a m e => h.cel a m (l a m e)⟩
/-- a cell is for good from now on -/
theorem Sok.frz (h : Sok K F μ H) (hp : F p = none) (ho : H p = some o) : Sok K (upd F p o) (rm μ p) H := by
  refine ⟨fun a u e => ?_, fun a u e => ?_⟩
  · by_cases q : a = p
    · subst q; rw [upd_same] at e; rw [ho]; exact e
    · rw [upd_ne q] at e; exact h.sub a u e
  · by_cases q : a = p
    · subst q; rw [rm_same] at e; cases e
    · rw [rm_ne q] at e
      obtain ⟨x, y⟩ := h.cel a u e
      exact ⟨by rw [upd_ne q]; exact x, y.mono (Grow.new hp) fun _ z => z⟩
theorem EnvOk.set {i : Nat} (h : EnvOk K F ρ σ) (hv : DV K F d v) : EnvOk K F (ρ.set i (some d)) (σ.set i (some v)) := by
  refine ⟨by rw [List.length_set, List.length_set]; exact h.1, fun j e q => ?_⟩
  by_cases hj : i = j
  · subst hj
    rw [List.getElem?_set] at q ⊢
    simp only [if_true] at q ⊢
    split at q
    · rename_i z
      rw [← h.1, if_pos z]
      simp only [Option.some.injEq] at q
      subst q
      exact ⟨v, rfl, hv⟩
    · cases q
  · rw [List.getElem?_set_ne hj] at q ⊢
    exact h.2 j e q
theorem EnvOk.le (h : EnvOk K F ρ σ) (hl : ρ'.length = ρ.length) (q : ∀ (i : Nat) (d : D), ρ'[i]? = some (some d) → ρ[i]? = some (some d)) : EnvOk K F ρ' σ := ⟨hl.trans h.1, fun i d e => h.2 i d (q i d e)⟩
theorem S0.mono (s : S0 K W E F μ H ρ σ) (g : Grow F F') (h : Sok K F' μ' H') : S0 K W E F' μ' H' ρ σ := ⟨h, s.env.mono g, s.wok.mono g⟩
theorem S0.set {i : Nat} (s : S0 K W E F μ H ρ σ) (hv : DV K F d v) : S0 K W E F μ H (ρ.set i (some d)) (σ.set i (some v)) := ⟨s.ok, s.env.set hv, s.wok⟩
theorem S0.weak (s : S0 K W E F μ H ρ σ) (l : le μ' μ) : S0 K W E F μ' H ρ σ := ⟨s.ok.weak l, s.env, s.wok⟩
end

/-! ### what readings give, over data -/
abbrev WEx := En → Mu → (D → Mu → Prop) → Prop
abbrev WT := En → Mu → (Bool → Mu → Prop) → Prop
abbrev WA := En → Mu → (List D → Mu → Prop) → Prop
structure DEnds where
  nx : En → Mu → Prop
  rt : D → Mu → Prop
  bk : En → Mu → Prop := fun _ _ => False
  ct : En → Mu → Prop := fun _ _ => False
abbrev WS := DEnds → En → Mu → Prop
section
variable (K : PySem.W.Frag) (W : WX) (E : EX)
/-- what is wanted of a value: of its data -/
def PQ (F : Hp) (ρ : En) (σ : L2.St) (Q0 : D → Mu → Prop) (Q : VK) : Prop := ∀ F' μ' H' d v, Grow F F' → S0 K W E F' μ' H' ρ σ → DV K F' d v → Q0 d μ' → Q v H'
def Dn (t : TE) (w : WEx) : Prop := ∀ F μ H ρ σ Q0 Q, S0 K W E F μ H ρ σ → w ρ μ Q0 → PQ K W E F ρ σ Q0 Q → t σ H Q
def DnT (t : TT) (w : WT) : Prop := ∀ F μ H ρ σ (Q0 : Bool → Mu → Prop) (Q : Bool → Hp → Prop), S0 K W E F μ H ρ σ → w ρ μ Q0 → (∀ F' μ' H' b, Grow F F' → S0 K W E F' μ' H' ρ σ → Q0 b μ' → Q b H') → t σ H Q
def DnA (t : TA) (w : WA) : Prop := ∀ F μ H ρ σ (Q0 : List D → Mu → Prop) (Q : List V → Hp → Prop), S0 K W E F μ H ρ σ → w ρ μ Q0 → (∀ F' μ' H' ds vs, Grow F F' → S0 K W E F' μ' H' ρ σ → DVs K F' ds vs → Q0 ds μ' → Q vs H') → t σ H Q
def PN (F : Hp) (N0 : En → Mu → Prop) (N : L2.St → Hp → Prop) : Prop := ∀ F' μ' H' ρ' σ', Grow F F' → S0 K W E F' μ' H' ρ' σ' → N0 ρ' μ' → N σ' H'
structure EndsOk (F : Hp) (D0 : DEnds) (Ds : Ends) : Prop where
  nx : PN K W E F D0.nx Ds.nx
  rt : ∀ F' μ' H' d v, Grow F F' → Sok K F' μ' H' → DV K F' d v → D0.rt d μ' → Ds.rt v H'
  bk : PN K W E F D0.bk Ds.bk
  ct : PN K W E F D0.ct Ds.ct
def DnS (t : TS) (w : WS) : Prop := ∀ F μ H ρ σ D0 Ds, S0 K W E F μ H ρ σ → w D0 ρ μ → EndsOk K W E F D0 Ds → t Ds σ H
/-- the same of values -/
def DOp (r : R2) (f : D → D → Mu → (D → Mu → Prop) → Prop) : Prop := ∀ F μ H x y dx dy Q0 (Q : VK), Sok K F μ H → DV K F dx x → DV K F dy y → f dx dy μ Q0 → (∀ F' μ' H' d v, Grow F F' → Sok K F' μ' H' → DV K F' d v → Q0 d μ' → Q v H') → r x y H Q
def DUn (r : V → Hp → VK → Prop) (f : D → Mu → (D → Mu → Prop) → Prop) : Prop := ∀ F μ H x dx Q0 (Q : VK), Sok K F μ H → DV K F dx x → f dx μ Q0 → (∀ F' μ' H' d v, Grow F F' → Sok K F' μ' H' → DV K F' d v → Q0 d μ' → Q v H') → r x H Q
def DCa (r : List V → Hp → VK → Prop) (f : List D → Mu → (D → Mu → Prop) → Prop) : Prop := ∀ F μ H vs ds Q0 (Q : VK), Sok K F μ H → DVs K F ds vs → f ds μ Q0 → (∀ F' μ' H' d v, Grow F F' → Sok K F' μ' H' → DV K F' d v → Q0 d μ' → Q v H') → r vs H Q
def DMe (r : V → List V → Hp → VK → Prop) (f : D → List D → Mu → (D → Mu → Prop) → Prop) : Prop := ∀ F μ H x vs dx ds Q0 (Q : VK), Sok K F μ H → DV K F dx x → DVs K F ds vs → f dx ds μ Q0 → (∀ F' μ' H' d v, Grow F F' → Sok K F' μ' H' → DV K F' d v → Q0 d μ' → Q v H') → r x vs H Q
end
section
variable {K : PySem.W.Frag} {W : WX} {E : EX}
theorem PQ.grow {F F' : Hp} {ρ : En} {σ : L2.St} {Q0 : D → Mu → Prop} {Q : VK} (g : Grow F F') (h : PQ K W E F ρ σ Q0 Q) : PQ K W E F' ρ σ Q0 Q := fun F1 μ1 H1 d v g1 => h F1 μ1 H1 d v (g.trans g1)
theorem PN.grow {F F' : Hp} {N0 : En → Mu → Prop} {N : L2.St → Hp → Prop} (g : Grow F F') (h : PN K W E F N0 N) : PN K W E F' N0 N := fun F1 μ1 H1 d v g1 => h F1 μ1 H1 d v (g.trans g1)
theorem EndsOk.grow {F F' : Hp} {D0 : DEnds} {Ds : Ends} (g : Grow F F') (h : EndsOk K W E F D0 Ds) : EndsOk K W E F' D0 Ds := ⟨h.nx.grow g, fun F1 μ1 H1 d v g1 => h.rt F1 μ1 H1 d v (g.trans g1), h.bk.grow g, h.ct.grow g⟩
end

/-! ### expressions -/
def wVar (i : Nat) : WEx := fun ρ μ Q => match ρ[i]? with
  | some (some d) => Q d μ
  | _ => False
def wC (d : D) : WEx := fun _ μ Q => Q d μ
def wOp (f : D → D → Mu → (D → Mu → Prop) → Prop) (a b : WEx) : WEx := fun ρ μ Q => a ρ μ fun x μ1 => b ρ μ1 fun y μ2 => f x y μ2 Q
def wUn (f : D → Mu → (D → Mu → Prop) → Prop) (a : WEx) : WEx := fun ρ μ Q => a ρ μ fun x μ1 => f x μ1 Q
def wNil : WA := fun _ μ Q => Q [] μ
def wCons (a : WEx) (r : WA) : WA := fun ρ μ Q => a ρ μ fun x μ1 => r ρ μ1 fun xs μ2 => Q (x :: xs) μ2
def wCB (f : List D → Mu → (D → Mu → Prop) → Prop) (a : WA) : WEx := fun ρ μ Q => a ρ μ fun ds μ1 => f ds μ1 Q
def wTup (a : WA) : WEx := fun ρ μ Q => a ρ μ fun ds μ1 => ds.length ≤ 100000 ∧ Q (.tup ds) μ1
def wLst (a : WA) : WEx := fun ρ μ Q => a ρ μ fun ds μ1 => ds.length ≤ 100000 ∧ ∀ p, μ1 p = none → Q (.mut p) (um μ1 p (.lst ds))
/-- a cell is read for good from here on -/
def fFrz (d : D) (μ : Mu) (Q : D → Mu → Prop) : Prop := match d with
  | .mut a => match μ a with
    | some (.lst l) => Q (.lst l) (rm μ a)
    | some (.dK kvs) => Q (.dK (kvs.map (·.1)) (kvs.map (·.2))) (rm μ a)
    | some (.dT kvs) => Q (.dT (kvs.map (·.1)) (kvs.map (·.2))) (rm μ a)
    | some (.ins C fs) => Q (.ins C (fs.map (·.1)) (fs.map (·.2))) (rm μ a)
    | none => False
  | d => Q d μ
def wFrz (a : WEx) : WEx := wUn fFrz a
/-- a new list for good -/
def wLstF (a : WA) : WEx := fun ρ μ Q => a ρ μ fun ds μ1 => ds.length ≤ 100000 ∧ Q (.lst ds) μ1
def tB0 (d : D) (μ : Mu) (Q : Bool → Mu → Prop) : Prop := match d with
  | .bl b => Q b μ
  | _ => False
def wTe (a : WEx) : WT := fun ρ μ Q => a ρ μ fun d μ1 => tB0 d μ1 Q
def wAnd (t u : WT) : WT := fun ρ μ Q => t ρ μ fun c μ1 => if c = true then u ρ μ1 Q else Q false μ1
def wOr (t u : WT) : WT := fun ρ μ Q => t ρ μ fun c μ1 => if c = true then Q true μ1 else u ρ μ1 Q
def wNot (t : WT) : WT := fun ρ μ Q => t ρ μ fun c μ1 => Q (!c) μ1
def wAndV (a b : WEx) : WEx := fun ρ μ Q => a ρ μ fun d μ1 => tB0 d μ1 fun c μ2 => if c = true then b ρ μ2 Q else Q (.bl false) μ2
def wOrV (a b : WEx) : WEx := fun ρ μ Q => a ρ μ fun d μ1 => tB0 d μ1 fun c μ2 => if c = true then Q (.bl true) μ2 else b ρ μ2 Q
def wNotV (a : WEx) : WEx := fun ρ μ Q => a ρ μ fun d μ1 => tB0 d μ1 fun c μ2 => Q (.bl (!c)) μ2
def wIfE (t : WT) (a b : WEx) : WEx := fun ρ μ Q => t ρ μ fun c μ1 => if c = true then a ρ μ1 Q else b ρ μ1 Q
theorem sz5 {n : Nat} (h : n ≤ 100000) : n ≤ sizeLine := Nat.le_trans h (by decide)
theorem sz5l {n : Nat} (h : n < 100000) : n < sizeLine := Nat.lt_of_lt_of_le h (by decide)
section
variable {K : PySem.W.Frag} {W : WX} {E : EX} {t ta tb te : TE} {w wa wb : WEx} {tt tu : TT} {wt wu : WT} {tas : TA} {was : WA} {r : R2}
theorem dn_var {i : Nat} : Dn K W E (tVar i) (wVar i) := by
  intro F μ H ρ σ Q0 Q s h q
  unfold wVar at h
  split at h
  · rename_i d e
    obtain ⟨v, e1, dv⟩ := s.env.2 i d e
    exact ⟨v, e1, q F μ H d v Grow.refl s dv h⟩
  · exact h.elim
theorem dn_int {i : Int} : Dn K W E (tC (.int i)) (wC (.int i)) := fun F μ H ρ σ Q0 Q s h q => q F μ H (.int i) (.int i) Grow.refl s rfl h
theorem dn_bl {i : Bool} : Dn K W E (tC (.bl i)) (wC (.bl i)) := fun F μ H ρ σ Q0 Q s h q => q F μ H (.bl i) (.bl i) Grow.refl s rfl h
theorem dn_non : Dn K W E (tC .non) (wC .non) := fun F μ H ρ σ Q0 Q s h q => q F μ H .non .non Grow.refl s rfl h
theorem dn_str {x : Str} : Dn K W E (tC (.str x)) (wC (.str x)) := fun F μ H ρ σ Q0 Q s h q => q F μ H (.str x) (.str x) Grow.refl s rfl h
theorem dn_op {f : D → D → Mu → (D → Mu → Prop) → Prop} (hf : DOp K r f) (ha : Dn K W E ta wa) (hb : Dn K W E tb wb) : Dn K W E (tOp r ta tb) (wOp f wa wb) := by
  intro F μ H ρ σ Q0 Q s h q
  refine ha F μ H ρ σ _ _ s h fun F1 μ1 H1 dx x g1 s1 dv1 h1 => ?_
  refine hb F1 μ1 H1 ρ σ _ _ s1 h1 fun F2 μ2 H2 dy y g2 s2 dv2 h2 => ?_
  refine hf F2 μ2 H2 x y dx dy Q0 Q s2.ok (dv1.mono g2) dv2 h2 fun F3 μ3 H3 d v g3 s3 dv h3 => ?_
  exact q F3 μ3 H3 d v (g1.trans (g2.trans g3)) (s2.mono g3 s3) dv h3
theorem dn_un {r : V → Hp → VK → Prop} {f : D → Mu → (D → Mu → Prop) → Prop} (hf : DUn K r f) (ha : Dn K W E ta wa) : Dn K W E (tUn r ta) (wUn f wa) := by
  intro F μ H ρ σ Q0 Q s h q
  refine ha F μ H ρ σ _ _ s h fun F1 μ1 H1 dx x g1 s1 dv1 h1 => ?_
  refine hf F1 μ1 H1 x dx Q0 Q s1.ok dv1 h1 fun F3 μ3 H3 d v g3 s3 dv h3 => ?_
  exact q F3 μ3 H3 d v (g1.trans g3) (s1.mono g3 s3) dv h3
theorem dn_nil : DnA K W E tNil wNil := fun F μ H ρ σ Q0 Q s h q => q F μ H [] [] Grow.refl s rfl h
theorem dn_cons (ha : Dn K W E ta wa) (hr : DnA K W E tas was) : DnA K W E (tCons ta tas) (wCons wa was) := by
  intro F μ H ρ σ Q0 Q s h q
  refine ha F μ H ρ σ _ _ s h fun F1 μ1 H1 dx x g1 s1 dv1 h1 => ?_
  refine hr F1 μ1 H1 ρ σ _ _ s1 h1 fun F2 μ2 H2 ds vs g2 s2 dv2 h2 => ?_
  exact q F2 μ2 H2 _ _ (g1.trans g2) s2 (DVs.cons (dv1.mono g2) dv2) h2
theorem dn_cb {r : List V → Hp → VK → Prop} {f : List D → Mu → (D → Mu → Prop) → Prop} (hf : DCa K r f) (ha : DnA K W E tas was) : Dn K W E (tCB r tas) (wCB f was) := by
  intro F μ H ρ σ Q0 Q s h q
  refine ha F μ H ρ σ _ _ s h fun F1 μ1 H1 ds vs g1 s1 dv1 h1 => ?_
  refine hf F1 μ1 H1 vs ds Q0 Q s1.ok dv1 h1 fun F3 μ3 H3 d v g3 s3 dv h3 => ?_
  exact q F3 μ3 H3 d v (g1.trans g3) (s1.mono g3 s3) dv h3
theorem dn_tup (ha : DnA K W E tas was) : Dn K W E (tTup tas) (wTup was) := by
  intro F μ H ρ σ Q0 Q s h q
  refine ha F μ H ρ σ _ _ s h fun F1 μ1 H1 ds vs g1 s1 dv1 ⟨hz, h1⟩ => ⟨sz5 (by rw [dv1.len]; exact hz), fun p hp => ?_⟩
  have f := s1.ok.free hp
  exact q (upd F1 p (.tup vs)) μ1 _ (.tup ds) _ (g1.trans (Grow.new f.1)) (s1.mono (Grow.new f.1) (s1.ok.put hp)) ⟨p, vs, rfl, SqT.of upd_same, dv1.mono (Grow.new f.1)⟩ h1
theorem dn_lst (ha : DnA K W E tas was) : Dn K W E (tLst tas) (wLst was) := by
  intro F μ H ρ σ Q0 Q s h q
  refine ha F μ H ρ σ _ _ s h fun F1 μ1 H1 ds vs g1 s1 dv1 ⟨hz, h1⟩ => ⟨sz5 (by rw [dv1.len]; exact hz), fun p hp => ?_⟩
  have f := s1.ok.free hp
  exact q F1 _ _ (.mut p) _ g1 (s1.mono Grow.refl (s1.ok.cell (m := .lst ds) f.1 ⟨vs, upd_same, dv1⟩)) rfl (h1 p f.2)
theorem dn_lstF (ha : DnA K W E tas was) : Dn K W E (tLst tas) (wLstF was) := by
  intro F μ H ρ σ Q0 Q s h q
  refine ha F μ H ρ σ _ _ s h fun F1 μ1 H1 ds vs g1 s1 dv1 ⟨hz, h1⟩ => ⟨sz5 (by rw [dv1.len]; exact hz), fun p hp => ?_⟩
  have f := s1.ok.free hp
  exact q (upd F1 p (.lst vs)) μ1 _ (.lst ds) _ (g1.trans (Grow.new f.1)) (s1.mono (Grow.new f.1) (s1.ok.put hp)) ⟨p, vs, rfl, upd_same, dv1.mono (Grow.new f.1)⟩ h1
/-- a ghost step: a cell for good -/
theorem frz_ok {F H : Hp} {μ : Mu} {d : D} {v : V} {Q0 : D → Mu → Prop} {P : Prop} (s : Sok K F μ H) (dv : DV K F d v) (h : fFrz d μ Q0) (q : ∀ F' μ' d', Grow F F' → Sok K F' μ' H → DV K F' d' v → Q0 d' μ' → P) : P := by
  unfold fFrz at h
  split at h
  · rename_i a
    obtain rfl : v = V.ref a := dv
    split at h
    · rename_i l e
      obtain ⟨f, xs, ho, r⟩ := s.cel a _ e
      exact q _ _ (.lst l) (Grow.new f) (s.frz f ho) ⟨a, xs, rfl, upd_same, r.mono (Grow.new f)⟩ h
    · rename_i l e
      obtain ⟨f, xs, ho, r⟩ := s.cel a _ e
      exact q _ _ (.dK _ _) (Grow.new f) (s.frz f ho) ⟨a, xs, rfl, upd_same, r.1, r.2.mono (Grow.new f)⟩ h
    · rename_i l e
      obtain ⟨f, xs, ho, r⟩ := s.cel a _ e
      exact q _ _ (.dT _ _) (Grow.new f) (s.frz f ho) ⟨a, xs, rfl, upd_same, r.1, r.2.mono (Grow.new f)⟩ h
    · rename_i C l e
      obtain ⟨f, dx, xs, ho, r⟩ := s.cel a _ e
      exact q _ _ (.ins C _ _) (Grow.new f) (s.frz f ho) ⟨a, dx, xs, rfl, upd_same, r.1, r.2.mono (Grow.new f)⟩ h
    · exact h.elim
  · exact q F μ d Grow.refl s dv h
theorem dn_frz (ha : Dn K W E ta wa) : Dn K W E ta (wFrz wa) := by
  intro F μ H ρ σ Q0 Q s h q
  refine ha F μ H ρ σ _ _ s h fun F1 μ1 H1 dx x g1 s1 dv1 h1 => ?_
  refine frz_ok s1.ok dv1 h1 fun F2 μ2 d2 g2 s2 dv2 h2 => ?_
  exact q F2 μ2 H1 d2 x (g1.trans g2) (s1.mono g2 s2) dv2 h2
theorem tB0_ok {F : Hp} {μ : Mu} {d : D} {v : V} {Q : Bool → Mu → Prop} (dv : DV K F d v) (h : tB0 d μ Q) : ∃ b, v = .bl b ∧ Q b μ := by
  unfold tB0 at h
  split at h
  · exact ⟨_, dv, h⟩
  · exact h.elim
theorem dn_te (ha : Dn K W E ta wa) : DnT K W E (tTest ta) (wTe wa) := by
  intro F μ H ρ σ Q0 Q s h q
  refine ha F μ H ρ σ _ _ s h fun F1 μ1 H1 dx x g1 s1 dv1 h1 => ?_
  obtain ⟨b, rfl, h2⟩ := tB0_ok dv1 h1
  exact ⟨b, rfl, q F1 μ1 H1 b g1 s1 h2⟩
theorem dn_teB (ha : Dn K W E ta wa) : DnT K W E (tB ta) (wTe wa) := dn_te ha
theorem dn_and (h1 : DnT K W E tt wt) (h2 : DnT K W E tu wu) : DnT K W E (tAnd tt tu) (wAnd wt wu) := by
  intro F μ H ρ σ Q0 Q s h q
  refine h1 F μ H ρ σ _ _ s h fun F1 μ1 H1 b g1 s1 q1 => ?_
  cases b with
  | true => rw [if_pos rfl] at *; exact h2 F1 μ1 H1 ρ σ _ _ s1 q1 fun F2 μ2 H2 b g2 => q F2 μ2 H2 b (g1.trans g2)
  | false => rw [if_neg Bool.false_ne_true] at *; exact q F1 μ1 H1 false g1 s1 q1
theorem dn_or (h1 : DnT K W E tt wt) (h2 : DnT K W E tu wu) : DnT K W E (tOr tt tu) (wOr wt wu) := by
  intro F μ H ρ σ Q0 Q s h q
  refine h1 F μ H ρ σ _ _ s h fun F1 μ1 H1 b g1 s1 q1 => ?_
  cases b with
  | true => rw [if_pos rfl] at *; exact q F1 μ1 H1 true g1 s1 q1
  | false => rw [if_neg Bool.false_ne_true] at *; exact h2 F1 μ1 H1 ρ σ _ _ s1 q1 fun F2 μ2 H2 b g2 => q F2 μ2 H2 b (g1.trans g2)
theorem dn_not (h1 : DnT K W E tt wt) : DnT K W E (tNot tt) (wNot wt) := by
  intro F μ H ρ σ Q0 Q s h q
  exact h1 F μ H ρ σ _ _ s h fun F1 μ1 H1 b g1 s1 q1 => q F1 μ1 H1 _ g1 s1 q1
theorem dn_andV (ha : Dn K W E ta wa) (hb : Dn K W E tb wb) : Dn K W E (tAndV ta tb) (wAndV wa wb) := by
  intro F μ H ρ σ Q0 Q s h q
  refine ha F μ H ρ σ _ _ s h fun F1 μ1 H1 dx x g1 s1 dv1 h1 => ?_
  obtain ⟨b, rfl, h2⟩ := tB0_ok dv1 h1
  refine ⟨b, rfl, ?_⟩
  cases b with
  | true => rw [if_pos rfl] at *; exact hb F1 μ1 H1 ρ σ _ _ s1 h2 (q.grow g1)
  | false => rw [if_neg Bool.false_ne_true] at *; exact q F1 μ1 H1 (.bl false) _ g1 s1 rfl h2
theorem dn_orV (ha : Dn K W E ta wa) (hb : Dn K W E tb wb) : Dn K W E (tOrV ta tb) (wOrV wa wb) := by
  intro F μ H ρ σ Q0 Q s h q
  refine ha F μ H ρ σ _ _ s h fun F1 μ1 H1 dx x g1 s1 dv1 h1 => ?_
  obtain ⟨b, rfl, h2⟩ := tB0_ok dv1 h1
  refine ⟨b, rfl, ?_⟩
  cases b with
  | true => rw [if_pos rfl] at *; exact q F1 μ1 H1 (.bl true) _ g1 s1 rfl h2
  | false => rw [if_neg Bool.false_ne_true] at *; exact hb F1 μ1 H1 ρ σ _ _ s1 h2 (q.grow g1)
theorem dn_notV (ha : Dn K W E ta wa) : Dn K W E (tNotV ta) (wNotV wa) := by
  intro F μ H ρ σ Q0 Q s h q
  refine ha F μ H ρ σ _ _ s h fun F1 μ1 H1 dx x g1 s1 dv1 h1 => ?_
  obtain ⟨b, rfl, h2⟩ := tB0_ok dv1 h1
  exact ⟨b, rfl, q F1 μ1 H1 (.bl (!b)) _ g1 s1 rfl h2⟩
theorem dn_ifE (ht : DnT K W E tt wt) (ha : Dn K W E ta wa) (hb : Dn K W E tb wb) : Dn K W E (tIf tt ta tb) (wIfE wt wa wb) := by
  intro F μ H ρ σ Q0 Q s h q
  refine ht F μ H ρ σ _ _ s h fun F1 μ1 H1 b g1 s1 h1 => ?_
  cases b with
  | true => rw [if_pos rfl] at *; exact ha F1 μ1 H1 ρ σ _ _ s1 h1 (q.grow g1)
  | false => rw [if_neg Bool.false_ne_true] at *; exact hb F1 μ1 H1 ρ σ _ _ s1 h1 (q.grow g1)
end
end DL
set_option maxHeartbeats 4000000
namespace DL
open PySem L2

/-! ### statements -/
def wNext : WS := fun D ρ μ => D.nx ρ μ
def wSeq (t u : WS) : WS := fun D ρ μ => t { D with nx := u D } ρ μ
def wBrk : WS := fun D ρ μ => D.bk ρ μ
def wCnt : WS := fun D ρ μ => D.ct ρ μ
def wDrop (a : WEx) : WS := fun D ρ μ => a ρ μ fun _ μ1 => D.nx ρ μ1
def wRet (a : WEx) : WS := fun D ρ μ => a ρ μ D.rt
def wRetN : WS := fun D _ μ => D.rt .non μ
def wIf (c : WT) (t u : WS) : WS := fun D ρ μ => c ρ μ fun b μ1 => if b = true then t D ρ μ1 else u D ρ μ1
def wNever : WS := fun _ _ _ => False
abbrev WG := D → En → Mu → (En → Mu → Prop) → Prop
abbrev WGs := List D → En → Mu → (En → Mu → Prop) → Prop
def wAsg (a : WEx) (g : WG) : WS := fun D ρ μ => a ρ μ fun d μ1 => g d ρ μ1 D.nx
def gN (i : Nat) : WG := fun d ρ μ N => N (ρ.set i (some d)) μ
def gNl : WGs := fun ds ρ μ N => match ds with
  | [] => N ρ μ
  | _ => False
def gCn (g : WG) (gs : WGs) : WGs := fun ds ρ μ N => match ds with
  | d :: r => g d ρ μ fun ρ1 μ1 => gs r ρ1 μ1 N
  | _ => False
/-- a, b = e -/
def gTp (n : Nat) (gs : WGs) : WG := fun d ρ μ N => match d with
  | .tup l => l.length = n ∧ gs l ρ μ N
  | _ => False
/-- a[i] = e -/
def gSb (f : D → D → D → Mu → (Mu → Prop) → Prop) (o i : WEx) : WG := fun d ρ μ N => o ρ μ fun x μ1 => i ρ μ1 fun y μ2 => f x y d μ2 fun μ3 => N ρ μ3
def wPar (i j : Nat) (a : WA) : WS := fun D ρ μ => a ρ μ fun ds μ1 => match ds with
  | [x, y] => D.nx ((ρ.set i (some x)).set j (some y)) μ1
  | _ => False
def wAug (i : Nat) (a : WEx) (f : D → D → Mu → (D → Mu → Prop) → Prop) : WS := fun D ρ μ => wVar i ρ μ fun x μ0 => a ρ μ0 fun y μ1 => f x y μ1 fun z μ2 => D.nx (ρ.set i (some z)) μ2
section
variable (K : PySem.W.Frag) (W : WX) (E : EX)
def DnG (g : TG) (w : WG) : Prop := ∀ F μ H ρ σ d v N0 N, S0 K W E F μ H ρ σ → DV K F d v → w d ρ μ N0 → PN K W E F N0 N → g v σ H N
def DnGs (g : TGs) (w : WGs) : Prop := ∀ F μ H ρ σ ds vs N0 N, S0 K W E F μ H ρ σ → DVs K F ds vs → w ds ρ μ N0 → PN K W E F N0 N → g vs σ H N
def DSet (t : TSet) (f : D → D → D → Mu → (Mu → Prop) → Prop) : Prop := ∀ F μ H o i v do' di dv (N0 : Mu → Prop) (N : Hp → Prop), Sok K F μ H → DV K F do' o → DV K F di i → DV K F dv v → f do' di dv μ N0 → (∀ F' μ' H', Grow F F' → Sok K F' μ' H' → N0 μ' → N H') → t o i v H N
end
section
variable {K : PySem.W.Frag} {W : WX} {E : EX} {ta tb te : TE} {wa wb : WEx} {tt : TT} {wt : WT} {tas : TA} {was : WA} {ts tu : TS} {ws wu : WS} {g : TG} {wg : WG} {gs : TGs} {wgs : WGs}
theorem dn_next : DnS K W E tNext wNext := fun F μ H ρ σ D0 Ds s h e => e.nx F μ H ρ σ Grow.refl s h
theorem dn_brk : DnS K W E tBreak wBrk := fun F μ H ρ σ D0 Ds s h e => e.bk F μ H ρ σ Grow.refl s h
theorem dn_cnt : DnS K W E tCont wCnt := fun F μ H ρ σ D0 Ds s h e => e.ct F μ H ρ σ Grow.refl s h
theorem dn_never : DnS K W E tNever wNever := fun F μ H ρ σ D0 Ds s h e => h.elim
theorem dn_seq (h1 : DnS K W E ts ws) (h2 : DnS K W E tu wu) : DnS K W E (tSeq ts tu) (wSeq ws wu) := by
  intro F μ H ρ σ D0 Ds s h e
  refine h1 F μ H ρ σ _ _ s h ⟨fun F1 μ1 H1 ρ1 σ1 g1 s1 q1 => ?_, e.rt, e.bk, e.ct⟩
  exact h2 F1 μ1 H1 ρ1 σ1 D0 Ds s1 q1 (e.grow g1)
theorem dn_drop (ha : Dn K W E ta wa) : DnS K W E (tDrop ta) (wDrop wa) := by
  intro F μ H ρ σ D0 Ds s h e
  exact ha F μ H ρ σ _ _ s h fun F1 μ1 H1 d v g1 s1 dv h1 => e.nx F1 μ1 H1 ρ σ g1 s1 h1
theorem dn_ret (ha : Dn K W E ta wa) : DnS K W E (tRet ta) (wRet wa) := by
  intro F μ H ρ σ D0 Ds s h e
  exact ha F μ H ρ σ _ _ s h fun F1 μ1 H1 d v g1 s1 dv h1 => e.rt F1 μ1 H1 d v g1 s1.ok dv h1
theorem dn_retN : DnS K W E tRetN wRetN := fun F μ H ρ σ D0 Ds s h e => e.rt F μ H .non .non Grow.refl s.ok rfl h
theorem dn_if (hc : DnT K W E tt wt) (h1 : DnS K W E ts ws) (h2 : DnS K W E tu wu) : DnS K W E (tIfS tt ts tu) (wIf wt ws wu) := by
  intro F μ H ρ σ D0 Ds s h e
  refine hc F μ H ρ σ _ _ s h fun F1 μ1 H1 b g1 s1 q1 => ?_
  cases b with
  | true => rw [if_pos rfl] at *; exact h1 F1 μ1 H1 ρ σ D0 Ds s1 q1 (e.grow g1)
  | false => rw [if_neg Bool.false_ne_true] at *; exact h2 F1 μ1 H1 ρ σ D0 Ds s1 q1 (e.grow g1)
theorem dn_asg (ha : Dn K W E ta wa) (hg : DnG K W E g wg) : DnS K W E (tAsg ta g) (wAsg wa wg) := by
  intro F μ H ρ σ D0 Ds s h e
  exact ha F μ H ρ σ _ _ s h fun F1 μ1 H1 d v g1 s1 dv h1 => hg F1 μ1 H1 ρ σ d v _ _ s1 dv h1 (e.nx.grow g1)
theorem dg_name {i : Nat} : DnG K W E (gName i) (gN i) := fun F μ H ρ σ d v N0 N s dv h n => n F μ H _ _ Grow.refl (s.set dv) h
theorem dg_nil : DnGs K W E gNil gNl := by
  intro F μ H ρ σ ds vs N0 N s dv h n
  unfold gNl at h
  split at h
  · exact ⟨dv, n F μ H ρ σ Grow.refl s h⟩
  · exact h.elim
theorem dg_cons (h1 : DnG K W E g wg) (h2 : DnGs K W E gs wgs) : DnGs K W E (gCons g gs) (gCn wg wgs) := by
  intro F μ H ρ σ ds vs N0 N s dv h n
  unfold gCn at h
  split at h
  · obtain ⟨v, r, rfl, d1, d2⟩ := dv
    exact ⟨v, r, rfl, h1 F μ H ρ σ _ v _ _ s d1 h fun F1 μ1 H1 ρ1 σ1 g1 s1 q1 => h2 F1 μ1 H1 ρ1 σ1 _ r _ _ s1 (d2.mono g1) q1 (n.grow g1)⟩
  · exact h.elim
theorem dg_tup {n : Nat} (h1 : DnGs K W E gs wgs) : DnG K W E (gTup K n gs) (gTp n wgs) := by
  intro F μ H ρ σ d v N0 N s dv h q
  unfold gTp at h
  split at h
  · obtain ⟨a, xs, rfl, r, dl⟩ := dv
    exact ⟨a, xs, rfl, (show Grow F H from s.ok.sub).st r, by rw [dl.len]; exact h.1, h1 F μ H ρ σ _ xs _ _ s dl h.2 q⟩
  · exact h.elim
theorem dg_sub {t : TSet} {f : D → D → D → Mu → (Mu → Prop) → Prop} (hf : DSet K t f) (ho : Dn K W E ta wa) (hi : Dn K W E tb wb) : DnG K W E (gSub ta tb t) (gSb f wa wb) := by
  intro F μ H ρ σ d v N0 N s dv h q
  refine ho F μ H ρ σ _ _ s h fun F1 μ1 H1 d1 v1 g1 s1 dv1 h1 => ?_
  refine hi F1 μ1 H1 ρ σ _ _ s1 h1 fun F2 μ2 H2 d2 v2 g2 s2 dv2 h2 => ?_
  refine hf F2 μ2 H2 _ _ _ _ _ _ _ _ s2.ok (dv1.mono g2) dv2 (dv.mono (g1.trans g2)) h2 fun F3 μ3 H3 g3 s3 h3 => ?_
  exact q F3 μ3 H3 ρ σ (g1.trans (g2.trans g3)) (s2.mono g3 s3) h3
theorem dn_par {i j : Nat} (ha : DnA K W E tas was) : DnS K W E (tPar i j tas) (wPar i j was) := by
  intro F μ H ρ σ D0 Ds s h e
  refine ha F μ H ρ σ _ _ s h fun F1 μ1 H1 ds vs g1 s1 dv h1 => ?_
  split at h1
  · obtain ⟨x, r, rfl, dx, y, r2, rfl, dy, rfl⟩ := dv
    exact ⟨x, y, rfl, e.nx F1 μ1 H1 _ _ g1 ((s1.set dx).set dy) h1⟩
  · exact h1.elim
theorem dn_aug {i : Nat} {ti : TIp} {f : D → D → Mu → (D → Mu → Prop) → Prop} (hf : DOp K ti f) (ha : Dn K W E ta wa) : DnS K W E (tAug i ta ti) (wAug i wa f) := by
  intro F μ H ρ σ D0 Ds s h e
  unfold wAug wVar at h
  split at h
  · rename_i d q
    obtain ⟨v, e1, dv⟩ := s.env.2 i d q
    refine ⟨v, e1, ha F μ H ρ σ _ _ s h fun F1 μ1 H1 d1 v1 g1 s1 dv1 h1 => ?_⟩
    refine hf F1 μ1 H1 v v1 d d1 _ _ s1.ok (dv.mono g1) dv1 h1 fun F2 μ2 H2 d2 v2 g2 s2 dv2 h2 => ?_
    exact e.nx F2 μ2 H2 _ _ (g1.trans g2) ((s1.mono g2 s2).set dv2) h2
  · exact h.elim

/-! ### loops -/
/-- less is known of slots and cells -/
def leE (ρ ρ' : En) : Prop := ρ.length = ρ'.length ∧ ∀ (i : Nat) (d : D), ρ[i]? = some (some d) → ρ'[i]? = some (some d)
theorem leE.refl {ρ : En} : leE ρ ρ := ⟨rfl, fun _ _ h => h⟩
/-- N of less knowledge -/
def wk (N : En → Mu → Prop) : En → Mu → Prop := fun ρ μ => ∃ ρ' μ', leE ρ' ρ ∧ le μ' μ ∧ N ρ' μ'
theorem wk.of {N : En → Mu → Prop} {ρ : En} {μ : Mu} (h : N ρ μ) : wk N ρ μ := ⟨ρ, μ, leE.refl, le.refl, h⟩
theorem wk.mu {N : En → Mu → Prop} {ρ : En} {μ μ' : Mu} (l : le μ' μ) (h : N ρ μ') : wk N ρ μ := ⟨ρ, μ', leE.refl, l, h⟩
theorem S0.wk {F H : Hp} {μ μ' : Mu} {ρ ρ' : En} {σ : L2.St} (s : S0 K W E F μ H ρ σ) (h1 : leE ρ' ρ) (h2 : le μ' μ) : S0 K W E F μ' H ρ' σ := ⟨s.ok.weak h2, s.env.le h1.1 h1.2, s.wok⟩
/-- while c: b -/
def wWhile (c : WT) (b : WS) : WS := fun D ρ μ => ∃ I : Nat → En → Mu → Prop, (∃ m, I m ρ μ) ∧ ∀ m ρ μ, I m ρ μ → c ρ μ fun k μ1 =>
  if k = true then b { D with nx := wk fun ρ' μ' => ∃ m', m' < m ∧ I m' ρ' μ', ct := wk fun ρ' μ' => ∃ m', m' < m ∧ I m' ρ' μ', bk := D.nx } ρ μ1 else D.nx ρ μ1
theorem dn_while (hc : DnT K W E tt wt) (hb : DnS K W E ts ws) : DnS K W E (tWhile tt ts) (wWhile wt ws) := by
  intro F μ H ρ σ D0 Ds s h e
  obtain ⟨I, ⟨m0, i0⟩, turn⟩ := h
  refine ⟨fun m σ' H' => ∃ F' μ' ρ', Grow F F' ∧ S0 K W E F' μ' H' ρ' σ' ∧ I m ρ' μ', ⟨m0, F, μ, ρ, Grow.refl, s, i0⟩, ?_⟩
  rintro m σ1 H1 ⟨F1, μ1, ρ1, g1, s1, i1⟩
  refine hc F1 μ1 H1 ρ1 σ1 _ _ s1 (turn m ρ1 μ1 i1) fun F2 μ2 H2 b g2 s2 q2 => ?_
  have e2 := (e.grow g1).grow g2
  cases b with
  | true =>
    rw [if_pos rfl] at *
    have again : PN K W E F2 (wk fun ρ' μ' => ∃ m', m' < m ∧ I m' ρ' μ') (fun σ' H' => ∃ m', m' < m ∧ ∃ F' μ' ρ', Grow F F' ∧ S0 K W E F' μ' H' ρ' σ' ∧ I m' ρ' μ') := fun F3 μ3 H3 ρ3 σ3 g3 s3 ⟨ρ4, μ4, l1, l2, m', hm, i'⟩ =>
      ⟨m', hm, F3, μ4, ρ4, g1.trans (g2.trans g3), s3.wk l1 l2, i'⟩
    exact ⟨fun σ' H' => ∃ m', m' < m ∧ ∃ F' μ' ρ', Grow F F' ∧ S0 K W E F' μ' H' ρ' σ' ∧ I m' ρ' μ', fun σ' H' h => h, hb F2 μ2 H2 ρ1 σ1 _ _ s2 q2 ⟨again, e2.rt, e2.nx, again⟩⟩
  | false =>
    rw [if_neg Bool.false_ne_true] at *
    exact e2.nx F2 μ2 H2 ρ1 σ1 Grow.refl s2 q2
/-- what a for walks: a list of data that stands (a list for good, a tuple, a range, a cell that is not changed) -/
inductive Wk where
  | fix (l : List D)
  | cell (a : Addr) (l : List D)
abbrev WI := En → Mu → (Wk → Mu → Prop) → Prop
def Wk.items : Wk → List D
  | .fix l => l
  | .cell _ l => l
def Wk.ok (μ : Mu) : Wk → Prop
  | .fix _ => True
  | .cell a l => μ a = some (.lst l)
/-- the walk J yields the items of k -/
structure WkOk (K : PySem.W.Frag) (J : It) (k : Wk) (F : Hp) : Prop where
  go : ∀ F' μ H (i : Nat), Grow F F' → Sok K F' μ H → k.ok μ → i < k.items.length → J.go i H
  yld : ∀ F' μ H (i : Nat) x H', Grow F F' → Sok K F' μ H → k.ok μ → i < k.items.length → J.yld i H x H' → ∃ F2 d, Grow F' F2 ∧ Sok K F2 μ H' ∧ k.items[i]? = some d ∧ DV K F2 d x
  stop : ∀ F' μ H (i : Nat), Grow F F' → Sok K F' μ H → k.ok μ → k.items.length ≤ i → J.stop i H
def DnI (K : PySem.W.Frag) (W : WX) (E : EX) (ti : TI) (wi : WI) : Prop := ∀ F μ H ρ σ (Q0 : Wk → Mu → Prop) (R : It → Hp → Prop), S0 K W E F μ H ρ σ → wi ρ μ Q0 → (∀ F' μ' H' J k, Grow F F' → S0 K W E F' μ' H' ρ σ → WkOk K J k F' → Q0 k μ' → R J H') → ti σ H R
/-- for g in ..: b -/
def wFor (wi : WI) (g : WG) (b : WS) : WS := fun D ρ μ => wi ρ μ fun k μ1 => ∃ I : Nat → En → Mu → Prop, I 0 ρ μ1 ∧ (∀ i ρ μ, I i ρ μ → k.ok μ) ∧
  (∀ i d ρ μ, k.items[i]? = some d → I i ρ μ → g d ρ μ fun ρ2 μ2 => b { D with nx := wk (I (i + 1)), ct := wk (I (i + 1)), bk := D.nx } ρ2 μ2) ∧ ∀ ρ μ, I k.items.length ρ μ → D.nx ρ μ
theorem dn_for {ti : TI} {wi : WI} (hi : DnI K W E ti wi) (hg : DnG K W E g wg) (hb : DnS K W E ts ws) : DnS K W E (tFor ti g ts) (wFor wi wg ws) := by
  intro F μ H ρ σ D0 Ds s h e
  refine hi F μ H ρ σ _ _ s h fun F1 μ1 H1 J k g1 s1 kk ⟨I, i0, hok, step, done⟩ => ?_
  refine ⟨fun i m σ' H' => m = k.items.length - i ∧ i ≤ k.items.length ∧ ∃ F' μ' ρ', Grow F1 F' ∧ S0 K W E F' μ' H' ρ' σ' ∧ I i ρ' μ', ⟨_, rfl, Nat.zero_le _, F1, μ1, ρ, Grow.refl, s1, i0⟩, ?_⟩
  rintro i m σ2 H2 ⟨rfl, hl, F2, μ2, ρ2, g2, s2, i2⟩
  have e2 := (e.grow g1).grow g2
  by_cases hlt : i < k.items.length
  · refine .inr ⟨kk.go F2 μ2 H2 i g2 s2.ok (hok i ρ2 μ2 i2) hlt, fun σ' H' => i + 1 ≤ k.items.length ∧ ∃ F' μ' ρ', Grow F1 F' ∧ S0 K W E F' μ' H' ρ' σ' ∧ I (i + 1) ρ' μ', fun σ' H' hN => ⟨k.items.length - (i + 1), by omega, rfl, hN.1, hN.2⟩, fun x H3 y => ?_⟩
    obtain ⟨F3, d, g3, s3, ed, dv⟩ := kk.yld F2 μ2 H2 i x H3 g2 s2.ok (hok i ρ2 μ2 i2) hlt y
    refine hg F3 μ2 H3 ρ2 σ2 d x _ _ (s2.mono g3 s3) dv (step i d ρ2 μ2 ed i2) fun F4 μ4 H4 ρ4 σ4 g4 s4 h4 => ?_
    have again : PN K W E F4 (wk (I (i + 1))) (fun σ' H' => i + 1 ≤ k.items.length ∧ ∃ F' μ' ρ', Grow F1 F' ∧ S0 K W E F' μ' H' ρ' σ' ∧ I (i + 1) ρ' μ') := fun F5 μ5 H5 ρ5 σ5 g5 s5 ⟨ρ6, μ6, l1, l2, i6⟩ =>
      ⟨hlt, F5, μ6, ρ6, g2.trans (g3.trans (g4.trans g5)), s5.wk l1 l2, i6⟩
    have e4 := (e2.grow g3).grow g4
    exact hb F4 μ4 H4 ρ4 σ4 _ _ s4 h4 ⟨again, e4.rt, e4.nx, again⟩
  · have ei : i = k.items.length := by omega
    subst ei
    exact .inl ⟨kk.stop F2 μ2 H2 _ g2 s2.ok (hok _ ρ2 μ2 i2) (Nat.le_refl _), e2.nx F2 μ2 H2 ρ2 σ2 Grow.refl s2 (done ρ2 μ2 i2)⟩
/-- what lists and tuples are walked by -/
def lv (μ : Mu) : D → Option (List D)
  | .lst l => some l
  | .mut a => match μ a with
    | some (.lst l) => some l
    | _ => none
  | _ => none
def iLs (a : WEx) : WI := fun ρ μ Q => a ρ μ fun d μ1 => match d with
  | .lst l => Q (.fix l) μ1
  | .mut a => match μ1 a with
    | some (.lst l) => Q (.cell a l) μ1
    | _ => False
  | _ => False
theorem SqL.inj_of {H : Hp} {a : Addr} {xs ys : List V} (h : H a = some (.lst xs)) (h' : SqL K H a ys) (hk : K.lookup a = none) : ys = xs := by
  rcases h' with (h' | ⟨o, h'⟩) | ⟨o, its, n, h', _⟩
  · rw [h] at h'; cases h'; rfl
  · rw [h] at h'; cases h'
  · rw [hk] at h'; cases h'
theorem di_list (ha : Dn K W E ta wa) : DnI K W E (iList K ta) (iLs wa) := by
  intro F μ H ρ σ Q0 R s h q
  refine ha F μ H ρ σ _ _ s h fun F1 μ1 H1 d v g1 s1 dv h1 => ?_
  split at h1
  · rename_i l
    obtain ⟨a, xs, rfl, r, dl⟩ := dv
    have gH : ∀ {F' H' : Hp} {μ' : Mu}, Sok K F' μ' H' → Grow F' H' := fun s => s.sub
    refine ⟨a, rfl, ⟨xs, SqL.of (gH s1.ok _ _ r)⟩, q F1 μ1 H1 (Itl K a) (.fix l) g1 s1 ⟨fun F' μ' H' i g s' _ hi => ?_, fun F' μ' H' i x H2 g s' _ hi y => ?_, fun F' μ' H' i g s' _ hi => ?_⟩ h1⟩
    · have hi' : i < xs.length := by rw [dl.len]; exact hi
      exact ⟨xs, xs[i], SqL.of (gH s' _ _ (g _ _ r)), List.getElem?_eq_getElem hi'⟩
    · obtain ⟨rfl, y⟩ := y
      obtain ⟨d, e1, e2⟩ := dl.back (y xs (SqL.of (gH s' _ _ (g _ _ r))))
      exact ⟨F', d, Grow.refl, s', e1, e2.mono g⟩
    · exact ⟨xs, SqL.of (gH s' _ _ (g _ _ r)), by rw [dl.len]; exact hi⟩
  · rename_i a
    obtain rfl : v = V.ref a := dv
    split at h1
    · rename_i l e
      obtain ⟨_, xs, ho, dl⟩ := s1.ok.cel a _ e
      refine ⟨a, rfl, ⟨xs, SqL.of ho⟩, q F1 μ1 H1 (Itl K a) (.cell a l) g1 s1 ⟨fun F' μ' H' i g s' k hi => ?_, fun F' μ' H' i x H2 g s' k hi y => ?_, fun F' μ' H' i g s' k hi => ?_⟩ h1⟩
      all_goals
        obtain ⟨_, ys, ho', dl'⟩ := s'.cel a _ (show μ' a = some (.lst l) from k)
      · have hi' : i < ys.length := by rw [dl'.len]; exact hi
        exact ⟨ys, ys[i], SqL.of ho', List.getElem?_eq_getElem hi'⟩
      · obtain ⟨rfl, y⟩ := y
        obtain ⟨d, e1, e2⟩ := dl'.back (y ys (SqL.of ho'))
        exact ⟨F', d, Grow.refl, s', e1, e2⟩
      · exact ⟨ys, SqL.of ho', by rw [dl'.len]; exact hi⟩
    · exact h1.elim
  · exact h1.elim
def iTp (a : WEx) : WI := fun ρ μ Q => a ρ μ fun d μ1 => match d with
  | .tup l => Q (.fix l) μ1
  | _ => False
theorem di_tup (ha : Dn K W E ta wa) : DnI K W E (iTup K ta) (iTp wa) := by
  intro F μ H ρ σ Q0 R s h q
  refine ha F μ H ρ σ _ _ s h fun F1 μ1 H1 d v g1 s1 dv h1 => ?_
  split at h1
  · rename_i l
    obtain ⟨a, xs, rfl, r, dl⟩ := dv
    have gH : ∀ {F' H' : Hp} {μ' : Mu}, Sok K F' μ' H' → Grow F' H' := fun s => s.sub
    refine ⟨a, rfl, ⟨xs, (gH s1.ok).st r⟩, q F1 μ1 H1 (Itt K a) (.fix l) g1 s1 ⟨fun F' μ' H' i g s' _ hi => ?_, fun F' μ' H' i x H2 g s' _ hi y => ?_, fun F' μ' H' i g s' _ hi => ?_⟩ h1⟩
    · have hi' : i < xs.length := by rw [dl.len]; exact hi
      exact ⟨xs, xs[i], (gH s').st (g.st r), List.getElem?_eq_getElem hi'⟩
    · obtain ⟨rfl, y⟩ := y
      obtain ⟨d, e1, e2⟩ := dl.back (y xs ((gH s').st (g.st r)))
      exact ⟨F', d, Grow.refl, s', e1, e2.mono g⟩
    · exact ⟨xs, (gH s').st (g.st r), by rw [dl.len]; exact hi⟩
  · exact h1.elim
/-- lo, lo + 1, .., n of them -/
def rng (lo : Int) (n : Nat) : List D := (List.range n).map fun i => D.int (lo + (i : Nat))
theorem rng_len (lo : Int) (n : Nat) : (rng lo n).length = n := by unfold rng; rw [List.length_map, List.length_range]
theorem rng_get {lo : Int} {n i : Nat} (h : i < n) : (rng lo n)[i]? = some (D.int (lo + (i : Nat))) := by
  unfold rng; rw [List.getElem?_map, List.getElem?_range h]; rfl
theorem wk_rng {lo : Int} {n : Nat} {F : Hp} : WkOk K (Itr lo n) (.fix (rng lo n)) F := by
  refine ⟨fun F' μ' H' i g s' _ hi => ?_, fun F' μ' H' i x H2 g s' _ hi y => ?_, fun F' μ' H' i g s' _ hi => ?_⟩
  all_goals
    have hi' := hi
    rw [show (Wk.fix (rng lo n)).items = rng lo n from rfl, rng_len] at hi'
  · exact hi'
  · obtain ⟨rfl, rfl⟩ := y
    exact ⟨F', _, Grow.refl, s', rng_get hi', rfl⟩
  · exact hi'
def iR1 (a : WA) : WI := fun ρ μ Q => a ρ μ fun ds μ1 => match ds with
  | [.int j] => (-(2 ^ 62) ≤ j ∧ j < 2 ^ 62) ∧ Q (.fix (rng 0 j.toNat)) μ1
  | _ => False
def iR2 (a : WA) : WI := fun ρ μ Q => a ρ μ fun ds μ1 => match ds with
  | [.int i, .int j] => (-(2 ^ 62) ≤ i ∧ i < 2 ^ 62 ∧ -(2 ^ 62) ≤ j ∧ j < 2 ^ 62) ∧ Q (.fix (rng i (j - i).toNat)) μ1
  | _ => False
theorem di_r1 (ha : DnA K W E tas was) : DnI K W E (iRng1 tas) (iR1 was) := by
  intro F μ H ρ σ Q0 R s h q
  refine ha F μ H ρ σ _ _ s h fun F1 μ1 H1 ds vs g1 s1 dv h1 => ?_
  split at h1
  · rename_i j
    obtain ⟨x, r, rfl, dx, rfl⟩ := dv
    obtain rfl : x = V.int j := dx
    exact ⟨j, rfl, h1.1.1, h1.1.2, q F1 μ1 H1 _ _ g1 s1 wk_rng h1.2⟩
  · exact h1.elim
theorem di_r2 (ha : DnA K W E tas was) : DnI K W E (iRng2 tas) (iR2 was) := by
  intro F μ H ρ σ Q0 R s h q
  refine ha F μ H ρ σ _ _ s h fun F1 μ1 H1 ds vs g1 s1 dv h1 => ?_
  split at h1
  · rename_i i j
    obtain ⟨x, r, rfl, dx, y, r2, rfl, dy, rfl⟩ := dv
    obtain rfl : x = V.int i := dx
    obtain rfl : y = V.int j := dy
    exact ⟨i, j, rfl, h1.1, q F1 μ1 H1 _ _ g1 s1 wk_rng h1.2⟩
  · exact h1.elim
end

/-! ### operations on data -/
abbrev F2 := D → D → Mu → (D → Mu → Prop) → Prop
/-- on two ints -/
def fI (C : Int → Int → Prop) (g : Int → Int → D) : F2 := fun x y μ Q => match x, y with
  | .int i, .int j => C i j ∧ Q (g i j) μ
  | _, _ => False
def fI0 (g : Int → Int → D) : F2 := fun x y μ Q => match x, y with
  | .int i, .int j => Q (g i j) μ
  | _, _ => False
def toV : D → V
  | .non => .non | .bl b => .bl b | .int i => .int i | .str x => .str x | _ => .non
def flat : D → Bool
  | .non => true | .bl _ => true | .int _ => true | .str _ => true | _ => false
section
variable {K : PySem.W.Frag}
theorem dv_flat {F : Hp} {d : D} {v : V} (h : flat d = true) (dv : DV K F d v) : v = toV d := by
  cases d with
  | non => exact dv
  | bl b => exact dv
  | int i => exact dv
  | str x => exact dv
  | _ => cases h
theorem flat_dv {F : Hp} {d : D} (h : flat d = true) : DV K F d (toV d) := by
  cases d with
  | non => exact rfl
  | bl b => exact rfl
  | int i => exact rfl
  | str x => exact rfl
  | _ => cases h
theorem do_I {C : Int → Int → Prop} {g : Int → Int → D} (hg : ∀ i j, flat (g i j) = true) : DOp K (rI C fun i j => toV (g i j)) (fI C g) := by
  intro F μ H x y dx dy Q0 Q s d1 d2 h q
  unfold fI at h
  split at h
  · exact ⟨_, _, d1, d2, h.1, q F μ H _ _ Grow.refl s (flat_dv (hg _ _)) h.2⟩
  · exact h.elim
theorem do_I0 {g : Int → Int → D} (hg : ∀ i j, flat (g i j) = true) : DOp K (rI0 fun i j => toV (g i j)) (fI0 g) := by
  intro F μ H x y dx dy Q0 Q s d1 d2 h q
  unfold fI0 at h
  split at h
  · exact ⟨_, _, d1, d2, q F μ H _ _ Grow.refl s (flat_dv (hg _ _)) h⟩
  · exact h.elim
def fAdd : F2 := fI0 fun i j => .int (i + j)
def fSub : F2 := fI0 fun i j => .int (i - j)
/-- a product that the model makes -/
structure MulOk (i j : Int) : Prop where
  ok : IntMulOk i j
def fMul : F2 := fI MulOk fun i j => .int (i * j)
def fLt : F2 := fI0 fun i j => .bl (decide (i < j))
def fLe : F2 := fI0 fun i j => .bl (decide (i ≤ j))
def fGt : F2 := fI0 fun i j => .bl (decide (j < i))
def fGe : F2 := fI0 fun i j => .bl (decide (j ≤ i))
def fMod : F2 := fI (fun _ j => 0 < j) fun i j => .int (i % j)
def fModN : F2 := fI (fun _ j => j ≠ 0) fun i j => .int (i.fmod j)
def fPow : F2 := fI CPow fun i j => .int (i ^ j.toNat)
def fDiv : F2 := fI CDivW fun i j => .int (i / j)
theorem do_add : DOp K (rI0 fun i j => .int (i + j)) fAdd := do_I0 fun _ _ => rfl
theorem do_sub : DOp K (rI0 fun i j => .int (i - j)) fSub := do_I0 fun _ _ => rfl
theorem do_lt : DOp K (rI0 fun i j => .bl (decide (i < j))) fLt := do_I0 fun _ _ => rfl
theorem do_le : DOp K (rI0 fun i j => .bl (decide (i ≤ j))) fLe := do_I0 fun _ _ => rfl
theorem do_gt : DOp K (rI0 fun i j => .bl (decide (j < i))) fGt := do_I0 fun _ _ => rfl
theorem do_ge : DOp K (rI0 fun i j => .bl (decide (j ≤ i))) fGe := do_I0 fun _ _ => rfl
theorem do_mul : DOp K (rI MulOk fun i j => .int (i * j)) fMul := do_I fun _ _ => rfl
theorem op_mulA {X : Cx} : OpR X (binaryOp .Mult) (rI MulOk fun i j => .int (i * j)) := opI fun _ _ _ _ _ _ _ hc q => PyProof.Rows.mul_int q hc.ok
theorem do_mod : DOp K (rI (fun _ j => 0 < j) fun i j => .int (i % j)) fMod := do_I fun _ _ => rfl
theorem do_modN : DOp K (rI (fun _ j => j ≠ 0) fun i j => .int (i.fmod j)) fModN := do_I fun _ _ => rfl
theorem do_pow : DOp K (rI CPow fun i j => .int (i ^ j.toNat)) fPow := do_I fun _ _ => rfl
theorem do_div : DOp K (rI CDivW fun i j => .int (i / j)) fDiv := do_I fun _ _ => rfl
def fNeg (x : D) (μ : Mu) (Q : D → Mu → Prop) : Prop := match x with
  | .int i => Q (.int (-i)) μ
  | _ => False
theorem du_neg : DUn K (rU fun i => .int (-i)) fNeg := by
  intro F μ H x dx Q0 Q s d1 h q
  unfold fNeg at h
  split at h
  · exact ⟨_, d1, q F μ H (.int _) _ Grow.refl s rfl h⟩
  · exact h.elim
/-- == of two flat things of one kind -/
def scalD : D → D → Bool
  | .non, .non => true | .bl _, .bl _ => true | .int _, .int _ => true | .str _, .str _ => true | _, _ => false
def eqF : D → D → Bool
  | .non, .non => true | .bl a, .bl b => a == b | .int a, .int b => a == b | .str a, .str b => a == b | _, _ => false
def fEq : F2 := fun x y μ Q => scalD x y = true ∧ Q (.bl (eqF x y)) μ
def fNe : F2 := fun x y μ Q => scalD x y = true ∧ Q (.bl (!eqF x y)) μ
theorem scal_ok {F : Hp} {x y : D} {v u : V} (h : scalD x y = true) (d1 : DV K F x v) (d2 : DV K F y u) : scal v u = true ∧ decide (v = u) = eqF x y := by
  cases x <;> cases y <;> first | (cases h; done) | skip
  all_goals (obtain rfl : v = _ := d1; obtain rfl : u = _ := d2)
  all_goals first | exact ⟨rfl, dec_int⟩ | exact ⟨rfl, dec_bl⟩ | exact ⟨rfl, dec_str⟩ | exact ⟨rfl, by simp [eqF]⟩
theorem do_eq : DOp K rEq fEq := by
  intro F μ H x y dx dy Q0 Q s d1 d2 h q
  obtain ⟨e1, e2⟩ := scal_ok h.1 d1 d2
  exact ⟨e1, by rw [e2]; exact q F μ H (.bl _) _ Grow.refl s rfl h.2⟩
theorem do_ne : DOp K rNe fNe := by
  intro F μ H x y dx dy Q0 Q s d1 d2 h q
  obtain ⟨e1, e2⟩ := scal_ok h.1 d1 d2
  exact ⟨e1, by rw [e2]; exact q F μ H (.bl _) _ Grow.refl s rfl h.2⟩
/-- x is None -/
def isN : D → Bool
  | .non => true | _ => false
def fIsN : F2 := fun x y μ Q => match y with
  | .non => Q (.bl (isN x)) μ
  | _ => False
def fNotN : F2 := fun x y μ Q => match y with
  | .non => Q (.bl (!isN x)) μ
  | _ => False
theorem isN_ok {F : Hp} {d : D} {v : V} (dv : DV K F d v) : decide (v = .non) = isN d := by
  cases d with
  | non => rw [show v = V.non from dv]; rfl
  | bl b => rw [show v = V.bl b from dv]; rfl
  | int b => rw [show v = V.int b from dv]; rfl
  | str b => rw [show v = V.str b from dv]; rfl
  | «mut» b => rw [show v = V.ref b from dv]; rfl
  | tup l => obtain ⟨a, xs, rfl, _⟩ := dv; rfl
  | lst l => obtain ⟨a, xs, rfl, _⟩ := dv; rfl
  | lsr l => obtain ⟨a, xs, rfl, _⟩ := dv; rfl
  | dK k l => obtain ⟨a, xs, rfl, _⟩ := dv; rfl
  | dT k l => obtain ⟨a, xs, rfl, _⟩ := dv; rfl
  | ins C k l => obtain ⟨a, dx, xs, rfl, _⟩ := dv; rfl
theorem do_isN : DOp K (fun x y H Q => y = .non ∧ Q (.bl (decide (x = .non))) H) fIsN := by
  intro F μ H x y dx dy Q0 Q s d1 d2 h q
  unfold fIsN at h
  split at h
  · exact ⟨d2, by rw [isN_ok d1]; exact q F μ H (.bl _) _ Grow.refl s rfl h⟩
  · exact h.elim
theorem do_notN : DOp K (fun x y H Q => y = .non ∧ Q (.bl (!decide (x = .non))) H) fNotN := by
  intro F μ H x y dx dy Q0 Q s d1 d2 h q
  unfold fNotN at h
  split at h
  · exact ⟨d2, by rw [isN_ok d1]; exact q F μ H (.bl _) _ Grow.refl s rfl h⟩
  · exact h.elim
/-- xs[i] of a list, a tuple -/
def sv (μ : Mu) : D → Option (List D)
  | .tup l => some l
  | .lst l => some l
  | .mut a => match μ a with
    | some (.lst l) => some l
    | _ => none
  | _ => none
def fIx : F2 := fun x y μ Q => match y with
  | .int i => match sv μ x with
    | some l => match atI l i with
      | some d => Q d μ
      | none => False
    | none => False
  | _ => False
theorem atI_dv {F : Hp} {l : List D} {xs : List V} {i : Int} {d : D} (h : DVs K F l xs) (e : atI l i = some d) : ∃ v, atI xs i = some v ∧ DV K F d v := by
  unfold atI at *
  rw [h.len]
  cases q : ixN l.length i with
  | none => rw [q] at e; cases e
  | some j =>
    rw [q] at e
    exact h.get (i := j) e
theorem do_ix : DOp K (rIx K) fIx := by
  intro F μ H x y dx dy Q0 Q s d1 d2 h q
  unfold fIx at h
  split at h
  · rename_i i
    split at h
    · rename_i l el
      split at h
      · rename_i d ed
        have gH : Grow F H := s.sub
        obtain rfl : y = V.int i := d2
        unfold sv at el
        split at el
        · cases el
          obtain ⟨a, xs, rfl, r, dl⟩ := d1
          obtain ⟨v, e1, e2⟩ := atI_dv dl ed
          exact .inr (.inl ⟨a, xs, i, v, rfl, rfl, gH.st r, e1, q F μ H d v Grow.refl s e2 h⟩)
        · cases el
          obtain ⟨a, xs, rfl, r, dl⟩ := d1
          obtain ⟨v, e1, e2⟩ := atI_dv dl ed
          exact .inl ⟨a, xs, i, v, rfl, rfl, SqL.of (gH _ _ r), e1, q F μ H d v Grow.refl s e2 h⟩
        · rename_i a
          split at el
          · rename_i l' em
            cases el
            obtain rfl : x = V.ref a := d1
            obtain ⟨_, xs, ho, dl⟩ := s.cel a _ em
            obtain ⟨v, e1, e2⟩ := atI_dv dl ed
            exact .inl ⟨a, xs, i, v, rfl, rfl, SqL.of ho, e1, q F μ H d v Grow.refl s e2 h⟩
          · cases el
        · cases el
      · exact h.elim
    · exact h.elim
  · exact h.elim
/-- len of a list, a tuple -/
def fLen (ds : List D) (μ : Mu) (Q : D → Mu → Prop) : Prop := match ds with
  | [x] => match sv μ x with
    | some l => Q (.int (l.length : Nat)) μ
    | none => False
  | _ => False
theorem sv_ok {F H : Hp} {μ : Mu} {x : D} {v : V} {l : List D} (s : Sok K F μ H) (dv : DV K F x v) (e : sv μ x = some l) : ∃ a xs, v = .ref a ∧ (SqL K H a xs ∨ SqT K H a xs) ∧ DVs K F l xs := by
  have gH : Grow F H := s.sub
  unfold sv at e
  split at e
  · cases e
    obtain ⟨a, xs, rfl, r, dl⟩ := dv
    exact ⟨a, xs, rfl, .inr (gH.st r), dl⟩
  · cases e
    obtain ⟨a, xs, rfl, r, dl⟩ := dv
    exact ⟨a, xs, rfl, .inl (SqL.of (gH _ _ r)), dl⟩
  · rename_i a
    split at e
    · rename_i l' em
      cases e
      obtain rfl : v = V.ref a := dv
      obtain ⟨_, xs, ho, dl⟩ := s.cel a _ em
      exact ⟨a, xs, rfl, .inl (SqL.of ho), dl⟩
    · cases e
  · cases e
theorem dc_len : DCa K (fun xs H Q => ∃ p ys, xs = [.ref p] ∧ (SqL K H p ys ∨ SqT K H p ys) ∧ Q (.int ys.length) H) fLen := by
  intro F μ H vs ds Q0 Q s dv h q
  unfold fLen at h
  split at h
  · split at h
    · rename_i l el
      obtain ⟨v, r, rfl, d1, rfl⟩ := dv
      obtain ⟨a, xs, rfl, r, dl⟩ := sv_ok s d1 el
      exact ⟨a, xs, rfl, r, by rw [dl.len]; exact q F μ H (.int _) _ Grow.refl s rfl h⟩
    · exact h.elim
  · exact h.elim
/-- list(xs): a new cell -/
def fList (ds : List D) (μ : Mu) (Q : D → Mu → Prop) : Prop := match ds with
  | [x] => match sv μ x with
    | some l => ∀ p, μ p = none → Q (.mut p) (um μ p (.lst l))
    | none => False
  | _ => False
theorem dc_list : DCa K (fun xs H Q => ∃ p ys, xs = [.ref p] ∧ (SqL K H p ys ∨ SqT K H p ys) ∧ ∀ l, H l = none → Q (.ref l) (upd H l (.lst ys))) fList := by
  intro F μ H vs ds Q0 Q s dv h q
  unfold fList at h
  split at h
  · split at h
    · rename_i l el
      obtain ⟨v, r, rfl, d1, rfl⟩ := dv
      obtain ⟨a, xs, rfl, r, dl⟩ := sv_ok s d1 el
      refine ⟨a, xs, rfl, r, fun p hp => ?_⟩
      have f := s.free hp
      exact q F _ _ (.mut p) _ Grow.refl (s.cell (m := .lst l) f.1 ⟨xs, upd_same, dl⟩) rfl (h p f.2)
    · exact h.elim
  · exact h.elim
def fAbs (ds : List D) (μ : Mu) (Q : D → Mu → Prop) : Prop := match ds with
  | [.int i] => Q (.int (i.natAbs : Nat)) μ
  | _ => False
theorem dc_abs : DCa K (fun xs H Q => ∃ i, xs = [.int i] ∧ Q (.int (if i < 0 then -i else i)) H) fAbs := by
  intro F μ H vs ds Q0 Q s dv h q
  unfold fAbs at h
  split at h
  · rename_i i
    obtain ⟨v, r, rfl, d1, rfl⟩ := dv
    obtain rfl : v = V.int i := d1
    refine ⟨i, rfl, ?_⟩
    have e : (if i < 0 then -i else i) = (i.natAbs : Nat) := by split <;> omega
    rw [e]
    exact q F μ H (.int _) _ Grow.refl s rfl h
  · exact h.elim
def fInt (ds : List D) (μ : Mu) (Q : D → Mu → Prop) : Prop := match ds with
  | [.int i] => Q (.int i) μ
  | _ => False
theorem dc_int : DCa K (fun xs H Q => (∃ i, xs = [.int i] ∧ Q (.int i) H) ∨ ∃ k, xs = [.bl k] ∧ Q (.int (if k then 1 else 0)) H) fInt := by
  intro F μ H vs ds Q0 Q s dv h q
  unfold fInt at h
  split at h
  · rename_i i
    obtain ⟨v, r, rfl, d1, rfl⟩ := dv
    obtain rfl : v = V.int i := d1
    exact .inl ⟨i, rfl, q F μ H (.int _) _ Grow.refl s rfl h⟩
  · exact h.elim
/-- xs[i] = e of a cell -/
def fSetL (o i v : D) (μ : Mu) (N : Mu → Prop) : Prop := match o, i with
  | .mut a, .int k => match μ a with
    | some (.lst l) => match ixN l.length k with
      | some j => N (um μ a (.lst (l.set j v)))
      | none => False
    | _ => False
  | _, _ => False
theorem ds_setL : DSet K rSetL fSetL := by
  intro F μ H o i v do' di dv N0 N s d1 d2 d3 h q
  unfold fSetL at h
  split at h
  · rename_i a k
    split at h
    · rename_i l em
      split at h
      · rename_i j ej
        obtain rfl : o = V.ref a := d1
        obtain rfl : i = V.int k := d2
        obtain ⟨f, xs, ho, dl⟩ := s.cel a _ em
        refine ⟨a, xs, k, j, rfl, rfl, ho, by rw [dl.len]; exact ej, ?_⟩
        exact q F _ _ Grow.refl (s.cell (m := .lst _) f ⟨_, upd_same, dl.set j d3⟩) h
      · exact h.elim
    · exact h.elim
  · exact h.elim
/-- xs.append(e) -/
def fApp (o : D) (ds : List D) (μ : Mu) (Q : D → Mu → Prop) : Prop := match o, ds with
  | .mut a, [d] => match μ a with
    | some (.lst l) => l.length < 100000 ∧ Q .non (um μ a (.lst (l ++ [d])))
    | _ => False
  | _, _ => False
def fPop (o : D) (ds : List D) (μ : Mu) (Q : D → Mu → Prop) : Prop := match o, ds with
  | .mut a, [] => match μ a with
    | some (.lst l) => match l.getLast? with
      | some d => Q d (um μ a (.lst l.dropLast))
      | none => False
    | _ => False
  | _, _ => False
/-- a method of a cell that is a list -/
def wMeL (f : D → List D → Mu → (D → Mu → Prop) → Prop) (o : WEx) (a : WA) : WEx := fun ρ μ Q => o ρ μ fun x μ1 => (∃ p l, x = .mut p ∧ μ1 p = some (.lst l)) ∧ a ρ μ1 fun ds μ2 => f x ds μ2 Q
theorem ty_list {W : WX} {E : EX} {F H : Hp} {μ : Mu} {ρ : En} {σ : L2.St} {x : D} {v : V} (s : Sok K F μ H) (dv : DV K F x v) (h : ∃ p l, x = .mut p ∧ μ p = some (.lst l)) : tyV K "list" v H := by
  obtain ⟨p, l, rfl, e⟩ := h
  obtain rfl : v = V.ref p := dv
  obtain ⟨_, xs, ho, _⟩ := s.cel p _ e
  exact Or.inl ⟨rfl, xs, Or.inl (Or.inl ho)⟩
theorem dn_meL {W : WX} {E : EX} {r : V → List V → Hp → VK → Prop} {f : D → List D → Mu → (D → Mu → Prop) → Prop} {to : TE} {wo : WEx} {tas : TA} {was : WA} (hf : DMe K r f) (ho : Dn K W E to wo) (ha : DnA K W E tas was) : Dn K W E (tBM K "list" r to tas) (wMeL f wo was) := by
  intro F μ H ρ σ Q0 Q s h q
  refine ho F μ H ρ σ _ _ s h fun F1 μ1 H1 dx x g1 s1 dv1 ⟨hm, h1⟩ => ?_
  refine ⟨ty_list (W := W) (E := E) (ρ := ρ) (σ := σ) s1.ok dv1 hm, ha F1 μ1 H1 ρ σ _ _ s1 h1 fun F2 μ2 H2 ds vs g2 s2 dv2 h2 => ?_⟩
  refine hf F2 μ2 H2 x vs dx ds Q0 Q s2.ok (dv1.mono g2) dv2 h2 fun F3 μ3 H3 d v g3 s3 dv h3 => ?_
  exact q F3 μ3 H3 d v (g1.trans (g2.trans g3)) (s2.mono g3 s3) dv h3
theorem dn_meL0 {W : WX} {E : EX} {r : V → List V → Hp → VK → Prop} {f : D → List D → Mu → (D → Mu → Prop) → Prop} {to : TE} {wo : WEx} (hf : DMe K r f) (ho : Dn K W E to wo) : Dn K W E (tBM0 K "list" r to) (wMeL f wo wNil) := by
  intro F μ H ρ σ Q0 Q s h q
  refine ho F μ H ρ σ _ _ s h fun F1 μ1 H1 dx x g1 s1 dv1 ⟨hm, h1⟩ => ?_
  refine ⟨ty_list (W := W) (E := E) (ρ := ρ) (σ := σ) s1.ok dv1 hm, ?_⟩
  refine hf F1 μ1 H1 x [] dx [] Q0 Q s1.ok dv1 rfl h1 fun F3 μ3 H3 d v g3 s3 dv h3 => ?_
  exact q F3 μ3 H3 d v (g1.trans g3) (s1.mono g3 s3) dv h3
theorem dm_app : DMe K rAppend fApp := by
  intro F μ H x vs dx ds Q0 Q s d1 d2 h q
  unfold fApp at h
  split at h
  · rename_i a d
    split at h
    · rename_i l em
      obtain rfl : x = V.ref a := d1
      obtain ⟨y, r, rfl, dy, rfl⟩ := d2
      obtain ⟨f, xs, ho, dl⟩ := s.cel a _ em
      refine ⟨a, xs, y, rfl, rfl, ho, sz5l (by rw [dl.len]; exact h.1), ?_⟩
      exact q F _ _ .non _ Grow.refl (s.cell (m := .lst _) f ⟨_, upd_same, dl.append (DVs.cons dy DVs.nil)⟩) rfl h.2
    · exact h.elim
  · exact h.elim
theorem dm_pop : DMe K rPop fPop := by
  intro F μ H x vs dx ds Q0 Q s d1 d2 h q
  unfold fPop at h
  split at h
  · rename_i a
    split at h
    · rename_i l em
      split at h
      · rename_i d ed
        obtain rfl : x = V.ref a := d1
        obtain rfl : vs = [] := d2
        obtain ⟨f, xs, ho, dl⟩ := s.cel a _ em
        rw [List.getLast?_eq_getElem?] at ed
        obtain ⟨y, e1, dy⟩ := dl.get ed
        refine ⟨a, xs, y, rfl, rfl, ho, by rw [dl.len]; exact e1, ?_⟩
        exact q F _ _ d _ Grow.refl (s.cell (m := .lst _) f ⟨_, upd_same, dl.dropLast⟩) dy h
      · exact h.elim
    · exact h.elim
  · exact h.elim
end
end DL
set_option maxHeartbeats 4000000
namespace DL
open PySem L2 PySem.Spec PyProof.Rows

/-! ### syntax and what it does, over data -/
structure DE (X : Cx) (W : WX) (E : EX) (e : Expr) (t : TE) (w : WEx) : Prop where
  pe : PE X e t
  dn : Dn X.K W E t w
structure DT (X : Cx) (W : WX) (E : EX) (e : Expr) (t : TT) (w : WT) : Prop where
  pe : PT X e t
  dn : DnT X.K W E t w
structure DWt (X : Cx) (W : WX) (E : EX) (e : Expr) (t : TT) (w : WT) : Prop where
  pe : PW X e t
  dn : DnT X.K W E t w
structure DA (X : Cx) (W : WX) (E : EX) (es : List Expr) (t : TA) (w : WA) : Prop where
  pe : PA X es t
  dn : DnA X.K W E t w
structure DS (X : Cx) (W : WX) (E : EX) (st : Stmt) (t : TS) (w : WS) : Prop where
  pe : PS X st t
  dn : DnS X.K W E t w
structure DSs (X : Cx) (W : WX) (E : EX) (st : List Stmt) (t : TS) (w : WS) : Prop where
  pe : PSs X st t
  dn : DnS X.K W E t w
structure DGt (X : Cx) (W : WX) (E : EX) (e : Expr) (t : TG) (w : WG) : Prop where
  pe : PG X e t
  dn : DnG X.K W E t w
structure DGl (X : Cx) (W : WX) (E : EX) (es : List Expr) (t : TGs) (w : WGs) : Prop where
  pe : PGs X es t
  dn : DnGs X.K W E t w
structure DIt (X : Cx) (W : WX) (E : EX) (tg iter : Expr) (t : TI) (w : WI) : Prop where
  pe : PI X tg iter t
  dn : DnI X.K W E t w
section
variable {X : Cx} {W : WX} {E : EX} {a b c d e o i : Expr} {ta tb tc te td : TE} {wa wb wc we wd : WEx} {tt tu : TT} {wt wu : WT} {es : List Expr} {tas : TA} {was : WA} {ts tv : TS} {ws wv : WS} {g : TG} {wg : WG} {gs : TGs} {wgs : WGs} {pos : Pos} {st : Stmt} {p q r : List Stmt}
theorem ev (i : Nat) {x : Str} (hN : X.N[i]? = some x := by rfl) (hv : Vis X.env.scope x := by first | exact Or.inl rfl | exact Or.inr (Or.inl rfl) | exact Or.inr (Or.inr rfl)) (hd : (x == ("__debug__" : Str)) = false := by decide)
    (hcd : (x == ("__classdict__" : Str)) = false := by decide) : DE X W E (.Name x pos) (tVar i) (wVar i) := ⟨pe_var hN hv hd hcd, dn_var⟩
theorem ei {j : Int} {n} : DE X W E (.Constant (.int j) n pos) (tC (.int j)) (wC (.int j)) := ⟨pe_int, dn_int⟩
theorem eb {j : Bool} {n} : DE X W E (.Constant (.bool j) n pos) (tC (.bl j)) (wC (.bl j)) := ⟨pe_bl, dn_bl⟩
theorem en {n} : DE X W E (.Constant .none n pos) (tC .non) (wC .non) := ⟨pe_non, dn_non⟩
theorem es' {x : Str} {n} : DE X W E (.Constant (.str x) n pos) (tC (.str x)) (wC (.str x)) := ⟨pe_str, dn_str⟩
theorem eg {x : Str} {v : V} {u : Value} {dd : D} (hg : Gl X x) (hm : X.mg x = some u) (r : RelV v u) (hf : flat dd = true) (hv : toV dd = v) (hd : (x == ("__debug__" : Str)) = false := by decide) : DE X W E (.Name x pos) (tC v) (wC dd) :=
  ⟨pe_glob hg hm r hd, fun F μ H ρ σ Q0 Q s h q => q F μ H dd v Grow.refl s (by rw [← hv]; exact flat_dv hf) h⟩
theorem eo {op : Operator} {r : R2} {f : F2} (ho : OpR X (binaryOp op) r) (hf : DOp X.K r f) (ha : DE X W E a ta wa) (hb : DE X W E b tb wb) : DE X W E (.BinOp a op b pos) (tOp r ta tb) (wOp f wa wb) := ⟨pe_op ho ha.pe hb.pe, dn_op hf ha.dn hb.dn⟩
theorem eadd (ha : DE X W E a ta wa) (hb : DE X W E b tb wb) : DE X W E (.BinOp a .Add b pos) (tOp (rI0 fun i j => .int (i + j)) ta tb) (wOp fAdd wa wb) := eo op_add do_add ha hb
theorem esub (ha : DE X W E a ta wa) (hb : DE X W E b tb wb) : DE X W E (.BinOp a .Sub b pos) (tOp (rI0 fun i j => .int (i - j)) ta tb) (wOp fSub wa wb) := eo op_sub do_sub ha hb
theorem emul (ha : DE X W E a ta wa) (hb : DE X W E b tb wb) : DE X W E (.BinOp a .Mult b pos) (tOp (rI MulOk fun i j => .int (i * j)) ta tb) (wOp fMul wa wb) := eo op_mulA do_mul ha hb
theorem emod (ha : DE X W E a ta wa) (hb : DE X W E b tb wb) : DE X W E (.BinOp a .Mod b pos) (tOp (rI (fun _ j => 0 < j) fun i j => .int (i % j)) ta tb) (wOp fMod wa wb) := eo op_mod do_mod ha hb
theorem emodN (ha : DE X W E a ta wa) (hb : DE X W E b tb wb) : DE X W E (.BinOp a .Mod b pos) (tOp (rI (fun _ j => j ≠ 0) fun i j => .int (i.fmod j)) ta tb) (wOp fModN wa wb) := eo op_modN do_modN ha hb
theorem epow (ha : DE X W E a ta wa) (hb : DE X W E b tb wb) : DE X W E (.BinOp a .Pow b pos) (tOp (rI CPow fun i j => .int (i ^ j.toNat)) ta tb) (wOp fPow wa wb) := eo op_pow do_pow ha hb
theorem ediv (ha : DE X W E a ta wa) (hb : DE X W E b tb wb) : DE X W E (.BinOp a .FloorDiv b pos) (tOp (rI CDivW fun i j => .int (i / j)) ta tb) (wOp fDiv wa wb) := eo op_fdivW do_div ha hb
theorem eneg (ha : DE X W E a ta wa) : DE X W E (.UnaryOp .USub a pos) (tUn (rU fun i => .int (-i)) ta) (wUn fNeg wa) := ⟨pe_un un_neg ha.pe, dn_un du_neg ha.dn⟩
theorem ec {op : CmpOp} {r : R2} {f : F2} (ho : OpR X (compareOp op) r) (hf : DOp X.K r f) (ha : DE X W E a ta wa) (hb : DE X W E b tb wb) (hm : behindInMarks op b = false := by exact nomark _) : DE X W E (.Compare a [op] [b] pos) (tOp r ta tb) (wOp f wa wb) := ⟨pe_cmpR ho ha.pe hb.pe hm, dn_op hf ha.dn hb.dn⟩
theorem tc' {op : CmpOp} {r : R2} {f : F2} (ho : OpR X (compareOp op) r) (hf : DOp X.K r f) (ha : DE X W E a ta wa) (hb : DE X W E b tb wb) (hm : behindInMarks op b = false := by exact nomark _) : DT X W E (.Compare a [op] [b] pos) (tTest (tOp r ta tb)) (wTe (wOp f wa wb)) := ⟨pt_cmpR ho ha.pe hb.pe hm, dn_te (dn_op hf ha.dn hb.dn)⟩
theorem tval (h : DE X W E a ta wa) (he : ∀ whole, isTrue a X.env whole = (do let v ← whole; standAt a.pos; holding [v] (truthy v)) := by intro _; rfl) : DT X W E a (tB ta) (wTe wa) := ⟨pt_val h.pe he, dn_teB h.dn⟩
theorem tand1 (h : DT X W E a tt wt) : DWt X W E (.BoolOp .And [a] pos) tt wt := ⟨pw_and1 h.pe, h.dn⟩
theorem tor1 (h : DT X W E a tt wt) : DWt X W E (.BoolOp .Or [a] pos) tt wt := ⟨pw_or1 h.pe, h.dn⟩
theorem tand (h : DT X W E a tt wt) (h2 : DWt X W E (.BoolOp .And (b :: es) pos) tu wu) : DWt X W E (.BoolOp .And (a :: b :: es) pos) (tAnd tt tu) (wAnd wt wu) := ⟨pw_and h.pe h2.pe, dn_and h.dn h2.dn⟩
theorem tor (h : DT X W E a tt wt) (h2 : DWt X W E (.BoolOp .Or (b :: es) pos) tu wu) : DWt X W E (.BoolOp .Or (a :: b :: es) pos) (tOr tt tu) (wOr wt wu) := ⟨pw_or h.pe h2.pe, dn_or h.dn h2.dn⟩
theorem tbo (h : DWt X W E a tt wt) : DT X W E a tt wt := ⟨h.pe.pt, h.dn⟩
theorem tnot (h : DT X W E a tt wt) : DT X W E (.UnaryOp .Not a pos) (tNot tt) (wNot wt) := ⟨pt_not h.pe, dn_not h.dn⟩
theorem eone {op} (h : DE X W E a ta wa) : DE X W E (.BoolOp op [a] pos) ta wa := ⟨pe_one h.pe, h.dn⟩
theorem eand (h : DE X W E a ta wa) (h2 : DE X W E (.BoolOp .And (b :: es) pos) tb wb) : DE X W E (.BoolOp .And (a :: b :: es) pos) (tAndV ta tb) (wAndV wa wb) := ⟨pe_and h.pe h2.pe, dn_andV h.dn h2.dn⟩
theorem eor (h : DE X W E a ta wa) (h2 : DE X W E (.BoolOp .Or (b :: es) pos) tb wb) : DE X W E (.BoolOp .Or (a :: b :: es) pos) (tOrV ta tb) (wOrV wa wb) := ⟨pe_or h.pe h2.pe, dn_orV h.dn h2.dn⟩
theorem enot (h : DE X W E a ta wa) : DE X W E (.UnaryOp .Not a pos) (tNotV ta) (wNotV wa) := ⟨pe_not h.pe, dn_notV h.dn⟩
theorem eif (hc : DT X W E c tt wt) (ha : DE X W E a ta wa) (hb : DE X W E b tb wb) : DE X W E (.IfExp c a b pos) (tIf tt ta tb) (wIfE wt wa wb) := ⟨pe_ifExp hc.pe ha.pe hb.pe, dn_ifE hc.dn ha.dn hb.dn⟩
theorem anil : DA X W E [] tNil wNil := ⟨pa_nil, dn_nil⟩
theorem acons (ha : DE X W E e te we) (hr : DA X W E es tas was) (hs : starEach (e :: es) X.env = (false, eval e X.env) :: starEach es X.env := by rfl) : DA X W E (e :: es) (tCons te tas) (wCons we was) := ⟨pa_cons ha.pe hr.pe hs, dn_cons ha.dn hr.dn⟩
theorem etup {x1} (h : DA X W E es tas was) : DE X W E (.Tuple es x1 pos) (tTup tas) (wTup was) := ⟨pe_tup h.pe, dn_tup h.dn⟩
theorem elst (h : DA X W E es tas was) : DE X W E (.List es pos) (tLst tas) (wLst was) := ⟨pe_lst h.pe, dn_lst h.dn⟩
theorem elstF (h : DA X W E es tas was) : DE X W E (.List es pos) (tLst tas) (wLstF was) := ⟨pe_lst h.pe, dn_lstF h.dn⟩
theorem efrz (h : DE X W E a ta wa) : DE X W E a ta (wFrz wa) := ⟨h.pe, dn_frz h.dn⟩
theorem eix (ha : DE X W E a ta wa) (hb : DE X W E b tb wb) (hs : PlainIx b := by exact fun _ _ => rfl) : DE X W E (.Subscript a b pos) (tOp (rIx X.K) ta tb) (wOp fIx wa wb) := ⟨pe_ix ix_seq ha.pe hb.pe hs, dn_op do_ix ha.dn hb.dn⟩
theorem ecb {id : String} {x : Str} {r : List V → Hp → VK → Prop} {f : List D → Mu → (D → Mu → Prop) → Prop} {p : Pos} (hc : CallR X (.builtin id) r) (hf : DCa X.K r f) (hm : X.mg x = none) (ha : DA X W E (e :: es) tas was) (hg : Gl X x := by rfl) (hv : bootBuiltins x = some (.builtin id) := by decide +kernel) (hn : x ≠ "__name__" := by decide) (hdb : (x == ("__debug__" : Str)) = false := by decide)
    (hs : starEach (e :: es) X.env = (false, eval e X.env) :: starEach es X.env := by rfl) (hpl : (backTo pos (starEach es X.env)).any (·.1) = false := by rfl) :
    DE X W E (.Call (.Name x p) (e :: es) [] pos) (tCB r tas) (wCB f was) := ⟨pe_callB hc hg hm hv ha.pe hn hdb hs hpl, dn_cb hf ha.dn⟩
theorem ecty {T : String} {x : Str} {r : List V → Hp → VK → Prop} {f : List D → Mu → (D → Mu → Prop) → Prop} {p : Pos} (hc : CallR X (.type T) r) (hf : DCa X.K r f) (hm : X.mg x = none) (ha : DA X W E (e :: es) tas was) (hg : Gl X x := by rfl) (hv : bootBuiltins x = some (.type T) := by decide +kernel) (hn : x ≠ "__name__" := by decide) (hdb : (x == ("__debug__" : Str)) = false := by decide)
    (hs : starEach (e :: es) X.env = (false, eval e X.env) :: starEach es X.env := by rfl) (hpl : (backTo pos (starEach es X.env)).any (·.1) = false := by rfl) :
    DE X W E (.Call (.Name x p) (e :: es) [] pos) (tCB r tas) (wCB f was) := ⟨pe_callTy hc hg hm hv ha.pe hn hdb hs hpl, dn_cb hf ha.dn⟩
/-! ### statements -/
theorem snil : DSs X W E [] tNext wNext := ⟨pss_nil, dn_next⟩
theorem scons (h1 : DS X W E st ts ws) (h2 : DSs X W E p tv wv) : DSs X W E (st :: p) (tSeq ts tv) (wSeq ws wv) := ⟨pss_cons h1.pe h2.pe, dn_seq h1.dn h2.dn⟩
theorem sone (h1 : DS X W E st ts ws) : DSs X W E [st] ts ws := ⟨pss_one h1.pe, h1.dn⟩
theorem spass : DS X W E (.Pass pos) tNext wNext := ⟨ps_pass, dn_next⟩
theorem sbrk : DS X W E (.Break pos) tBreak wBrk := ⟨ps_break, dn_brk⟩
theorem scnt : DS X W E (.Continue pos) tCont wCnt := ⟨ps_continue, dn_cnt⟩
theorem sret (h : DE X W E a ta wa) : DS X W E (.Return (some a) pos) (tRet ta) (wRet wa) := ⟨ps_ret h.pe, dn_ret h.dn⟩
theorem sretN : DS X W E (.Return none pos) tRetN wRetN := ⟨ps_retN, dn_retN⟩
theorem sexpr (h : DE X W E a ta wa) (hs : swapsWith a none pos.line X.env = pure false := by rfl) : DS X W E (.Expr a pos) (tDrop ta) (wDrop wa) := ⟨ps_expr h.pe hs, dn_drop h.dn⟩
theorem sif (hc : DT X W E c tt wt) (h1 : DSs X W E p ts ws) (h2 : DSs X W E q tv wv) : DS X W E (.If c p q pos) (tIfS tt ts tv) (wIf wt ws wv) := ⟨ps_if hc.pe h1.pe h2.pe, dn_if hc.dn h1.dn h2.dn⟩
theorem sset {i : Nat} {x : Str} {pos' : Pos} (h : DE X W E a ta wa) (hN : X.N.Nodup) (hi : X.N[i]? = some x := by rfl) (hx : Loc X.env.scope x := by first | exact Or.inl rfl | exact Or.inr rfl) (hs : swapsWith a (some (.Name x pos')) pos.line X.env = pure false := by rfl) (hf : X.fn x = true ∨ X.env.scope.names.lookup x = some .local := by first | exact .inl rfl | exact .inr rfl) :
    DS X W E (.Assign [.Name x pos'] a pos) (tAsg ta (gName i)) (wAsg wa (gN i)) := ⟨ps_set hN hi hx h.pe hs hf, dn_asg h.dn dg_name⟩
theorem sasg {tg : Expr} (h : DE X W E a ta wa) (hg : DGt X W E tg g wg) (hs : swapsWithSole [tg] a pos.line X.env = pure false := by rfl) (hw : swappedStores [tg] a X.env = pure none := by rfl) (h1 : (assignEach [tg] X.env).map (·.2) = [assign tg X.env] := by rfl) : DS X W E (.Assign [tg] a pos) (tAsg ta g) (wAsg wa wg) := ⟨ps_asg h.pe hg.pe hs hw h1, dn_asg h.dn hg.dn⟩
theorem gnm (i : Nat) {x : Str} (hN : X.N.Nodup) (hi : X.N[i]? = some x := by rfl) (hx : Loc X.env.scope x := by first | exact Or.inl rfl | exact Or.inr rfl) (hf : X.fn x = true ∨ X.env.scope.names.lookup x = some .local := by first | exact .inl rfl | exact .inr rfl) : DGt X W E (.Name x pos) (gName i) (gN i) := ⟨pg_name hN hi hx hf, dg_name⟩
theorem gnl : DGl X W E [] gNil gNl := ⟨pgs_nil, dg_nil⟩
theorem gcn (h1 : DGt X W E e g wg) (h2 : DGl X W E es gs wgs) (hs : (assignEach (e :: es) X.env).map (·.2) = assign e X.env :: (assignEach es X.env).map (·.2) := by rfl) : DGl X W E (e :: es) (gCons g gs) (gCn wg wgs) := ⟨pgs_cons h1.pe h2.pe hs, dg_cons h1.dn h2.dn⟩
theorem gsl (ho : DE X W E o ta wa) (hi : DE X W E i tb wb) (hp : PE X o ta → PE X i tb → PG X (.Subscript o i pos) (gSub ta tb rSetL) := by exact fun x y => pg_sub x y set_list) : DGt X W E (.Subscript o i pos) (gSub ta tb rSetL) (gSb fSetL wa wb) := ⟨hp ho.pe hi.pe, dg_sub ds_setL ho.dn hi.dn⟩
theorem gtp {n k : Nat} (h : DGl X W E es gs wgs) (hc : X.calm = true := by rfl) (hn : (assignEach es X.env).length = n := by rfl) (hst : (assignEach es X.env).findIdx? (·.1) = none := by rfl) : DGt X W E (.Tuple es k pos) (gTup X.K n gs) (gTp n wgs) := ⟨pg_tup hc h.pe hn hst, dg_tup h.dn⟩
theorem spar {i j : Nat} {x y : Str} {px py pt : Pos} {kt k2 pt2} (ha : DA X W E [a, b] tas was) (hN : X.N.Nodup) (hi : X.N[i]? = some x := by rfl) (hj : X.N[j]? = some y := by rfl) (hij : i ≠ j := by decide)
    (hx : X.env.scope.names.lookup x = some .local := by rfl) (hy : X.env.scope.names.lookup y = some .local := by rfl) (hc : X.calm = true := by rfl)
    (hw : swappedStores [.Tuple [.Name x px, .Name y py] kt pt] (.Tuple [a, b] k2 pt2) X.env = pure (some [x, y]) := by rfl)
    (hs : swapsWithSole [.Tuple [.Name x px, .Name y py] kt pt] (.Tuple [a, b] k2 pt2) pos.line X.env = pure false := by rfl) :
    DS X W E (.Assign [.Tuple [.Name x px, .Name y py] kt pt] (.Tuple [a, b] k2 pt2) pos) (tPar i j tas) (wPar i j was) := ⟨ps_par hc hN hi hj hij hx hy ha.pe hw hs, dn_par ha.dn⟩
theorem swhile (hp : PassesOwn (model X.prog X.w) X.A X.env X.xe) (hc : DT X W E c tt wt) (hb : DSs X W E p ts ws) : DS X W E (.While c p [] pos) (tWhile tt ts) (wWhile wt ws) := ⟨ps_while hp hc.pe hb.pe, dn_while hc.dn hb.dn⟩
theorem sfor {ti : TI} {wi : WI} {tg it : Expr} (hp : PassesOwn (model X.prog X.w) X.A X.env X.xe) (hi : DIt X W E tg it ti wi) (hg : DGt X W E tg g wg) (hb : DSs X W E p ts ws) (hc : X.calm = true := by rfl) (hs : ∀ x, foldedSetIterable it X.env x = pure x := by intro _; rfl) :
    DS X W E (.For tg it p [] pos) (tFor ti g ts) (wFor wi wg ws) := ⟨ps_for hp hc hi.pe hg.pe hb.pe hs, dn_for hi.dn hg.dn hb.dn⟩
theorem il {tg : Expr} (h : DE X W E a ta wa) : DIt X W E tg a (iList X.K ta) (iLs wa) := ⟨pi_list h.pe, di_list h.dn⟩
theorem it {tg : Expr} (h : DE X W E a ta wa) : DIt X W E tg a (iTup X.K ta) (iTp wa) := ⟨pi_tup h.pe, di_tup h.dn⟩
theorem ir1 {tg : Expr} {p' : Pos} (hm : X.mg "range" = none) (h : DA X W E [a] tas was) (hg : Gl X "range" := by rfl) (hs : starEach [a] X.env = [(false, eval a X.env)] := by rfl) : DIt X W E tg (.Call (.Name "range" p') [a] [] pos) (iRng1 tas) (iR1 was) := ⟨pi_range1 hg hm h.pe hs, di_r1 h.dn⟩
theorem ir2 {tg : Expr} {p' : Pos} (hm : X.mg "range" = none) (h : DA X W E [a, b] tas was) (hg : Gl X "range" := by rfl) (hs : starEach [a, b] X.env = [(false, eval a X.env), (false, eval b X.env)] := by rfl) (hs2 : starEach [b] X.env = [(false, eval b X.env)] := by rfl) : DIt X W E tg (.Call (.Name "range" p') [a, b] [] pos) (iRng2 tas) (iR2 was) := ⟨pi_range2 hg hm h.pe hs hs2, di_r2 h.dn⟩
theorem emeL {id m : String} {name : Str} {r : V → List V → Hp → VK → Prop} {f : D → List D → Mu → (D → Mu → Prop) → Prop} {apos : Pos} (slot : Slot "list" name id) (hty : typeOf (.builtin id) = pure (.type "method_descriptor")) (hm : MtR X id r) (hf : DMe X.K r f) (ho : DE X W E o ta wa) (ha : DA X W E (e :: es) tas was)
    (hp : PlainAttrs "list" → Slot "list" name id → typeOf (.builtin id) = pure (.type "method_descriptor") → MtR X id r → PE X o ta → PA X (e :: es) tas → PE X (.Call (.Attribute o name apos) (e :: es) [] pos) (tBM X.K "list" r ta tas) := by exact fun a b c d e f => pe_bm a b c d e f) :
    DE X W E (.Call (.Attribute o name apos) (e :: es) [] pos) (tBM X.K "list" r ta tas) (wMeL f wa was) := ⟨hp PySem.F.plainAttrs_list slot hty hm ho.pe ha.pe, dn_meL hf ho.dn ha.dn⟩
theorem eapp {apos : Pos} (ho : DE X W E o ta wa) (ha : DA X W E (e :: es) tas was)
    (hp : PlainAttrs "list" → Slot "list" "append" "list.append" → typeOf (.builtin "list.append") = pure (.type "method_descriptor") → MtR X "list.append" rAppend → PE X o ta → PA X (e :: es) tas → PE X (.Call (.Attribute o "append" apos) (e :: es) [] pos) (tBM X.K "list" rAppend ta tas) := by exact fun a b c d e f => pe_bm a b c d e f) :
    DE X W E (.Call (.Attribute o "append" apos) (e :: es) [] pos) (tBM X.K "list" rAppend ta tas) (wMeL fApp wa was) := ⟨hp PySem.F.plainAttrs_list PySem.F.slot_list_append PySem.F.type_list_append mt_append ho.pe ha.pe, dn_meL dm_app ho.dn ha.dn⟩
theorem epop {apos : Pos} (ho : DE X W E o ta wa)
    (hp : PlainAttrs "list" → Slot "list" "pop" "list.pop" → typeOf (.builtin "list.pop") = pure (.type "method_descriptor") → MtR X "list.pop" rPop → PE X o ta → PE X (.Call (.Attribute o "pop" apos) [] [] pos) (tBM0 X.K "list" rPop ta) := by exact fun a b c d e => pe_bm0 a b c d e) :
    DE X W E (.Call (.Attribute o "pop" apos) [] [] pos) (tBM0 X.K "list" rPop ta) (wMeL fPop wa wNil) := ⟨hp PySem.F.plainAttrs_list PySem.F.slot_list_pop PySem.F.type_list_pop mt_pop ho.pe, dn_meL0 dm_pop ho.dn⟩
end

/-! ### truth of values -/
/-- the truth of data -/
def truD (μ : Mu) : D → Option Bool
  | .non => some false
  | .bl b => some b
  | .int i => some (i != 0)
  | .tup l => some (!l.isEmpty)
  | .lst l => some (!l.isEmpty)
  | .mut a => match μ a with
    | some (.lst l) => some (!l.isEmpty)
    | some (.dK l) => some (!l.isEmpty)
    | _ => none
  | _ => none
def wTr (a : WEx) : WT := fun ρ μ Q => a ρ μ fun d μ1 => match truD μ1 d with
  | some b => Q b μ1
  | none => False
theorem isE_dvs {K : PySem.W.Frag} {F : Hp} {l : List D} {xs : List V} (h : DVs K F l xs) : xs.isEmpty = l.isEmpty := by
  cases l with
  | nil => rw [show xs = [] from h]; rfl
  | cons d l => obtain ⟨v, vs, rfl, _⟩ := h; rfl
theorem tru_ok' {K : PySem.W.Frag} {F H : Hp} {μ : Mu} {d : D} {v : V} {b : Bool} (s : Sok K F μ H) (dv : DV K F d v) (h : truD μ d = some b) : TruV K v H b := by
  have gH : Grow F H := s.sub
  cases d with
  | non => rw [show v = V.non from dv]; cases h; rfl
  | bl x => rw [show v = V.bl x from dv]; cases h; rfl
  | int x => rw [show v = V.int x from dv]; cases h; rfl
  | str x => cases h
  | tup l => obtain ⟨a, xs, rfl, r, dl⟩ := dv; cases h; exact .inr (.inl ⟨xs, gH.st r, by rw [isE_dvs dl]⟩)
  | lst l => obtain ⟨a, xs, rfl, r, dl⟩ := dv; cases h; exact .inl ⟨xs, SqL.of (gH _ _ r), by rw [isE_dvs dl]⟩
  | lsr l => cases h
  | dK k l => cases h
  | dT k l => cases h
  | ins C k l => cases h
  | «mut» a =>
    obtain rfl : v = V.ref a := dv
    have h : (match μ a with
      | some (.lst l) => some (!l.isEmpty)
      | some (.dK l) => some (!l.isEmpty)
      | _ => none) = some b := h
    split at h
    · rename_i l e
      obtain ⟨_, xs, ho, dl⟩ := s.cel a _ e
      cases h
      exact .inl ⟨xs, SqL.of ho, by rw [isE_dvs dl]⟩
    · rename_i l e
      obtain ⟨_, xs, ho, dl⟩ := s.cel a _ e
      cases h
      refine .inr (.inr ⟨xs, ho, ?_⟩)
      have hl : xs.length = l.length := by have := congrArg List.length dl.1; simpa using this
      cases xs <;> cases l <;> first | rfl | (simp at hl)
    · cases h
theorem dn_tru {K : PySem.W.Frag} {W : WX} {E : EX} {ta : TE} {wa : WEx} (ha : Dn K W E ta wa) : DnT K W E (fun σ H Q => ta σ H fun x H' => ∃ k, TruV K x H' k ∧ Q k H') (wTr wa) := by
  intro F μ H ρ σ Q0 Q s h q
  refine ha F μ H ρ σ _ _ s h fun F1 μ1 H1 dx x g1 s1 dv1 h1 => ?_
  split at h1
  · rename_i b e
    exact ⟨b, tru_ok' s1.ok dv1 e, q F1 μ1 H1 b g1 s1 h1⟩
  · exact h1.elim
theorem ttru {X : Cx} {W : WX} {E : EX} {a : Expr} {ta : TE} {wa : WEx} (h : DE X W E a ta wa) (he : ∀ whole, isTrue a X.env whole = (do let v ← whole; standAt a.pos; holding [v] (truthy v)) := by intro _; rfl) : DT X W E a (fun σ H Q => ta σ H fun x H' => ∃ k, TruV X.K x H' k ∧ Q k H') (wTr wa) := ⟨pt_truth h.pe he, dn_tru h.dn⟩

/-! ### what a def promises, over data -/
/-- arguments, cells, what is wanted of the answer, of an exception (its class, its fields) -/
abbrev Ct := List D → Mu → (D → Mu → Prop) → (Addr → List (Str × D) → Mu → Prop) → Prop
def dwn (Q : D → Mu → Prop) (d : D) (μ : Mu) : Prop := ∃ μ', le μ' μ ∧ Q d μ'
def dwx (E : Addr → List (Str × D) → Mu → Prop) (C : Addr) (fs : List (Str × D)) (μ : Mu) : Prop := ∃ μ', le μ' μ ∧ E C fs μ'
theorem dwn.of {Q : D → Mu → Prop} {d : D} {μ : Mu} (h : Q d μ) : dwn Q d μ := ⟨μ, le.refl, h⟩
theorem dwx.of {E : Addr → List (Str × D) → Mu → Prop} {C : Addr} {fs : List (Str × D)} {μ : Mu} (h : E C fs μ) : dwx E C fs μ := ⟨μ, le.refl, h⟩
def spD (K : PySem.W.Frag) (c : Ct) : Sp := fun vs H Q Ex => ∃ F μ ds Q0 E0, Sok K F μ H ∧ DVs K F ds vs ∧ c ds μ Q0 E0 ∧
  (∀ F' μ' H' d v, Grow F F' → Sok K F' μ' H' → DV K F' d v → dwn Q0 d μ' → Q v H') ∧ ∀ F' μ' H' C dd fs, Grow F F' → Sok K F' μ' H' → ExD K F' dd fs → dwx E0 C fs μ' → Ex (.ref C) dd H'
/-- a call -/
def wCall (c : Ct) (E : EX) (a : WA) : WEx := fun ρ μ Q => a ρ μ fun ds μ1 => c ds μ1 Q fun C fs μ2 => E C fs ρ μ2
section
variable {X : Cx} {W : WX} {E : EX} {k : Nat} {f : Addr} {fd : FuncData} {ps : List Str} {c : Ct} {x : Str} {p pos : Pos} {e : Expr} {es : List Expr} {tas : TA} {was : WA}
theorem dn_call {K : PySem.W.Frag} (ha : DnA K W E tas was) : Dn K W E (tCallS (spD K c) (WE W) tas) (wCall c E was) := by
  intro F μ H ρ σ Q0 Q s h q
  refine ha F μ H ρ σ _ _ s h fun F1 μ1 H1 ds vs g1 s1 dv h1 => ?_
  refine ⟨F1, μ1, ds, _, _, s1.ok, dv, h1, fun F2 μ2 H2 d v g2 s2 dv2 ⟨μ3, l, h2⟩ => ?_, fun F2 μ2 H2 C dd fs g2 s2 ex ⟨μ3, l, h2⟩ => ?_⟩
  · exact q F2 μ3 H2 d v (g1.trans g2) ((s1.mono g2 s2).weak l) dv2 h2
  · exact s1.wok F2 μ3 H2 ρ σ C dd fs g2 (s2.weak l) (s1.env.mono g2) ex h2
theorem ecall (tk : L2N.Takes X W) (F : FnOk X.prog X.w X.K X.mg X.base (L2N.CX X.prog X.w) k f fd ps (spD X.K c)) (hr : Room k X.A) (hm : X.mg x = some (.ref f)) (hk : PySem.W.keepIn X.K (.ref f) = true) (hb : Binds X.K fd ps []) (ha : DA X W E (e :: es) tas was)
    (hg : Gl X x := by rfl) (hdb : (x == ("__debug__" : Str)) = false := by decide) (he : starEach (e :: es) X.env = (false, eval e X.env) :: starEach es X.env := by rfl) (hpl : (backTo pos (starEach es X.env)).any (·.1) = false := by rfl) :
    DE X W E (.Call (.Name x p) (e :: es) [] pos) (tCallS (spD X.K c) (WE W) tas) (wCall c E was) := ⟨pe_callS F hr hg hm hk hb (fun σ => L2N.passAt tk σ) ha.pe hdb he hpl, dn_call ha.dn⟩
end
/-- the slots at a def's entry -/
def st0 (n : Nat) (ds : List D) : En := ds.map some ++ List.replicate (n - ds.length) none
theorem env_start {K : PySem.W.Frag} {F : Hp} {N : List Str} {ds : List D} {vs : List V} (h : DVs K F ds vs) (hl : ds.length ≤ N.length) : EnvOk K F (st0 N.length ds) (L2.start N vs) := by
  have el := h.len
  refine ⟨?_, fun i d e => ?_⟩
  · unfold st0 L2.start
    rw [List.length_append, List.length_append, List.length_map, List.length_map, List.length_replicate, List.length_replicate, el]
  · unfold st0 at e
    by_cases hi : i < ds.length
    · rw [List.getElem?_append_left (by simpa using hi), List.getElem?_map] at e
      cases q : ds[i]? with
      | none => rw [q] at e; cases e
      | some d' =>
        rw [q] at e; cases e
        obtain ⟨v, e1, dv⟩ := h.get q
        refine ⟨v, ?_, dv⟩
        unfold L2.start
        rw [List.getElem?_append_left (by simp [el, hi]), List.getElem?_map, e1]
        rfl
    · rw [List.getElem?_append_right (by simpa using hi), List.getElem?_replicate] at e
      split at e <;> cases e
def rets (Q : D → Mu → Prop) : DEnds := { nx := fun _ μ => dwn Q .non μ, rt := fun d μ => dwn Q d μ }
section
variable {P : Program} {w : World} {K : PySem.W.Frag} {mg : Str → Option Value} {base : Heap}
/-- THE RULE for a def -/
theorem okD {x qual : Str} {st : Stmt} {f : Addr} {fd : FuncData} {N ps : List Str} {k : Nat} {c : Ct} (F : Fun K x qual st f fd) (S : FnScope N ps (defScope st)) (hn : ps.length ≤ N.length) (hl : ∀ ds μ Q E, c ds μ Q E → ds.length = ps.length)
    (hb : ∀ (X : Cx) (W : WX) (E : EX) (cdv : Value) (A : Around) (outer : List Env) (s : Shared) (H : Hp) (Ex : XK), X = cxOf (L2N.CX P w) P w K mg base N qual (defScope st) f cdv A outer s H Ex → L2N.Takes X W → PassesOwn (model X.prog X.w) X.A X.env X.xe → Room k X.A →
      ∃ t ws, DSs X W E (defBody st) t ws ∧ ∀ ds μ Q E0, c ds μ Q E0 → E = (fun C fs _ μ => dwx E0 C fs μ) → ws (rets Q) (st0 N.length ds) μ) : FnOk P w K mg base (L2N.CX P w) (k + 1) f fd ps (spD K c) := by
  obtain ⟨oc, od, kV, dc, pm, an, cdv, ct, sl, rfl, lk, hcd⟩ := F.ex
  refine fn_of lk hcd S (fun vs H Q E h => ?_) (fun A outer s H vs Q Ex hr h => ?_)
  · obtain ⟨F, μ, ds, Q0, E0, _, dv, hc, _⟩ := h
    rw [dv.len]; exact hl _ _ _ _ hc
  · obtain ⟨F0, μ, ds, Q0, E0, sk, dv, hc, hq, he⟩ := h
    obtain ⟨t, ws, hd, hw⟩ := hb _ (fun cls d _ H => Ex cls d H) (fun C fs _ μ => dwx E0 C fs μ) cdv A outer s H Ex rfl (L2N.takes_of rfl rfl rfl rfl) (passes_of rfl) hr
    refine ⟨t, hd.pe, hd.dn F0 μ H _ _ (rets Q0) _ ⟨sk, env_start dv (by rw [hl _ _ _ _ hc]; exact hn), fun F' μ' H' ρ σ C d fs g s' _ ex h' => he F' μ' H' C d fs g s' ex h'⟩ (hw ds μ Q0 E0 hc rfl) ⟨fun F' μ' H' ρ' σ' g s' h' => ?_, fun F' μ' H' d v g s' dv' h' => ?_, fun F' μ' H' ρ' σ' g s' h' => ?_, fun F' μ' H' ρ' σ' g s' h' => ?_⟩⟩
    · exact hq F' μ' H' .non .non g s'.ok rfl h'
    · exact hq F' μ' H' d v g s' dv' h'
    · exact h'.elim
    · exact h'.elim
end

/-! ### raise, try -/
/-- raise C() -/
def wRaise (C : Addr) (E : EX) : WS := fun _ ρ μ => E C [] ρ μ
theorem sraise0 {X : Cx} {W : WX} {E : EX} {C : Addr} {e : Expr} {pos : Pos} (tk : L2N.Takes X W) (hp : L2N.PMk X e (fun _ H Q => Q (.ref C) none H)) (hc : X.calm = true := by rfl) : DS X W E (.Raise (some e) none pos) (fun _ σ H => W (.ref C) none σ H) (wRaise C E) :=
  ⟨L2N.ps_raise hc tk hp, fun F μ H ρ σ D0 Ds s h e => s.wok F μ H ρ σ C none [] Grow.refl s.ok s.env (.inl ⟨rfl, rfl⟩) h⟩
end DL
set_option maxHeartbeats 4000000
namespace DL
open PySem L2 PySem.Spec PyProof.Rows

/-! ### defs by their names -/
structure DfOk (P : Program) (w : World) (K : PySem.W.Frag) (mg : Str → Option Value) (base : Heap) (x : Str) (k : Nat) (ps : List Str) (c : Ct) : Prop where
  ex : ∃ f fd, FnOk P w K mg base (L2N.CX P w) k f fd ps (spD K c) ∧ mg x = some (.ref f) ∧ PySem.W.keepIn K (.ref f) = true ∧ Binds K fd ps []
structure Dfn (K : PySem.W.Frag) (mg : Str → Option Value) (x qual : Str) (st : Stmt) (ps : List Str) : Prop where
  ex : ∃ f fd, Fun K x qual st f fd ∧ mg x = some (.ref f) ∧ Binds K fd ps []
section
variable {X : Cx} {W : WX} {E : EX} {k : Nat} {ps : List Str} {c : Ct} {x : Str} {p pos : Pos} {e : Expr} {es : List Expr} {tas : TA} {was : WA}
theorem ecall2 (tk : L2N.Takes X W) (h : DfOk X.prog X.w X.K X.mg X.base x k ps c) (hr : Room k X.A) (ha : DA X W E (e :: es) tas was)
    (hg : Gl X x := by rfl) (hdb : (x == ("__debug__" : Str)) = false := by decide) (he : starEach (e :: es) X.env = (false, eval e X.env) :: starEach es X.env := by rfl) (hpl : (backTo pos (starEach es X.env)).any (·.1) = false := by rfl) :
    DE X W E (.Call (.Name x p) (e :: es) [] pos) (tCallS (spD X.K c) (WE W) tas) (wCall c E was) := by
  obtain ⟨f, fd, G, hm, hk, hb⟩ := h.ex
  exact ecall tk G hr hm hk hb ha hg hdb he hpl
end

/-! ### an own exception class without __init__ -/
structure Xc (K : PySem.W.Frag) (mg : Str → Option Value) (x : Str) (C : Addr) : Prop where
  g : mg x = some (.ref C)
  k : PySem.W.keepIn K (.ref C) = true
  q : PySem.W.excIn K C [.type "ValueError", .type "Exception", .type "BaseException", .type "object"] "ValueError.__new__" = true
  b : PySem.W.subIn K (.ref C) (.type "BaseException") = some true
  t : PySem.W.typeIn K (.ref C) = some (.type "type")
theorem pmk_own0 {X : Cx} {C : Addr} {x : Str} {p pos : Pos} (T : Xc X.K X.mg x C) (hg : Gl X x := by rfl) (hdb : (x == ("__debug__" : Str)) = false := by decide) : L2N.PMk X (.Call (.Name x p) [] [] pos) (fun _ H Q => Q (.ref C) none H) := by
  intro pins s σ H Q I h
  refine wpAny_Call_Name_kw (ld_glob I hg T.g ?_ hdb)
  refine PySem.W.callWith_K0 I.kIn T.k ?_
  obtain ⟨bm, N, nm, qn, bs, hdct, sn, sub, ab, col, dd, k0, k1, k2, k3, k5, mN, hC, hN, hni, U⟩ := exc_obj I.kIn T.q
  obtain ⟨hp1, g1, d1, tk1, os1⟩ := s
  show wpAny _ _ (call (.ref C) []) _ _ _
  exact wpAny_call_exc_subT PySem.F.excBase_ValueError U hC hN hni (fun h' e' hm => L2N.mk_of I hm (raises_own T.b T.t) h (I.hok.gone hm.new)) (Nat.zero_le _)
end DL
set_option maxHeartbeats 4000000
namespace DL
open PySem L2 PySem.Spec PyProof.Rows
/-! ### words for the pure part -/
theorem if_dec {p : Prop} [Decidable p] {a b : Prop} : (if decide p = true then a else b) = (if p then a else b) := by simp only [decide_eq_true_eq]
theorem atI_0 {α : Type} {l : List α} {i : Nat} : atI l (i : Int) = l[i]? := by
  unfold atI ixN
  rw [if_pos (by omega)]
  by_cases h : (i : Int) < l.length
  · rw [if_pos h]; simp
  · rw [if_neg h, List.getElem?_eq_none (by omega)]; rfl
theorem atI_c0 {α : Type} {a : α} {l : List α} : atI (a :: l) 0 = some a := atI_0 (i := 0)
theorem atI_c1 {α : Type} {a b : α} {l : List α} : atI (a :: b :: l) 1 = some b := atI_0 (i := 1)
theorem atI_c2 {α : Type} {a b c : α} {l : List α} : atI (a :: b :: c :: l) 2 = some c := atI_0 (i := 2)
theorem atI_c3 {α : Type} {a b c d : α} {l : List α} : atI (a :: b :: c :: d :: l) 3 = some d := atI_0 (i := 3)
theorem atI_c4 {α : Type} {a b c d e : α} {l : List α} : atI (a :: b :: c :: d :: e :: l) 4 = some e := atI_0 (i := 4)
theorem atI_c5 {α : Type} {a b c d e f : α} {l : List α} : atI (a :: b :: c :: d :: e :: f :: l) 5 = some f := atI_0 (i := 5)
theorem atI_c6 {α : Type} {a b c d e f g : α} {l : List α} : atI (a :: b :: c :: d :: e :: f :: g :: l) 6 = some g := atI_0 (i := 6)
theorem ixN_70 : ixN 7 0 = some 0 := rfl
theorem ixN_71 : ixN 7 1 = some 1 := rfl
theorem ixN_72 : ixN 7 2 = some 2 := rfl
theorem ixN_73 : ixN 7 3 = some 3 := rfl
theorem ixN_74 : ixN 7 4 = some 4 := rfl
theorem ixN_75 : ixN 7 5 = some 5 := rfl
theorem ixN_76 : ixN 7 6 = some 6 := rfl
theorem ite_T {a b : Prop} : (if true = true then a else b) = a := by simp
theorem ite_F {a b : Prop} : (if false = true then a else b) = b := by simp
theorem eqF_int {a b : Int} : eqF (.int a) (.int b) = decide (a = b) := by show (a == b) = _; by_cases h : a = b <;> simp [h]
theorem eqF_bl {a b : Bool} : eqF (.bl a) (.bl b) = (a == b) := rfl
theorem eqF_str {a b : Str} : eqF (.str a) (.str b) = decide (a = b) := by show (a == b) = _; by_cases h : a = b <;> simp [h]
theorem scal_int {a b : Int} : scalD (.int a) (.int b) = true := rfl
theorem scal_bl {a b : Bool} : scalD (.bl a) (.bl b) = true := rfl
theorem scal_str {a b : Str} : scalD (.str a) (.str b) = true := rfl
theorem if_ndec {p : Prop} [Decidable p] {a b : Prop} : (if (!decide p) = true then a else b) = (if p then b else a) := by by_cases h : p <;> simp [h]
theorem if_nb {p : Bool} {a b : Prop} : (if (!p) = true then a else b) = (if p = true then b else a) := by cases p <;> simp

/-! ### division of any size -/
theorem op_fdivG {X : Cx} (PR : ∀ pins σ H s, Inv X pins σ H s → PylongRoom (model X.prog X.w) X.A s) : OpR X (binaryOp .FloorDiv) (rI (fun _ j => j ≠ 0) fun i j => .int (i.fdiv j)) := by
  intro pins s σ H x y v u Q I rx ry h
  obtain ⟨i, j, rfl, rfl, hj, q⟩ := h
  obtain ⟨t, rfl⟩ := rx
  obtain ⟨t', rfl⟩ := ry
  exact PyProof.Rows.floordiv_int hj ⟨.int _, H, I.tok _, ⟨_, rfl⟩, q⟩ (.inr (PR pins σ H s I))
def fDivG : F2 := fI (fun _ j => j ≠ 0) fun i j => .int (i.fdiv j)
theorem do_divG {K : PySem.W.Frag} : DOp K (rI (fun _ j => j ≠ 0) fun i j => .int (i.fdiv j)) fDivG := do_I fun _ _ => rfl
theorem pyroom {X : Cx} (hS : X.base.NoSeer) (ht : X.prog.given.tree = none) (hst : X.stack = X.env :: X.outer) (hgen : X.env.scope.isGenerator = false) (hco : X.env.scope.isCoroutine = false) (hr : Room 35 X.A) :
    ∀ pins σ H s, Inv X pins σ H s → PylongRoom (model X.prog X.w) X.A s := fun pins σ H s I => by
  have hd : X.A.depth + Builtin.pylongFrames < recursionLimit := by
    have := hr.dp
    have e : Builtin.pylongFrames = 100 := rfl
    omega
  exact PylongRoom.of I.nolimit hd (SeerAt.of (hS.keeps I.bk) ht (by rw [I.ok.frames, hst]) hgen hco I.ok.blt I.ok.glob)
section
variable {X : Cx} {W : WX} {E : EX} {a b : Expr} {ta tb : TE} {wa wb : WEx} {pos : Pos}
theorem edivG (PR : ∀ pins σ H s, Inv X pins σ H s → PylongRoom (model X.prog X.w) X.A s) (ha : DE X W E a ta wa) (hb : DE X W E b tb wb) : DE X W E (.BinOp a .FloorDiv b pos) (tOp (rI (fun _ j => j ≠ 0) fun i j => .int (i.fdiv j)) ta tb) (wOp fDivG wa wb) := eo (op_fdivG PR) do_divG ha hb
end
/-! ### sizes -/
def Bd (n : Nat) (x : Int) : Prop := x.natAbs < 2 ^ n
theorem Bd.mono {n m : Nat} {x : Int} (h : Bd n x) (l : n ≤ m) : Bd m x := Nat.lt_of_lt_of_le h (Nat.pow_le_pow_right (by decide) l)
theorem Bd.mul {n m : Nat} {x y : Int} (h : Bd n x) (h' : Bd m y) : Bd (n + m) (x * y) := wide_lt h h'
theorem Bd.add {n : Nat} {x y : Int} (h : Bd n x) (h' : Bd n y) : Bd (n + 1) (x + y) := by
  unfold Bd at *
  rw [Nat.pow_succ]
  omega
theorem Bd.sub {n : Nat} {x y : Int} (h : Bd n x) (h' : Bd n y) : Bd (n + 1) (x - y) := by
  unfold Bd at *
  rw [Nat.pow_succ]
  omega
theorem Bd.le {n : Nat} {x y : Int} (h : Bd n x) (l : y.natAbs ≤ x.natAbs) : Bd n y := Nat.lt_of_le_of_lt l h
theorem mulOk {n m : Nat} {x y : Int} (h : Bd n x) (h' : Bd m y) (l : n + m ≤ 999998) : MulOk x y :=
  ⟨(wide_mul (Bd.mono h (Nat.le_succ n)) (Bd.mono h' (Nat.le_succ m)) (Nat.succ_pos _) (Nat.succ_pos _) (by omega)).ok⟩
theorem mulL {x y : Int} (h : -(2 ^ 64) < x ∧ x < 2 ^ 64) : MulOk x y := ⟨CMul.ok (.inl h)⟩
theorem mulR {x y : Int} (h : -(2 ^ 64) < y ∧ y < 2 ^ 64) : MulOk x y := ⟨CMul.ok (.inr h)⟩
theorem atI_in {α : Type} {l : List α} {i : Int} (h0 : 0 ≤ i) (h1 : i < l.length) : ∃ d, atI l i = some d ∧ d ∈ l ∧ l[i.toNat]? = some d := by
  have e : atI l i = l[i.toNat]? := by
    have := atI_0 (l := l) (i := i.toNat)
    rw [Int.toNat_of_nonneg h0] at this
    exact this
  have h2 : i.toNat < l.length := by omega
  exact ⟨l[i.toNat], by rw [e]; exact List.getElem?_eq_getElem h2, List.getElem_mem h2, List.getElem?_eq_getElem h2⟩
end DL
set_option maxHeartbeats 4000000
namespace DL
open PySem L2 PySem.Spec PyProof.Rows
/-! ### calls with defaults and keywords -/
structure CB (K : PySem.W.Frag) (fd : FuncData) (ps : List Str) (n : Nat) (ks : List Str) (gV : List V → List V → List V) : Prop where
  ex : ∃ g : List Value → List Value → List Value, (∀ (s : Shared) (us ws : List Value), K.In s.heap → us.length = n → ws.length = ks.length → BindsTo s fd ⟨us, ks.zip ws⟩ (ps.zip (g us ws))) ∧
    ∀ {vs : List V} {us : List Value} {zs : List V} {ws : List Value}, vs.length = n → zs.length = ks.length → Vals vs us → Vals zs ws → Vals (gV vs zs) (g us ws)
structure DfG (P : Program) (w : World) (K : PySem.W.Frag) (mg : Str → Option Value) (base : Heap) (x : Str) (k : Nat) (ps : List Str) (n : Nat) (ks : List Str) (gV : List V → List V → List V) (c : Ct) : Prop where
  ex : ∃ f fd, FnOk P w K mg base (L2N.CX P w) k f fd ps (spD K c) ∧ mg x = some (.ref f) ∧ PySem.W.keepIn K (.ref f) = true ∧ CB K fd ps n ks gV
def tCallG (n m : Nat) (sp : Sp) (gV : List V → List V → List V) (E : L2.St → XK) (t tk : TA) : TE := fun σ H Q => t σ H fun vs H1 => tk σ H1 fun zs H2 => vs.length = n ∧ zs.length = m ∧ sp (gV vs zs) H2 Q (E σ)
section
variable {X : Cx} {CX : CXT} {k n : Nat} {f : Addr} {fd : FuncData} {ps ks : List Str} {sp : Sp} {E : L2.St → XK} {x : Str} {p pos : Pos} {e : Expr} {es : List Expr} {kws : List Keyword} {t tk : TA} {gV : List V → List V → List V}
theorem run_cb {pins : List (Addr × Obj)} {σ : L2.St} {H : Hp} {s : Shared} {Q : VK} {us ws : List Value} {vs zs : List V} (F : FnOk X.prog X.w X.K X.mg X.base CX k f fd ps sp) (hr : Room k X.A) (hb : CB X.K fd ps n ks gV) (hx : PassesAt CX X σ (E σ))
    (I : Inv X pins σ H s) (r : Vals vs us) (rz : Vals zs ws) (l1 : vs.length = n) (l2 : zs.length = ks.length) (h : sp (gV vs zs) H Q (E σ)) : wpAny (model X.prog X.w) X.A (call (.ref f) us (ks.zip ws)) (EP X pins σ Q) X.xe s := by
  obtain ⟨g, b1, b2⟩ := hb.ex
  have run := F.run X.A X.stack s H ⟨us, ks.zip ws⟩ (g us ws) (gV vs zs) Q (E σ) hr I.env0 (b1 s us ws I.kIn (by rw [← r.length]; exact l1) (by rw [← rz.length]; exact l2)) (b2 l1 l2 r rz) h
  refine wpAny_call (codeAny_mono run fun res s' hq => ?_)
  match res, hq with
  | .error er, hq => exact hx pins H s er s' I hq
  | .ok (.ret u), hq => exact I.after hq
theorem pe_cb (F : FnOk X.prog X.w X.K X.mg X.base CX k f fd ps sp) (hr : Room k X.A) (hg : Gl X x) (hm : X.mg x = some (.ref f)) (hk : PySem.W.keepIn X.K (.ref f) = true) (hb : CB X.K fd ps n [] gV) (hx : ∀ σ, PassesAt CX X σ (E σ))
    (ha : PA X (e :: es) t) (hdb : (x == ("__debug__" : Str)) = false := by decide) (he : starEach (e :: es) X.env = (false, eval e X.env) :: starEach es X.env := by rfl) (hpl : (backTo pos (starEach es X.env)).any (·.1) = false := by rfl) :
    PE X (.Call (.Name x p) (e :: es) [] pos) (tCallG n 0 sp gV E t tNil) := by
  refine ⟨fun pins s σ H Q I h => wpAny_Call_Name_kw (ld_glob I hg hm ?_ hdb)⟩
  refine PySem.W.callWith_K (h₀ := X.base) I.ok.mod.kin hk (thn (ha.run pos pins s σ H _ I h) fun us s1 hh => ?_) he hpl
  obtain ⟨vs, H1, I1, r, l1, _, q⟩ := hh
  exact ⟨I1.kIn, run_cb (ks := []) (ws := []) (zs := []) F hr hb (hx σ) I1 r .nil l1 rfl q⟩
theorem pe_cbK (F : FnOk X.prog X.w X.K X.mg X.base CX k f fd ps sp) (hr : Room k X.A) (hg : Gl X x) (hm : X.mg x = some (.ref f)) (hk : PySem.W.keepIn X.K (.ref f) = true) (hb : CB X.K fd ps n ks gV) (hx : ∀ σ, PassesAt CX X σ (E σ))
    (ha : PA X (e :: es) t) (hkw : PK X kws tk) (hks : (backToKw pos (keywordEach kws X.env)).filterMap (·.1) = ks := by rfl) (hall : (backToKw pos (keywordEach kws X.env)).all (·.1.isSome) = true := by rfl)
    (hdb : (x == ("__debug__" : Str)) = false := by decide) (he : starEach (e :: es) X.env = (false, eval e X.env) :: starEach es X.env := by rfl)
    (hpl : ((backTo pos (starEach (e :: es) X.env)).any (·.1) || (backToKw pos (keywordEach kws X.env)).any (·.1.isNone)) = false := by rfl) :
    PE X (.Call (.Name x p) (e :: es) kws pos) (tCallG n ks.length sp gV E t tk) := by
  refine ⟨fun pins s σ H Q I h => wpAny_Call_Name_kw (ld_glob I hg hm ?_ hdb)⟩
  refine PySem.W.callWith_KW (h₀ := X.base) I.ok.mod.kin hk hall (thn (ha.run pos pins s σ H _ I h) fun us s1 hh => ?_) hpl he
  obtain ⟨vs, H1, I1, r, q⟩ := hh
  refine thn (hkw.run pos pins s1 σ H1 _ I1 q) fun ws s2 hh2 => ?_
  obtain ⟨zs, H2, I2, rz, l1, l2, q2⟩ := hh2
  refine ⟨I2.kIn, ?_⟩
  rw [hks]
  exact run_cb F hr hb (hx σ) I2 r rz l1 l2 q2
theorem pe_cbK0 (F : FnOk X.prog X.w X.K X.mg X.base CX k f fd ps sp) (hr : Room k X.A) (hg : Gl X x) (hm : X.mg x = some (.ref f)) (hk : PySem.W.keepIn X.K (.ref f) = true) (hb : CB X.K fd ps 0 ks gV) (hx : ∀ σ, PassesAt CX X σ (E σ))
    (hkw : PK X kws tk) (hks : (backToKw pos (keywordEach kws X.env)).filterMap (·.1) = ks := by rfl) (hall : (backToKw pos (keywordEach kws X.env)).all (·.1.isSome) = true := by rfl)
    (hdb : (x == ("__debug__" : Str)) = false := by decide)
    (hpl : ((backTo pos (starEach [] X.env)).any (·.1) || (backToKw pos (keywordEach kws X.env)).any (·.1.isNone)) = false := by rfl) :
    PE X (.Call (.Name x p) [] kws pos) (tCallG 0 ks.length sp gV E tNil tk) := by
  refine ⟨fun pins s σ H Q I h => wpAny_Call_Name_kw (ld_glob I hg hm ?_ hdb)⟩
  refine PySem.W.callWith_KW0 (h₀ := X.base) I.ok.mod.kin hk hall (thn (hkw.run pos pins s σ H _ I h) fun ws s2 hh2 => ?_) hpl
  obtain ⟨zs, H2, I2, rz, l1, l2, q2⟩ := hh2
  refine ⟨I2.kIn, ?_⟩
  rw [hks]
  exact run_cb F hr hb (hx σ) I2 .nil rz l1 l2 q2
end
structure DK (X : Cx) (W : WX) (E : EX) (kws : List Keyword) (t : TA) (w : WA) : Prop where
  pe : PK X kws t
  dn : DnA X.K W E t w
def wCallG (n m : Nat) (c : Ct) (gD : List D → List D → List D) (E : EX) (a k : WA) : WEx := fun ρ μ Q => a ρ μ fun ds μ1 => k ρ μ1 fun es μ2 => ds.length = n ∧ es.length = m ∧ c (gD ds es) μ2 Q fun C fs μ3 => E C fs ρ μ3
/-- how data follow values -/
def GD (K : PySem.W.Frag) (n m : Nat) (gV : List V → List V → List V) (gD : List D → List D → List D) : Prop := ∀ F ds es vs zs, ds.length = n → es.length = m → DVs K F ds vs → DVs K F es zs → DVs K F (gD ds es) (gV vs zs)
section
variable {X : Cx} {W : WX} {E : EX} {k n : Nat} {ps ks : List Str} {c : Ct} {x nm : Str} {p pos kpos : Pos} {e : Expr} {es : List Expr} {kws : List Keyword} {ta : TE} {wa : WEx} {tas tks : TA} {was wks : WA} {gV : List V → List V → List V} {gD : List D → List D → List D}
theorem knil : DK X W E [] tNil wNil := ⟨pk_nil, dn_nil⟩
theorem kcons (ha : DE X W E e ta wa) (hr : DK X W E kws tks wks) (hp : PE X e ta → PK X kws tks → PK X (⟨nm, e, kpos⟩ :: kws) (tCons ta tks) := by exact fun a b => pk_cons a b) : DK X W E (⟨nm, e, kpos⟩ :: kws) (tCons ta tks) (wCons wa wks) := ⟨hp ha.pe hr.pe, dn_cons ha.dn hr.dn⟩
theorem dn_callG {K : PySem.W.Frag} {n m : Nat} (hG : GD K n m gV gD) (ha : DnA K W E tas was) (hk : DnA K W E tks wks) : Dn K W E (tCallG n m (spD K c) gV (WE W) tas tks) (wCallG n m c gD E was wks) := by
  intro F μ H ρ σ Q0 Q s h q
  refine ha F μ H ρ σ _ _ s h fun F1 μ1 H1 ds vs g1 s1 dv h1 => ?_
  refine hk F1 μ1 H1 ρ σ _ _ s1 h1 fun F2 μ2 H2 es zs g2 s2 dz h2 => ?_
  obtain ⟨l1, l2, h3⟩ := h2
  refine ⟨by rw [dv.len]; exact l1, by rw [dz.len]; exact l2, F2, μ2, gD ds es, _, _, s2.ok, hG F2 ds es vs zs l1 l2 (dv.mono g2) dz, h3, fun F3 μ3 H3 d v g3 s3 dv2 hd => ?_, fun F3 μ3 H3 C dd fs g3 s3 ex hd => ?_⟩
  · obtain ⟨μ4, l, h4⟩ := hd
    exact q F3 μ4 H3 d v (g1.trans (g2.trans g3)) ((s2.mono g3 s3).weak l) dv2 h4
  · obtain ⟨μ4, l, h4⟩ := hd
    exact s2.wok F3 μ4 H3 ρ σ C dd fs g3 (s3.weak l) (s2.env.mono g3) ex h4
theorem ecallD (tk : L2N.Takes X W) (h : DfG X.prog X.w X.K X.mg X.base x k ps n [] gV c) (hG : GD X.K n 0 gV gD) (hr : Room k X.A) (ha : DA X W E (e :: es) tas was)
    (hg : Gl X x := by rfl) (hdb : (x == ("__debug__" : Str)) = false := by decide) (he : starEach (e :: es) X.env = (false, eval e X.env) :: starEach es X.env := by rfl) (hpl : (backTo pos (starEach es X.env)).any (·.1) = false := by rfl) :
    DE X W E (.Call (.Name x p) (e :: es) [] pos) (tCallG n 0 (spD X.K c) gV (WE W) tas tNil) (wCallG n 0 c gD E was wNil) := by
  obtain ⟨f, fd, G, hm, hk, hb⟩ := h.ex
  exact ⟨pe_cb G hr hg hm hk hb (fun σ => L2N.passAt tk σ) ha.pe hdb he hpl, dn_callG hG ha.dn dn_nil⟩
theorem ecallK (tk : L2N.Takes X W) (h : DfG X.prog X.w X.K X.mg X.base x k ps n ks gV c) (hG : GD X.K n ks.length gV gD) (hr : Room k X.A) (ha : DA X W E (e :: es) tas was) (hkw : DK X W E kws tks wks)
    (hg : Gl X x := by rfl) (hks : (backToKw pos (keywordEach kws X.env)).filterMap (·.1) = ks := by rfl) (hall : (backToKw pos (keywordEach kws X.env)).all (·.1.isSome) = true := by rfl) (hdb : (x == ("__debug__" : Str)) = false := by decide) (he : starEach (e :: es) X.env = (false, eval e X.env) :: starEach es X.env := by rfl)
    (hpl : ((backTo pos (starEach (e :: es) X.env)).any (·.1) || (backToKw pos (keywordEach kws X.env)).any (·.1.isNone)) = false := by rfl) :
    DE X W E (.Call (.Name x p) (e :: es) kws pos) (tCallG n ks.length (spD X.K c) gV (WE W) tas tks) (wCallG n ks.length c gD E was wks) := by
  obtain ⟨f, fd, G, hm, hk, hb⟩ := h.ex
  exact ⟨pe_cbK G hr hg hm hk hb (fun σ => L2N.passAt tk σ) ha.pe hkw.pe hks hall hdb he hpl, dn_callG hG ha.dn hkw.dn⟩
theorem ecallK0 (tk : L2N.Takes X W) (h : DfG X.prog X.w X.K X.mg X.base x k ps 0 ks gV c) (hG : GD X.K 0 ks.length gV gD) (hr : Room k X.A) (hkw : DK X W E kws tks wks)
    (hg : Gl X x := by rfl) (hks : (backToKw pos (keywordEach kws X.env)).filterMap (·.1) = ks := by rfl) (hall : (backToKw pos (keywordEach kws X.env)).all (·.1.isSome) = true := by rfl) (hdb : (x == ("__debug__" : Str)) = false := by decide)
    (hpl : ((backTo pos (starEach [] X.env)).any (·.1) || (backToKw pos (keywordEach kws X.env)).any (·.1.isNone)) = false := by rfl) :
    DE X W E (.Call (.Name x p) [] kws pos) (tCallG 0 ks.length (spD X.K c) gV (WE W) tNil tks) (wCallG 0 ks.length c gD E wNil wks) := by
  obtain ⟨f, fd, G, hm, hk, hb⟩ := h.ex
  exact ⟨pe_cbK0 G hr hg hm hk hb (fun σ => L2N.passAt tk σ) hkw.pe hks hall hdb hpl, dn_callG hG dn_nil hkw.dn⟩
end
section
variable {P : Program} {w : World} {K : PySem.W.Frag} {mg : Str → Option Value} {base : Heap}
/-- the rule for a def with defaults -/
theorem okDD {x qual : Str} {st : Stmt} {f : Addr} {fd : FuncData} {dvs : List V} {kwd : List (Str × V)} {N ps : List Str} {k : Nat} {c : Ct} (F : FunD K x qual (defArgs st) (defBody st) (defScope st) dvs kwd f fd) (S : FnScope N ps (defScope st)) (hn : ps.length ≤ N.length) (hl : ∀ ds μ Q E, c ds μ Q E → ds.length = ps.length)
    (hb : ∀ (X : Cx) (W : WX) (E : EX) (cdv : Value) (A : Around) (outer : List Env) (s : Shared) (H : Hp) (Ex : XK), X = cxOf (L2N.CX P w) P w K mg base N qual (defScope st) f cdv A outer s H Ex → L2N.Takes X W → PassesOwn (model X.prog X.w) X.A X.env X.xe → Room k X.A →
      ∃ t ws, DSs X W E (defBody st) t ws ∧ ∀ ds μ Q E0, c ds μ Q E0 → E = (fun C fs _ μ => dwx E0 C fs μ) → ws (rets Q) (st0 N.length ds) μ) : FnOk P w K mg base (L2N.CX P w) (k + 1) f fd ps (spD K c) := by
  refine F.ok S (fun vs H Q E h => ?_) (fun cdv A outer s H vs Q Ex hr h => ?_)
  · obtain ⟨F, μ, ds, Q0, E0, _, dv, hc, _⟩ := h
    rw [dv.len]; exact hl _ _ _ _ hc
  · obtain ⟨F0, μ, ds, Q0, E0, sk, dv, hc, hq, he⟩ := h
    obtain ⟨t, ws, hd, hw⟩ := hb _ (fun cls d _ H => Ex cls d H) (fun C fs _ μ => dwx E0 C fs μ) cdv A outer s H Ex rfl (L2N.takes_of rfl rfl rfl rfl) (passes_of rfl) hr
    refine ⟨t, hd.pe, hd.dn F0 μ H _ _ (rets Q0) _ ⟨sk, env_start dv (by rw [hl _ _ _ _ hc]; exact hn), fun F' μ' H' ρ σ C d fs g s' _ ex h' => he F' μ' H' C d fs g s' ex h'⟩ (hw ds μ Q0 E0 hc rfl) ⟨fun F' μ' H' ρ' σ' g s' h' => ?_, fun F' μ' H' d v g s' dv' h' => ?_, fun F' μ' H' ρ' σ' g s' h' => h'.elim, fun F' μ' H' ρ' σ' g s' h' => h'.elim⟩⟩
    · exact hq F' μ' H' .non .non g s'.ok rfl h'
    · exact hq F' μ' H' d v g s' dv' h'
end
end DL
set_option maxHeartbeats 4000000
namespace DL
open PySem L2 PySem.Spec PyProof.Rows
/-! ### never reached -/
theorem snever {X : Cx} {W : WX} {E : EX} {sts : List Stmt} : DSs X W E sts tNever wNever := ⟨pss_never, dn_never⟩
/-! ### slices -/
abbrev WO := En → Mu → (Option Int → Mu → Prop) → Prop
def oNo : WO := fun _ μ Q => Q none μ
def oSo (a : WEx) : WO := fun ρ μ Q => a ρ μ fun d μ1 => match d with
  | .int i => Q (some i) μ1
  | _ => False
def DnO (K : PySem.W.Frag) (W : WX) (E : EX) (t : TO) (w : WO) : Prop := ∀ F μ H ρ σ (Q0 : Option Int → Mu → Prop) (Q : Option Int → Hp → Prop), S0 K W E F μ H ρ σ → w ρ μ Q0 → (∀ F' μ' H' o, Grow F F' → S0 K W E F' μ' H' ρ σ → Q0 o μ' → Q o H') → t σ H Q
structure DO (X : Cx) (W : WX) (E : EX) (e : Option Expr) (t : TO) (w : WO) : Prop where
  pe : PO X e t
  dn : DnO X.K W E t w
def cutD (xs : List D) (lo hi : Option Int) : List D := (xs.drop (HT.sIx xs.length 0 lo)).take (HT.sIx xs.length xs.length hi - HT.sIx xs.length 0 lo)
def wSl (f : D → Option Int → Option Int → Mu → (D → Mu → Prop) → Prop) (a : WEx) (l u : WO) : WEx := fun ρ μ Q => a ρ μ fun d μ1 => l ρ μ1 fun i μ2 => u ρ μ2 fun j μ3 => f d i j μ3 Q
/-- of a list: a new list for good -/
def lvr (μ : Mu) : D → Option (List D)
  | .lst l => some l
  | .lsr l => some l
  | .mut a => match μ a with
    | some (.lst l) => some l
    | _ => none
  | _ => none
def fSlL (d : D) (i j : Option Int) (μ : Mu) (Q : D → Mu → Prop) : Prop := match lvr μ d with
  | some l => Q (.lst (cutD l i j)) μ
  | none => False
def fSlT (d : D) (i j : Option Int) (μ : Mu) (Q : D → Mu → Prop) : Prop := match d with
  | .tup l => ¬ (HT.sIx l.length 0 i = 0 ∧ HT.sIx l.length l.length j = l.length) ∧ Q (.tup (cutD l i j)) μ
  | _ => False
section
variable {X : Cx} {W : WX} {E : EX} {K : PySem.W.Frag} {e : Expr} {te : TE} {we : WEx} {lo hi : Option Expr} {tl th : TO} {wl wh : WO} {pos p2 : Pos}
theorem onone : DO X W E none tNoPart oNo := ⟨po_none, fun F μ H ρ σ Q0 Q s h q => q F μ H none Grow.refl s h⟩
theorem osome (h : DE X W E e te we) : DO X W E (some e) (tPart te) (oSo we) := ⟨po_some h.pe, by
  intro F μ H ρ σ Q0 Q s hh q
  refine h.dn F μ H ρ σ _ _ s hh fun F1 μ1 H1 d v g1 s1 dv h1 => ?_
  split at h1
  · exact ⟨_, dv, q F1 μ1 H1 _ g1 s1 h1⟩
  · exact h1.elim⟩
theorem lvr_ok {F H : Hp} {μ : Mu} {x : D} {v : V} {l : List D} (s : Sok K F μ H) (dv : DV K F x v) (e : lvr μ x = some l) : ∃ a xs, v = .ref a ∧ SqL K H a xs ∧ DVs K F l xs := by
  have gH : Grow F H := s.sub
  unfold lvr at e
  split at e
  · cases e
    obtain ⟨a, xs, rfl, r, dl⟩ := dv
    exact ⟨a, xs, rfl, SqL.of (gH _ _ r), dl⟩
  · cases e
    obtain ⟨a, xs, rfl, r, dl⟩ := dv
    exact ⟨a, xs, rfl, gH.sl r, dl⟩
  · rename_i a
    split at e
    · rename_i l' em
      cases e
      obtain rfl : v = V.ref a := dv
      obtain ⟨_, xs, ho, dl⟩ := s.cel a _ em
      exact ⟨a, xs, rfl, SqL.of ho, dl⟩
    · cases e
  · cases e
theorem cut_dvs {F : Hp} {l : List D} {xs : List V} (h : DVs K F l xs) (i j : Option Int) : DVs K F (cutD l i j) (cutV xs i j) := by
  unfold cutD cutV
  rw [h.len]
  exact (h.drop _).take _
theorem dn_sl {r : V → Option Int → Option Int → Hp → VK → Prop} {f : D → Option Int → Option Int → Mu → (D → Mu → Prop) → Prop}
    (hf : ∀ F μ H x dx i j Q0 (Q : VK), Sok K F μ H → DV K F dx x → f dx i j μ Q0 → (∀ F' μ' H' d v, Grow F F' → Sok K F' μ' H' → DV K F' d v → Q0 d μ' → Q v H') → r x i j H Q)
    (he : Dn K W E te we) (hl : DnO K W E tl wl) (hh : DnO K W E th wh) : Dn K W E (tSl r te tl th) (wSl f we wl wh) := by
  intro F μ H ρ σ Q0 Q s h q
  refine he F μ H ρ σ _ _ s h fun F1 μ1 H1 d v g1 s1 dv h1 => ?_
  refine hl F1 μ1 H1 ρ σ _ _ s1 h1 fun F2 μ2 H2 i g2 s2 h2 => ?_
  refine hh F2 μ2 H2 ρ σ _ _ s2 h2 fun F3 μ3 H3 j g3 s3 h3 => ?_
  refine hf F3 μ3 H3 v d i j Q0 Q s3.ok (dv.mono (g2.trans g3)) h3 fun F4 μ4 H4 d4 v4 g4 s4 dv4 h4 => ?_
  exact q F4 μ4 H4 d4 v4 (g1.trans (g2.trans (g3.trans g4))) (s3.mono g4 s4) dv4 h4
theorem eslL (he : DE X W E e te we) (hl : DO X W E lo tl wl) (hh : DO X W E hi th wh) : DE X W E (.Subscript e (.Slice lo hi none p2) pos) (tSl (rSlL X.K) te tl th) (wSl fSlL we wl wh) :=
  ⟨pe_slice sl_list he.pe hl.pe hh.pe, dn_sl (fun F μ H x dx i j Q0 Q s dv h q => by
    unfold fSlL at h
    split at h
    · rename_i l el
      obtain ⟨a, xs, rfl, r, dl⟩ := lvr_ok s dv el
      refine ⟨a, xs, rfl, r, fun p hp => ?_⟩
      have f := s.free hp
      exact q _ μ _ (.lst _) _ (Grow.new f.1) (s.put hp) ⟨p, _, rfl, upd_same, (cut_dvs dl i j).mono (Grow.new f.1)⟩ h
    · exact h.elim) he.dn hl.dn hh.dn⟩
theorem eslT (he : DE X W E e te we) (hl : DO X W E lo tl wl) (hh : DO X W E hi th wh) : DE X W E (.Subscript e (.Slice lo hi none p2) pos) (tSl (rSlT X.K) te tl th) (wSl fSlT we wl wh) :=
  ⟨pe_slice sl_tup he.pe hl.pe hh.pe, dn_sl (fun F μ H x dx i j Q0 Q s dv h q => by
    unfold fSlT at h
    split at h
    · rename_i l
      obtain ⟨a, xs, rfl, r, dl⟩ := dv
      have gH : Grow F H := s.sub
      refine ⟨a, xs, rfl, gH.st r, by rw [dl.len]; exact h.1, fun p hp => ?_⟩
      have f := s.free hp
      exact q _ μ _ (.tup _) _ (Grow.new f.1) (s.put hp) ⟨p, _, rfl, SqT.of upd_same, (cut_dvs dl i j).mono (Grow.new f.1)⟩ h.2
    · exact h.elim) he.dn hl.dn hh.dn⟩
end
/-! ### xs + ys -/
/-- of two lists: a new one for good -/
def fCat : F2 := fun x y μ Q => match lv μ x, lv μ y with
  | some l, some m => l.length + m.length ≤ 100000 ∧ Q (.lst (l ++ m)) μ
  | _, _ => False
theorem lv_ok {K : PySem.W.Frag} {F H : Hp} {μ : Mu} {x : D} {v : V} {l : List D} (s : Sok K F μ H) (dv : DV K F x v) (e : lv μ x = some l) : ∃ a xs, v = .ref a ∧ H a = some (.lst xs) ∧ DVs K F l xs := by
  unfold lv at e
  split at e
  · cases e
    obtain ⟨a, xs, rfl, r, dl⟩ := dv
    exact ⟨a, xs, rfl, s.sub _ _ r, dl⟩
  · rename_i a
    split at e
    · rename_i l' em
      cases e
      obtain rfl : v = V.ref a := dv
      obtain ⟨_, xs, ho, dl⟩ := s.cel a _ em
      exact ⟨a, xs, rfl, ho, dl⟩
    · cases e
  · cases e
theorem do_cat {K : PySem.W.Frag} : DOp K rCat fCat := by
  intro F μ H x y dx dy Q0 Q s d1 d2 h q
  unfold fCat at h
  split at h
  · rename_i l m el em
    obtain ⟨a, xs, rfl, ha, dl⟩ := lv_ok s d1 el
    obtain ⟨b, ys, rfl, hb, dm⟩ := lv_ok s d2 em
    refine ⟨a, b, xs, ys, rfl, rfl, ha, hb, sz5 (by rw [dl.len, dm.len]; exact h.1), fun p hp => ?_⟩
    have f := s.free hp
    exact q _ μ _ (.lst _) _ (Grow.new f.1) (s.put hp) ⟨p, _, rfl, upd_same, (dl.append dm).mono (Grow.new f.1)⟩ h.2
  · exact h.elim
theorem ecat {X : Cx} {W : WX} {E : EX} {a b : Expr} {ta tb : TE} {wa wb : WEx} {pos : Pos} (ha : DE X W E a ta wa) (hb : DE X W E b tb wb) : DE X W E (.BinOp a .Add b pos) (tOp rCat ta tb) (wOp fCat wa wb) := eo op_cat do_cat ha hb
/-! ### isinstance of a built-in class -/
inductive Ty where
  | non | bl | int | str | tup | lst | dic
  deriving DecidableEq
def Ty.nm : Ty → String
  | .non => "NoneType" | .bl => "bool" | .int => "int" | .str => "str" | .tup => "tuple" | .lst => "list" | .dic => "dict"
def isB (t T : Ty) : Bool := t == T || (t == .bl && T == .int)
theorem kit_all : ∀ t T : Ty, T ≠ .non → kitB t.nm T.nm = some (isB t T) := by
  intro t T h
  cases T <;> first | exact absurd rfl h | (cases t <;> decide +kernel)
def tyD (μ : Mu) : D → Option Ty
  | .non => some .non | .bl _ => some .bl | .int _ => some .int | .str _ => some .str | .tup _ => some .tup | .lst _ => some .lst | .lsr _ => some .lst | .dK _ _ => some .dic | .dT _ _ => some .dic
  | .mut a => match μ a with
    | some (.lst _) => some .lst
    | some (.dK _) => some .dic
    | some (.dT _) => some .dic
    | _ => none
  | .ins _ _ _ => none
def fIsi (T : Ty) (d : D) (μ : Mu) (Q : D → Mu → Prop) : Prop := T ≠ .non ∧ match tyD μ d with
  | some t => Q (.bl (isB t T)) μ
  | none => False
theorem sqt_ty {K : PySem.W.Frag} {H : Hp} {a : Addr} {xs : List V} (h : SqT K H a xs) : TyX K H (.ref a) (.type "tuple") := by
  rcases h with (h | ⟨o, h⟩) | ⟨o, its, n, e, c, _⟩
  · exact .base (.tup h)
  · exact .fTuple h
  · exact .kTuple e c
theorem sql_ty {K : PySem.W.Frag} {H : Hp} {a : Addr} {xs : List V} (h : SqL K H a xs) : TyX K H (.ref a) (.type "list") := by
  rcases h with (h | ⟨o, h⟩) | ⟨o, its, n, e, c, _⟩
  · exact .base (.lst h)
  · exact .base (.frz h)
  · exact .kList e c
theorem ty_ok {K : PySem.W.Frag} {F H : Hp} {μ : Mu} {d : D} {v : V} {t : Ty} (s : Sok K F μ H) (dv : DV K F d v) (e : tyD μ d = some t) : TyX K H v (.type t.nm) := by
  have gH : Grow F H := s.sub
  cases d with
  | non => cases e; rw [show v = V.non from dv]; exact .base .non
  | bl b => cases e; rw [show v = V.bl b from dv]; exact .base (.bl b)
  | int b => cases e; rw [show v = V.int b from dv]; exact .base (.int b)
  | str b => cases e; rw [show v = V.str b from dv]; exact .base (.str b)
  | tup l => cases e; obtain ⟨a, xs, rfl, r, _⟩ := dv; exact sqt_ty (gH.st r)
  | lst l => cases e; obtain ⟨a, xs, rfl, r, _⟩ := dv; exact .base (.lst (gH _ _ r))
  | lsr l => cases e; obtain ⟨a, xs, rfl, r, _⟩ := dv; exact sql_ty (gH.sl r)
  | dK k l => cases e; obtain ⟨a, xs, rfl, r, _⟩ := dv; exact .base (.dK (gH _ _ r))
  | dT k l => cases e; obtain ⟨a, xs, rfl, r, _⟩ := dv; exact .base (.dT (gH _ _ r))
  | ins C k l => cases e
  | «mut» a =>
    obtain rfl : v = V.ref a := dv
    have e : (match μ a with
      | some (.lst _) => some Ty.lst
      | some (.dK _) => some Ty.dic
      | some (.dT _) => some Ty.dic
      | _ => none) = some t := e
    split at e
    · rename_i l em; cases e; obtain ⟨_, xs, ho, _⟩ := s.cel a _ em; exact .base (.lst ho)
    · rename_i l em; cases e; obtain ⟨_, xs, ho, _⟩ := s.cel a _ em; exact .base (.dK ho)
    · rename_i l em; cases e; obtain ⟨_, xs, ho, _⟩ := s.cel a _ em; exact .base (.dT ho)
    · cases e
theorem eisi {X : Cx} {W : WX} {E : EX} {a : Expr} {ta : TE} {wa : WEx} {p p2 pos : Pos} {TN : Str} (T : Ty) (hm : X.mg "isinstance" = none) (hmT : X.mg TN = none) (hvT : bootBuiltins TN = some (.type T.nm)) (ha : DE X W E a ta wa) (hg : Gl X "isinstance" := by rfl) (hgT : Gl X TN := by rfl)
    (hnT : TN ≠ "__name__" := by decide) (hdT : (TN == ("__debug__" : Str)) = false := by decide)
    (hp : X.mg "isinstance" = none → PE X a ta → PE X (.Name TN p2) (tC (.ty T.nm)) → PE X (.Call (.Name "isinstance" p) [a, .Name TN p2] [] pos) (tCB (rIsi X.K) (tCons ta (tCons (tC (.ty T.nm)) tNil))) := by exact fun m x y => pe_callB call_isi (by rfl) m (by decide +kernel) (pa_cons x (pa_cons y pa_nil))) :
    DE X W E (.Call (.Name "isinstance" p) [a, .Name TN p2] [] pos) (tCB (rIsi X.K) (tCons ta (tCons (tC (.ty T.nm)) tNil))) (wUn (fIsi T) wa) := by
  refine ⟨hp hm ha.pe (pe_bltn hgT hmT hvT rfl hnT hdT), ?_⟩
  intro F μ H ρ σ Q0 Q s h q
  refine ha.dn F μ H ρ σ _ _ s h fun F1 μ1 H1 d v g1 s1 dv h1 => ?_
  unfold fIsi at h1
  obtain ⟨hT, h1⟩ := h1
  split at h1
  · rename_i t et
    exact ⟨v, .ty T.nm, .type t.nm, .type T.nm, isB t T, rfl, .ty _, ty_ok s1.ok dv et, kit_ty (kit_all t T hT), q F1 μ1 H1 (.bl _) _ g1 s1 rfl h1⟩
  · exact h1.elim
end DL
set_option maxHeartbeats 4000000
namespace DL
open PySem L2 PySem.Spec PyProof.Rows HotX L2H
/-! ### where an exception is handled: walking a list to its end -/
theorem listEnd_hot {prog : Program} {w : World} {A : Around} {E : Value → Shared → Prop} {s : Shared} {it l hx : Addr} {i : Nat} {its : Array Value} {Q : Option Value → Shared → Prop} (hot : HotAt A hx s.heap) (hit : s.heap.IsListIter it l i) (hne : hx ≠ it)
    (hl : s.heap.IsList l its) (hx' : its[i]? = none) (hQ : ∀ h', (∀ b o, b ≠ it → s.heap.get? b = some o → h'.get? b = some o) → Q none { s with heap := h' }) : wpAny (model prog w) A (pyNext (.ref it)) Q E s := by
  obtain ⟨oi, gi, ci, di⟩ := id hit
  obtain ⟨ol, gl, _, nl, dl⟩ := hl
  obtain ⟨hh, o1, v1, g1, d1, c1⟩ := hot
  unfold pyNext
  refine wpAny_bind (wpAny_attempt (wpAny_callSpecial?_slot (name := Str.ofString "__next__") hit.typeIs slot_listiter_next (wpAny_call_entry slot_listiter_next hit.typeIs entry_listiter_next ?_ (args_listiter_next _))))
  show wpAny _ _ (field (.ref it) 0 >>= _) _ _ _
  refine wpAny_bind (wpAny_field gi di (x := .ref l) rfl ?_)
  show wpAny _ _ (if (Value.ref l == Value.none) = true then _ else _) _ _ _
  rw [if_neg (show ¬ (Value.ref l == Value.none) = true from Bool.false_ne_true)]
  show wpAny _ _ (field (.ref it) 1 >>= _) _ _ _
  refine wpAny_bind (wpAny_field gi di (x := .int i 0) rfl ?_)
  show wpAny _ _ (seqItems? (.ref l) >>= _) _ _ _
  refine wpAny_bind (wpAny_seqItems gl dl ?_)
  simp only [Int.toNat_natCast, hx']
  refine wpAny_bind (wpAny_rule (wpAny_bind (wpAny_setField gi di (by simp) ?_)))
  show wpAny _ _ (newExc (.type "StopIteration") [] >>= _) _ _ _
  refine wpAny_bind ?_
  simp only [newExc, newTuple]
  have k1 : ∀ b o, b ≠ it → s.heap.get? b = some o → (s.heap.update it (Obj.mapFields (·.setIfInBounds 0 Value.none))).get? b = some o := fun b o hb e => by rw [Heap.get?_update_other _ _ (Ne.symm hb)]; exact e
  refine wpAny_bind (wpAny_newObj_type ?_ (by size_fits))
  refine wpAny_bind (m := firstArgMember _ _) (wpAny_of_eq (a := Value.none) (by first | rfl | (simp only [firstArgMember]; rfl)) ?_)
  refine wpAny_newObj_type ?_ (by size_fits)
  refine raiseNew_hot ⟨hh, o1, v1, Heap.get?_push_of_some _ (Heap.get?_push_of_some _ (k1 hx o1 hne g1)), d1, c1⟩ (Nat.ne_of_lt (Heap.lt_size (Heap.get?_push_of_some _ (k1 hx o1 hne g1)))) (Heap.get?_push_size _ rfl) rfl (by first | (simp; done) | (simp; omega) | (simp only [Array.size_append]; simp; omega)) ?_
  refine wpAny_bind (wpAny_isInstance (T := "StopIteration") (b := true) ⟨_, Heap.get?_update_self _ (Heap.get?_push_size _ rfl) rfl, rfl⟩ isSubtype_stop ?_)
  refine wpAny_pure (hQ _ fun b o hb e => ?_)
  rw [Heap.get?_update_other _ _ (Nat.ne_of_gt (Heap.lt_size (Heap.get?_push_of_some _ (k1 b o hb e))))]
  exact Heap.get?_push_of_some _ (Heap.get?_push_of_some _ (k1 b o hb e))
section
variable {X : Cx}
/-- a list's comprehension there -/
theorem lc_hot {pins : List (Addr × Obj)} {s : Shared} {σ : L2.St} {H : Hp} {Q : VK} {elt tg l : Expr} {ifs : List Expr} {sc : Scope} {own : List (Str × Nat)} {pos ps : Pos} {tl : TE} {g : TG} {tt : TT} {te : TE}
    (hot : HotC X) (nd : X.N.Nodup) (I : Inv X pins σ H s) (hl : PE X l tl) (ok : BlkOk X.N X.env.scope sc own) (hg : ∀ u J C cl fp, PG (X.blk u J sc (compEnvC sc cl C X.env) fp) tg g)
    (ht : ∀ u J C cl fp, PTs (X.blk u J sc (compEnvC sc cl C X.env) fp) ifs tt) (he : ∀ u J C cl fp, PE (X.blk u J sc (compEnvC sc cl C X.env) fp) elt te) (hs : ∀ x, foldedSetIterable l X.env x = pure x)
    (h : tLc (iList X.K tl) g tt te (own.map (·.2)) σ H Q) : wpAny (model X.prog X.w) X.A (comprehension (.ListComp elt [⟨tg, l, ifs, 0⟩] sc pos) sc X.env ps (newList []) false (eval l X.env) none) (EP X pins σ Q) X.xe s := by
  have fr : ∀ y ∈ sc.names, y.2 = .free → ∃ c, X.env.cells.lookup y.1 = some c := fun y hy e => (ok.free y hy e).elim (fun k => I.ok.has _ (.inl k)) fun k => I.ok.has _ (.inr k)
  refine wpAny_comprehension_free (use := none) rfl hs (closure_ok fr) ok.kind (fun y hy e => by rw [ok.uniq y hy, e]) (thn (hl.run pins s σ H _ I h) fun xv s1 ⟨x, H1, I1, r1, a, ex, ⟨xs0, hq0⟩, q⟩ => ?_)
  subst ex
  cases r1
  obtain ⟨its, rv, pl, hz⟩ := I1.list hq0
  refine wpAny_pyIter_list pl.isList ?_
  generalize hit : s1.heap.objs.size = it
  have fpI : FpOk X pins H1 it := I1.fpOk (Nat.le_of_eq hit) (I1.hok.fresh (Nat.le_of_eq hit))
  generalize hu2 : ({ s1 with heap := s1.heap.push { cls := .type "list_iterator", data := .fields #[.ref a, .int 0 0] } } : Shared) = u2
  have I2 : Inv X pins σ H1 u2 := by rw [← hu2]; exact I1.kept (t' := s1.toks) fun b o e => Heap.get?_push_of_some _ e
  have li2 : u2.heap.IsListIter it a 0 := by rw [← hu2, ← hit]; exact ⟨_, Heap.get?_push_size _ rfl, rfl, rfl⟩
  have T := turn_list (P := X.prog) (w := X.w) (K := X.K) (tg := tg) a it
  refine wpAny_newObj_type (newEnv_comp ?_) (Nat.zero_le _)
  generalize hD : u2.heap.objs.size = D
  have lt2 : it < u2.heap.objs.size := by obtain ⟨o, e, _⟩ := id li2; exact Heap.lt_size e
  have hDn : H1 D = none := I2.hok.fresh (Nat.le_of_eq hD)
  obtain ⟨W, ⟨m0, w0⟩, turn⟩ := q D hDn
  generalize hu3 : ({ u2 with heap := u2.heap.push { cls := .type "list", data := .seq ([] : List Value).toArray } } : Shared) = u3
  have I3 : Inv X pins σ (upd H1 D (.lst [])) u3 := by
    rw [← hu3]
    refine I2.laid (t' := u2.toks) (fun b o e => Heap.get?_push_of_some _ e) (Nat.le_of_eq hD) ⟨Nat.zero_le _, [], 0, .nil, ?_⟩
    rw [← hD]; exact Heap.get?_push_size _ rfl
  have e3 : u3.heap = u2.heap.push { cls := .type "list", data := .seq ([] : List Value).toArray } := by rw [← hu3]
  have nDi : it ≠ D := by rw [← hD]; exact Nat.ne_of_lt lt2
  have fp3 : ∀ b ∈ [it], FpOk X pins (upd H1 D (.lst [])) b ∧ b < u3.heap.objs.size := fun b hb => by
    obtain rfl : b = it := by simpa using hb
    exact ⟨⟨by rw [upd_ne nDi]; exact fpI.1, fpI.2⟩, by rw [e3, Heap.size_push]; exact Nat.lt_succ_of_lt lt2⟩
  have lt3 := (fp3 it (by simp)).2
  have li3 : u3.heap.IsListIter it a 0 := T.keep 0 _ _ li2 fun b _ o e => by rw [e3]; exact Heap.get?_push_of_some _ e
  have I4 := block_start I3 ok nd fp3
  have pg := hg u3 (upd H1 D (.lst [])) u3.heap.objs.size (cellsFrom (u3.heap.objs.size + 1) sc.names (cloFrom X.env.cells sc.names [])) [it]
  have pt := ht u3 (upd H1 D (.lst [])) u3.heap.objs.size (cellsFrom (u3.heap.objs.size + 1) sc.names (cloFrom X.env.cells sc.names [])) [it]
  have pe := he u3 (upd H1 D (.lst [])) u3.heap.objs.size (cellsFrom (u3.heap.objs.size + 1) sc.names (cloFrom X.env.cells sc.names [])) [it]
  show codeAny _ _ (.compStart (.ListComp elt [⟨tg, l, ifs, 0⟩] sc pos) 0 (.ref it) (.ref D) (compEnvC sc (cellsFrom (u3.heap.objs.size + 1) sc.names (cloFrom X.env.cells sc.names [])) u3.heap.objs.size X.env)) (compPost (model X.prog X.w) X.A X.xe none (EP X pins σ Q) (.ref D) u3.heap.objs.size) { u3 with heap := pushCells (u3.heap.push { cls := .type "dict", data := .dict #[] }) sc.names }
  generalize hce : compEnvC sc (cellsFrom (u3.heap.objs.size + 1) sc.names (cloFrom X.env.cells sc.names [])) u3.heap.objs.size X.env = ce at I4 pg pt pe ⊢
  have cL : ce.locals = u3.heap.objs.size := by subst hce; rfl
  generalize hH3 : upd H1 D (.lst []) = H3 at I3 I4 pg pt pe w0 fp3
  generalize hu4 : ({ u3 with heap := pushCells (u3.heap.push { cls := .type "dict", data := .dict #[] }) sc.names } : Shared) = u4 at I4 ⊢
  have li4 : u4.heap.IsListIter it a 0 := T.keep 0 _ _ li3 fun b _ o e => by rw [← hu4]; exact pushCells_keeps _ _ _ _ (Heap.get?_push_of_some _ e)
  have stat : ∀ {τ : L2.St} {H' : Hp} {u : Shared}, Inv (X.blk u3 H3 sc ce [it]) [] τ H' u → H' it = none → ∀ b ∈ [it], FpOk (X.blk u3 H3 sc ce [it]) [] H' b := fun {τ H' u} J hn b hb => by
    obtain rfl : b = it := by simpa using hb
    exact ⟨hn, (J.ok.exf b hb).1, J.ok.exfs b hb, .inl hb, fun x c e => (J.ok.exf b hb).2 x c e, fun p hp => absurd (show p ∈ ([] : List (Addr × Obj)) ++ [] from hp) (by simp)⟩
  have loop : codeAny (model X.prog X.w) X.A (.compLoop (.ListComp elt [⟨tg, l, ifs, 0⟩] sc pos) 0 (.ref it) (.ref D) ce) (compPost (model X.prog X.w) X.A X.xe none (EP X pins σ Q) (.ref D) u3.heap.objs.size) u4 := by
    refine compLoop_any (fun n u => ∃ i H', Inv (X.blk u3 H3 sc ce [it]) [] (wipe σ (own.map (·.2))) H' u ∧ u.heap.IsListIter it a i ∧ H' it = none ∧ W i n H') ?_ m0 ⟨0, H3, I4, li4, (fp3 it (by simp)).1.1, w0⟩
    rintro n u5 ⟨i, H5, I5, li5, n5, w5⟩
    rcases turn i n H5 w5 with ⟨⟨xs, hq, hx⟩, qq⟩ | ⟨⟨xs, x, hq, hx⟩, Nx, hNx, step⟩
    · obtain ⟨jts, rj, pj, hzj⟩ := I5.list hq
      have hf := (fp3 it (by simp)).1
      have I7 : Inv X pins σ H5 u5 := I3.call' (ch := [it]) I5.os I5.base I5.hok I5.bare fun b hb => by
        obtain rfl : b = it := by simpa using hb
        exact ⟨hf.2.2.2.1, hf.2.1, hf.2.2.2.2.1, hf.2.2.2.2.2⟩
      obtain ⟨p, ⟨hh, v1, d1, c1⟩, hp⟩ := hot
      have nC : H5 u3.heap.objs.size = none := by have z : H5 ce.locals = none := I5.free; rw [cL] at z; exact z
      obtain ⟨m, hn, _⟩ := I5.loc
      have hn : u5.heap.Ns ce.locals m := hn
      rw [cL] at hn
      have lj := rj.length
      refine listEnd_hot (hx := p.1) ⟨hh, p.2, v1, (I7.pin p (List.mem_append_left _ hp)).1, d1, c1⟩ li5 (hf.2.2.2.2.2 p (List.mem_append_left _ hp)) pj.isList (by simp; omega) fun h' kk => ?_
      have I8 : Inv X pins σ H5 { u5 with heap := h' } := I7.turned (t' := u5.toks) kk n5 hf.2.1 hf.2.2.2.1 hf.2.2.2.2.1 hf.2.2.2.2.2
      have fC : FpOk X pins H5 u3.heap.objs.size := I3.fpOk (Nat.le_refl _) nC
      obtain ⟨o, es, ep, eo, dd, rr⟩ := hn
      refine ⟨m, ⟨o, es, ep, kk _ o (Nat.ne_of_gt lt3) eo, dd, rr⟩, fun h'' sb => ?_⟩
      exact ⟨.ref D, H5, I8.turned (t' := u5.toks) (fun b o hb e => (sb.2 b hb).trans e) fC.1 fC.2.1 fC.2.2.2.1 fC.2.2.2.2.1 fC.2.2.2.2.2, rfl, qq⟩
    · obtain ⟨jts, rj, pj, hzj⟩ := I5.list hq
      obtain ⟨uv, hu, ru⟩ := rj.get hx
      obtain ⟨f0, f1, f2, f3, f4, f5⟩ := stat I5 n5 it (by simp)
      refine wpAny_pyNext_list_item li5 pj.isList (x := uv) (by simpa using hu) fun h6 li6 sb => ?_
      have I6 : Inv (X.blk u3 H3 sc ce [it]) [] (wipe σ (own.map (·.2))) H5 { u5 with heap := h6 } := I5.turned (t' := u5.toks) (fun b o hb e => (sb.2 b hb).trans e) f0 f1 f3 f4 f5
      obtain ⟨o, eo, co, dj⟩ := id li6
      refine go_of (s := { u5 with heap := h6 }) eo co dj (by decide) ?_
      have I6' := I6.pinned (stat I6 n5) (T.obj (i + 1) h6 li6)
      have yl : (Itl X.K a).yld i H5 x H5 := ⟨rfl, fun ys hy => by rw [I6.list_inj hy hq]; exact hx⟩
      refine thnF (pg.run _ _ _ H5 x uv _ I6' ru (step x H5 yl)) fun _ u8 ⟨σ8, H8, I8, hw8, q8⟩ => ?_
      refine thnF (pt.run _ u8 σ8 H8 _ I8 q8) fun b u9 ⟨H9, I9, q9⟩ => ?_
      have fin : ∀ {u : Shared} {H' : Hp}, Inv (X.blk u3 H3 sc ce [it]) ([] ++ pinsAt [it] h6) σ8 H' u → Nx H' → ∃ m, m < n ∧ ∃ i H', Inv (X.blk u3 H3 sc ce [it]) [] (wipe σ (own.map (·.2))) H' u ∧ u.heap.IsListIter it a i ∧ H' it = none ∧ W i m H' := fun {u H'} J nx => by
        obtain ⟨m', hm, w'⟩ := hNx H' nx
        have pp := J.pin (it, o) (List.mem_append_right _ (List.mem_append_right _ (mem_pinsAt (by simp) eo)))
        have ll : (wipe σ (own.map (·.2))).length = σ8.length := by rw [← hw8, wipe_length]
        exact ⟨m', hm, i + 1, H', (J.unpinned (pins := [])).weak ll (fun j v e => by rw [← hw8] at e; exact (wipe_some e).1), ⟨o, pp.1, co, dj⟩, pp.2.1, w'⟩
      cases b with
      | false =>
        simp only [Bool.false_eq_true, if_false] at q9 ⊢
        exact fin I9 q9
      | true =>
        simp only [if_true] at q9 ⊢
        refine thnF (pe.run _ u9 σ8 H9 _ I9 q9) fun z u10 ⟨yv, H10, I10, r10, acc, hD10, hz10, nx⟩ => ?_
        exact app_ok (X := X.blk u3 H3 sc ce [it]) I10 hD10 hz10 r10 fun u11 I11 => fin I11 nx
  exact codeAny_compStart_list loop (T.self X.A 0 _ _ _ li4 loop)
theorem pe_lcH {elt tg l : Expr} {ifs : List Expr} {sc : Scope} {own : List (Str × Nat)} {pos : Pos} {tl : TE} {g : TG} {tt : TT} {te : TE} (hot : HotC X) (nd : X.N.Nodup) (hl : PE X l tl) (ok : BlkOk X.N X.env.scope sc own)
    (hg : ∀ u J C cl fp, PG (X.blk u J sc (compEnvC sc cl C X.env) fp) tg g) (ht : ∀ u J C cl fp, PTs (X.blk u J sc (compEnvC sc cl C X.env) fp) ifs tt) (he : ∀ u J C cl fp, PE (X.blk u J sc (compEnvC sc cl C X.env) fp) elt te) (hs : ∀ x, foldedSetIterable l X.env x = pure x) :
    PE X (.ListComp elt [⟨tg, l, ifs, 0⟩] sc pos) (tLc (iList X.K tl) g tt te (own.map (·.2))) := ⟨fun pins s σ H Q I h => by rw [eval_ListComp]; exact lc_hot hot nd I hl ok hg ht he hs h⟩
end
end DL
set_option maxHeartbeats 4000000
namespace DL
open PySem L2 PySem.Spec PyProof.Rows HotX L2H
/-! ### list comprehensions, over data -/
def wip {α : Type} (l : List (Option α)) : List Nat → List (Option α)
  | [] => l
  | v :: vs => (wip l vs).set v none
theorem wip_eq (σ : L2.St) : ∀ vs : List Nat, wip σ vs = wipe σ vs
  | [] => rfl
  | v :: vs => by
    show (wip σ vs).set v none = (wipe σ vs).set v none
    rw [wip_eq σ vs]
theorem wip_get {α : Type} (l : List (Option α)) (j : Nat) : ∀ vs : List Nat, (wip l vs)[j]? = if j ∈ vs then l[j]?.map (fun _ => none) else l[j]?
  | [] => by simp [wip]
  | v :: vs => by
    show ((wip l vs).set v none)[j]? = _
    have ih := wip_get l j vs
    have len : (wip l vs).length = l.length := by
      clear ih
      induction vs with
      | nil => rfl
      | cons u us q => show ((wip l us).set u none).length = _; rw [List.length_set, q]
    by_cases e : v = j
    · subst e
      rw [List.getElem?_set]
      simp only [if_true, List.mem_cons, true_or, len]
      by_cases h : v < l.length
      · rw [if_pos h, List.getElem?_eq_getElem h]; rfl
      · rw [if_neg h, List.getElem?_eq_none (by omega)]; rfl
    · rw [List.getElem?_set_ne e, ih]
      simp only [List.mem_cons, show (j = v) = False from eq_false (fun z => e z.symm), false_or]
theorem wip_set {α : Type} (l : List (Option α)) (x : Option α) {i : Nat} {vs : List Nat} (h : i ∈ vs) : wip ((wip l vs).set i x) vs = wip l vs := by
  refine List.ext_getElem? fun j => ?_
  rw [wip_get, wip_get]
  by_cases hj : j ∈ vs
  · rw [if_pos hj, if_pos hj]
    by_cases e : i = j
    · subst e
      rw [List.getElem?_set]
      simp only [if_true]
      have e1 := wip_get l i vs
      rw [if_pos hj] at e1
      by_cases q : i < (wip l vs).length
      · rw [if_pos q]
        rw [List.getElem?_eq_getElem q] at e1
        cases z : l[i]? with
        | none => rw [z] at e1; cases e1
        | some u => rfl
      · rw [if_neg q]
        rw [List.getElem?_eq_none (by omega)] at e1
        exact e1
    · rw [List.getElem?_set_ne e, wip_get, if_pos hj]
      cases l[j]? <;> rfl
  · rw [if_neg hj, if_neg hj, List.getElem?_set_ne (fun e => hj (by rw [← e]; exact h)), wip_get, if_neg hj]
theorem EnvOk.wip {K : PySem.W.Frag} {F : Hp} {ρ : En} {σ : L2.St} {vs : List Nat} (h : EnvOk K F ρ σ) : EnvOk K F (DL.wip ρ vs) (DL.wip σ vs) := by
  refine ⟨?_, fun j d e => ?_⟩
  · induction vs with
    | nil => exact h.1
    | cons u us q => show ((DL.wip ρ us).set u none).length = ((DL.wip σ us).set u none).length; rw [List.length_set, List.length_set, q]
  · rw [wip_get] at e ⊢
    by_cases hj : j ∈ vs
    · rw [if_pos hj] at e
      cases z : ρ[j]? with
      | none => rw [z] at e; cases e
      | some u => rw [z] at e; cases e
    · rw [if_neg hj] at e ⊢
      exact h.2 j d e
theorem EnvOk.clr {K : PySem.W.Frag} {F : Hp} {ρ : En} {σ : L2.St} {i : Nat} (h : EnvOk K F ρ σ) : EnvOk K F (ρ.set i none) (σ.set i none) := EnvOk.wip (vs := [i]) h
/-- [e for i in ..]: p is the new list; I of the turn and the cells -/
def wLc (wi : WI) (i : Nat) (vs : List Nat) (tt : WT) (te : WEx) : WEx := fun ρ μ Q => wi ρ μ fun k μ1 => ∀ p, μ1 p = none → ∃ I : Nat → Mu → Prop, I 0 (um μ1 p (.lst [])) ∧ (∀ j μ, I j μ → k.ok μ) ∧
  (∀ j d μ, k.items[j]? = some d → I j μ → tt ((wip ρ vs).set i (some d)) μ fun b μ3 => if b = true then te ((wip ρ vs).set i (some d)) μ3 fun y μ4 => ∃ acc, μ4 p = some (.lst acc) ∧ acc.length < 100000 ∧ I (j + 1) (um μ4 p (.lst (acc ++ [y]))) else I (j + 1) μ3) ∧ ∀ μ, I k.items.length μ → Q (.mut p) μ
section
variable {K : PySem.W.Frag} {W : WX} {E : EX}
theorem dn_lc {ti : TI} {wi : WI} {tt : TT} {wt : WT} {te : TE} {we : WEx} {i : Nat} {vs : List Nat} (hi : DnI K W E ti wi) (ht : DnT K W E tt wt) (he : Dn K W E te we) (hv : i ∈ vs) : Dn K W E (tLc ti (gName i) tt te vs) (wLc wi i vs wt we) := by
  intro F μ H ρ σ Q0 Q s h q
  refine hi F μ H ρ σ _ _ s h fun F1 μ1 H1 J k g1 s1 kk hk => ?_
  intro p hp
  have fr := s1.ok.free hp
  obtain ⟨I, i0, hok, step, done⟩ := hk p fr.2
  refine ⟨fun j m H' => m = k.items.length - j ∧ j ≤ k.items.length ∧ ∃ F' μ', Grow F1 F' ∧ S0 K W E F' μ' H' ρ σ ∧ I j μ', ⟨_, rfl, Nat.zero_le _, F1, _, Grow.refl, s1.mono Grow.refl (s1.ok.cell (m := .lst []) fr.1 ⟨[], upd_same, DVs.nil⟩), i0⟩, ?_⟩
  rintro j m H2 ⟨rfl, hl, F2, μ2, g2, s2, i2⟩
  by_cases hlt : j < k.items.length
  · refine .inr ⟨kk.go F2 μ2 H2 j g2 s2.ok (hok j μ2 i2) hlt, fun H' => j + 1 ≤ k.items.length ∧ ∃ F' μ', Grow F1 F' ∧ S0 K W E F' μ' H' ρ σ ∧ I (j + 1) μ', fun H' hN => ⟨k.items.length - (j + 1), by omega, rfl, hN.1, hN.2⟩, fun x H3 y => ?_⟩
    obtain ⟨F3, d, g3, s3, ed, dv⟩ := kk.yld F2 μ2 H2 j x H3 g2 s2.ok (hok j μ2 i2) hlt y
    have h3 := step j d μ2 ed i2
    rw [← wip_eq]
    refine ⟨by rw [← wip_eq]; exact wip_set σ (some x) hv, ?_⟩
    have S3 : S0 K W E F3 μ2 H3 ρ σ := s2.mono g3 s3
    refine ht F3 μ2 H3 _ _ _ _ ⟨s3, (S3.env.wip (vs := vs)).set dv, S3.wok⟩ h3 fun F4 μ4 H4 b g4 s4 h4 => ?_
    have S4 : S0 K W E F4 μ4 H4 ρ σ := S3.mono g4 s4.ok
    cases b with
    | false =>
      simp only [Bool.false_eq_true, if_false] at h4 ⊢
      exact ⟨hlt, F4, μ4, g2.trans (g3.trans g4), S4, h4⟩
    | true =>
      simp only [if_true] at h4 ⊢
      refine he F4 μ4 H4 _ _ _ _ s4 h4 fun F5 μ5 H5 dy yv g5 s5 dvy ⟨acc, ea, la, h5⟩ => ?_
      obtain ⟨f5, xs, ho, dl⟩ := s5.ok.cel p _ ea
      exact ⟨xs, ho, sz5l (by rw [dl.len]; exact la), hlt, F5, _, g2.trans (g3.trans (g4.trans g5)), (S4.mono g5 s5.ok).mono Grow.refl (s5.ok.cell (m := .lst _) f5 ⟨_, upd_same, dl.append (DVs.cons dvy DVs.nil)⟩), h5⟩
  · have ei : j = k.items.length := by omega
    subst ei
    exact .inl ⟨kk.stop F2 μ2 H2 _ g2 s2.ok (hok _ μ2 i2) (Nat.le_refl _), q F2 μ2 H2 (.mut p) (.ref p) (g1.trans g2) s2 rfl (done μ2 i2)⟩
end
structure DTs (X : Cx) (W : WX) (E : EX) (ifs : List Expr) (t : TT) (w : WT) : Prop where
  pe : PTs X ifs t
  dn : DnT X.K W E t w
def wYes : WT := fun _ μ Q => Q true μ
theorem tsnil {X : Cx} {W : WX} {E : EX} : DTs X W E [] tYes wYes := ⟨pts_nil, fun F μ H ρ σ Q0 Q s h q => q F μ H true Grow.refl s h⟩
theorem tsone {X : Cx} {W : WX} {E : EX} {c : Expr} {t : TT} {w : WT} (h : DT X W E c t w) : DTs X W E [c] t w := ⟨pts_one h.pe, h.dn⟩
/-- the reading that w alone gives -/
def tOfT (K : PySem.W.Frag) (W : WX) (E : EX) (w : WT) : TT := fun σ H Q => ∃ F μ ρ Q0, S0 K W E F μ H ρ σ ∧ w ρ μ Q0 ∧ ∀ F' μ' H' b, Grow F F' → S0 K W E F' μ' H' ρ σ → Q0 b μ' → Q b H'
def tOfE (K : PySem.W.Frag) (W : WX) (E : EX) (w : WEx) : TE := fun σ H Q => ∃ F μ ρ Q0, S0 K W E F μ H ρ σ ∧ w ρ μ Q0 ∧ PQ K W E F ρ σ Q0 Q
theorem dn_ofT {K : PySem.W.Frag} {W : WX} {E : EX} {w : WT} : DnT K W E (tOfT K W E w) w := fun F μ H ρ σ Q0 Q s h q => ⟨F, μ, ρ, Q0, s, h, q⟩
theorem dn_ofE {K : PySem.W.Frag} {W : WX} {E : EX} {w : WEx} : Dn K W E (tOfE K W E w) w := fun F μ H ρ σ Q0 Q s h q => ⟨F, μ, ρ, Q0, s, h, q⟩
theorem DTs.of {X : Cx} {W : WX} {E : EX} {ifs : List Expr} {t : TT} {w : WT} (h : DTs X W E ifs t w) : PTs X ifs (tOfT X.K W E w) := ⟨fun pins s σ H Q I ⟨F, μ, ρ, Q0, s0, hw, q⟩ => h.pe.run pins s σ H Q I (h.dn F μ H ρ σ Q0 Q s0 hw q)⟩
theorem DE.of {X : Cx} {W : WX} {E : EX} {e : Expr} {t : TE} {w : WEx} (h : DE X W E e t w) : PE X e (tOfE X.K W E w) := ⟨fun pins s σ H Q I ⟨F, μ, ρ, Q0, s0, hw, q⟩ => h.pe.run pins s σ H Q I (h.dn F μ H ρ σ Q0 Q s0 hw q)⟩
section
variable {X : Cx} {W : WX} {E : EX} {elt l : Expr} {n : Str} {np pos : Pos} {ifs : List Expr} {sc : Scope} {own : List (Str × Nat)} {tl te : TE} {wl we : WEx} {tt : TT} {wt : WT} {i : Nat}
theorem elcH (hot : HotC X) (nd : X.N.Nodup) (own : List (Str × Nat)) (i : Nat) {vs : List Nat} (hl : DE X W E l tl wl) (hg : ∀ u J C cl fp, PG (X.blk u J sc (compEnvC sc cl C X.env) fp) (.Name n np) (gName i)) (ht : ∀ u J C cl fp, ∃ tt, DTs (X.blk u J sc (compEnvC sc cl C X.env) fp) W E ifs tt wt)
    (he : ∀ u J C cl fp, ∃ te, DE (X.blk u J sc (compEnvC sc cl C X.env) fp) W E elt te we) (hvs : own.map (·.2) = vs := by rfl) (ok : blkC X.N X.env.scope sc own = true := by rfl) (hv : i ∈ own.map (·.2) := by decide) (hs : ∀ x, foldedSetIterable l X.env x = pure x := by intro _; rfl) :
    DE X W E (.ListComp elt [⟨.Name n np, l, ifs, 0⟩] sc pos) (tLc (iList X.K tl) (gName i) (tOfT X.K W E wt) (tOfE X.K W E we) vs) (wLc (iLs wl) i vs wt we) := by
  subst hvs
  exact ⟨pe_lcH hot nd hl.pe (blkOk_by ok) hg (fun u J C cl fp => (ht u J C cl fp).elim fun _ h => h.of) (fun u J C cl fp => (he u J C cl fp).elim fun _ h => h.of) hs, dn_lc (di_list hl.dn) dn_ofT dn_ofE hv⟩
end
theorem gnmP {X : Cx} {x : Str} {pos : Pos} (i : Nat) (hN : X.N.Nodup) (hi : X.N[i]? = some x := by rfl) (hx : Loc X.env.scope x := by first | exact Or.inl rfl | exact Or.inr rfl) (hf : X.fn x = true ∨ X.env.scope.names.lookup x = some .local := by first | exact .inl rfl | exact .inr rfl) : PG X (.Name x pos) (gName i) := pg_name hN hi hx hf
/-! ### a def called where an exception of the class C is handled -/
/-- the exception at a, of the class C, is handled in X -/
def HotE (X : Cx) (a C : Addr) : Prop := ∃ oe, (a, oe) ∈ X.pn ∧ Hot1 X.A (a, oe) ∧ L2N.Zn (.ref C) none oe
theorem HotE.c {X : Cx} {a C : Addr} (h : HotE X a C) : HotC X := let ⟨oe, m, h1, _⟩ := h; ⟨(a, oe), h1, m⟩
structure FnHC (P : Program) (w : World) (K : PySem.W.Frag) (mg : Str → Option Value) (base : Heap) (CX : CXT) (k : Nat) (f : Addr) (fd : FuncData) (ps : List Str) (sp : Addr → Addr → Sp) : Prop where
  len : ∀ a C vs H Q E, sp a C vs H Q E → vs.length = ps.length
  run : ∀ (A : Around) (outer : List Env) (s : Shared) (H : Hp) (args : Args) (us : List Value) (vs : List V) (Q : VK) (E : XK) (p : Addr × Obj) (C : Addr), RoomH k A → Hot1 A p → L2N.Zn (.ref C) none p.2 → PinOk outer H s p → Env0 P w K mg base A outer s H →
    BindsTo s fd args (ps.zip us) → Vals vs us → sp p.1 C vs H Q E → codeAny (model P w) A (.call (.ref f) args) (CR CX outer P w H s Q E) s
section
variable {P : Program} {w : World} {K : PySem.W.Frag} {mg : Str → Option Value} {base : Heap}
theorem fnHC_of {x qual : Str} {st : Stmt} {f : Addr} {fd : FuncData} {N ps : List Str} {k : Nat} {CX : CXT} {sp : Addr → Addr → Sp} (F : Fun K x qual st f fd) (S : FnScope N ps (defScope st)) (len : ∀ a C vs H Q E, sp a C vs H Q E → vs.length = ps.length)
    (hb : ∀ (cdv : Value) (A : Around) (outer : List Env) (s : Shared) (H : Hp) (vs : List V) (Q : VK) (E : XK) (p : Addr × Obj) (C : Addr), Hot1 A p → L2N.Zn (.ref C) none p.2 → RoomH k (A.deeper (envOfC qual (defScope st) s.heap.objs.size f cdv)) → sp p.1 C vs H Q E →
      ∃ t, PSs (cxH CX P w K mg base N qual (defScope st) f cdv A outer s H E p) (defBody st) t ∧ t { nx := fun _ H' => Q .non H', rt := Q } (L2.start N vs) H) : FnHC P w K mg base CX (k + 1) f fd ps sp := by
  obtain ⟨oc, od, kV, dc, pm, an, cv, ct, sl, rfl, lk, hcd⟩ := F.ex
  refine ⟨len, fun A outer s H args us vs Q E p C hr hot hz hpin e0 hbd r hsp => ?_⟩
  have hlen := len _ _ _ _ _ _ hsp
  have inK : K.In s.heap := e0.mod.kin.keeps fun b o e => (e0.bs b o e).1
  refine codeAny_call_function hr.depth (inK _ _ lk) rfl S.co S.gen rfl (PySem.W.codeRec_of inK hcd) (hbd _ _ _ _ ?_)
  refine wpAny_newFunctionEnv_cells S.kind (fun ⟨n, v⟩ hy => ?_) fun env he s1 x => ?_
  · rcases S.par n (List.of_mem_zip hy).1 with q | q
    · exact .inl q
    · exact .inr ⟨q, PySem.W.cellsFrom_some _ _ _ (.inl q)⟩
  subst he
  refine ⟨(e0.mod.nolimit.keeps fun b o e => (e0.bs b o e).1).keeps x.toInCall.keep, codeAny_func ?_⟩
  obtain ⟨t, ht, hq⟩ := hb cv A outer s H vs Q E p C hot hz (hr.deeper _) hsp
  have I := inv_startH (CX := CX) (E := E) S hpin e0 hlen r x
  refine wpAny_mono (ht.run [] s1 (L2.start N vs) H _ I hq) (fun fl s' hs => ?_) fun e s' hs => hs
  match fl, hs with
  | .ret u, ⟨v, σ', H', J, rv, q⟩ => exact ⟨v, H', J.os, J.bare, J.base, J.hok, rv, q⟩
  | .next, ⟨σ', H', J, q⟩ => exact ⟨V.non, H', J.os, J.bare, J.base, J.hok, rfl, q⟩
  | .brk, ⟨_, _, _, q⟩ => exact q.elim
  | .cont, ⟨_, _, _, q⟩ => exact q.elim
theorem FnHC.call {X : Cx} {k : Nat} {f : Addr} {fd : FuncData} {ps : List Str} {sp : Addr → Addr → Sp} {CX : CXT} {E : L2.St → XK} {a C : Addr} {x : Str} {q pos : Pos} {e : Expr} {es : List Expr} {t : TA} (F : FnHC X.prog X.w X.K X.mg X.base CX k f fd ps sp) (hr : RoomH k X.A) (hc : HotE X a C) (hg : Gl X x) (hm : X.mg x = some (.ref f))
    (hk : PySem.W.keepIn X.K (.ref f) = true) (hb : Binds X.K fd ps []) (hx : ∀ σ, PassesAt CX X σ (E σ)) (ha : PA X (e :: es) t) (hdb : (x == ("__debug__" : Str)) = false) (he : starEach (e :: es) X.env = (false, eval e X.env) :: starEach es X.env) (hpl : (backTo pos (starEach es X.env)).any (·.1) = false) :
    PE X (.Call (.Name x q) (e :: es) [] pos) (tCallS (sp a C) E t) := by
  refine ⟨fun pins s σ H Q I h => wpAny_Call_Name_kw (ld_glob I hg hm ?_ hdb)⟩
  refine PySem.W.callWith_K (h₀ := X.base) I.ok.mod.kin hk (thn (ha.run pos pins s σ H _ I h) fun us s1 ⟨vs, H1, I1, r, z⟩ => ⟨I1.kIn, ?_⟩) he hpl
  obtain ⟨oe, hm, h1, hz⟩ := hc
  have bb := hb s1 us I1.kIn (by rw [List.append_nil, ← r.length]; exact F.len _ _ _ _ _ _ z)
  rw [List.append_nil] at bb
  have pp := I1.pin (a, oe) (List.mem_append_left _ hm)
  refine wpAny_call (codeAny_mono (F.run X.A X.stack s1 H1 ⟨us, []⟩ us vs Q (E σ) (a, oe) C hr h1 hz ⟨pp.1, pp.2.1, fun w => (List.mem_cons.mp (I1.stkSub a w)).elim pp.2.2.1 pp.2.2.2.1, pp.2.2.2.2⟩ I1.env0 bb r z) fun res s' hq => ?_)
  match res, hq with
  | .error er, hq => exact hx σ pins H1 s1 er s' I1 hq
  | .ok (.ret u), hq => exact I1.after hq
end
abbrev CtH := Addr → Addr → Ct
structure DfH (P : Program) (w : World) (K : PySem.W.Frag) (mg : Str → Option Value) (base : Heap) (x : Str) (k : Nat) (ps : List Str) (c : CtH) : Prop where
  ex : ∃ f fd, FnHC P w K mg base (L2N.CX P w) k f fd ps (fun a C => spD K (c a C)) ∧ mg x = some (.ref f) ∧ PySem.W.keepIn K (.ref f) = true ∧ Binds K fd ps []
section
variable {P : Program} {w : World} {K : PySem.W.Frag} {mg : Str → Option Value} {base : Heap}
theorem okH {x qual : Str} {st : Stmt} {f : Addr} {fd : FuncData} {N ps : List Str} {k : Nat} {c : CtH} (F : Fun K x qual st f fd) (S : FnScope N ps (defScope st)) (hn : ps.length ≤ N.length) (hl : ∀ a C ds μ Q E, c a C ds μ Q E → ds.length = ps.length) (PC : Addr → Prop) (hPC : ∀ a C ds μ Q E, c a C ds μ Q E → PC C)
    (hb : ∀ (X : Cx) (W : WX) (E : EX) (cdv : Value) (A : Around) (outer : List Env) (s : Shared) (H : Hp) (Ex : XK) (p : Addr × Obj) (C : Addr), X = cxH (L2N.CX P w) P w K mg base N qual (defScope st) f cdv A outer s H Ex p → PC C → HotE X p.1 C → L2N.Takes X W → PassesOwn (model X.prog X.w) X.A X.env X.xe → RoomH k X.A →
      ∃ t ws, DSs X W E (defBody st) t ws ∧ ∀ ds μ Q E0, c p.1 C ds μ Q E0 → E = (fun C fs _ μ => dwx E0 C fs μ) → ws (rets Q) (st0 N.length ds) μ) : FnHC P w K mg base (L2N.CX P w) (k + 1) f fd ps (fun a C => spD K (c a C)) := by
  refine fnHC_of F S (fun a C vs H Q E h => ?_) (fun cdv A outer s H vs Q Ex p C hot hz hr h => ?_)
  · obtain ⟨F, μ, ds, Q0, E0, _, dv, hc, _⟩ := h
    rw [dv.len]; exact hl _ _ _ _ _ _ hc
  · obtain ⟨F0, μ, ds, Q0, E0, sk, dv, hc, hq, he⟩ := h
    obtain ⟨t, ws, hd, hw⟩ := hb _ (fun cls d _ H => Ex cls d H) (fun C fs _ μ => dwx E0 C fs μ) cdv A outer s H Ex p C rfl (hPC _ _ _ _ _ _ hc) ⟨p.2, List.mem_cons_self, hot, hz⟩ (L2N.takes_of rfl rfl rfl rfl) (passes_of rfl) hr
    refine ⟨t, hd.pe, hd.dn F0 μ H _ _ (rets Q0) _ ⟨sk, env_start dv (by rw [hl _ _ _ _ _ _ hc]; exact hn), fun F' μ' H' ρ σ C d fs g s' _ ex h' => he F' μ' H' C d fs g s' ex h'⟩ (hw ds μ Q0 E0 hc rfl) ⟨fun F' μ' H' ρ' σ' g s' h' => hq F' μ' H' .non .non g s'.ok rfl h', fun F' μ' H' d v g s' dv' h' => hq F' μ' H' d v g s' dv' h', fun F' μ' H' ρ' σ' g s' h' => h'.elim, fun F' μ' H' ρ' σ' g s' h' => h'.elim⟩⟩
end
section
variable {X : Cx} {W : WX} {E : EX} {k : Nat} {ps : List Str} {c : CtH} {x : Str} {p pos : Pos} {e : Expr} {es : List Expr} {tas : TA} {was : WA} {a C : Addr}
theorem ecallH (tk : L2N.Takes X W) (h : DfH X.prog X.w X.K X.mg X.base x k ps c) (hc : HotE X a C) (hr : RoomH k X.A) (ha : DA X W E (e :: es) tas was)
    (hg : Gl X x := by rfl) (hdb : (x == ("__debug__" : Str)) = false := by decide) (he : starEach (e :: es) X.env = (false, eval e X.env) :: starEach es X.env := by rfl) (hpl : (backTo pos (starEach es X.env)).any (·.1) = false := by rfl) :
    DE X W E (.Call (.Name x p) (e :: es) [] pos) (tCallS (spD X.K (c a C)) (WE W) tas) (wCall (c a C) E was) := by
  obtain ⟨f, fd, G, hm, hk, hb⟩ := h.ex
  exact ⟨G.call hr hc hg hm hk hb (fun σ => L2N.passAt tk σ) ha.pe hdb he hpl, dn_call ha.dn⟩
/-! ### isinstance of it -/
theorem call_isx (hc : HotE X a C) (ex : ExcC X.K C) : CallR X (.builtin "isinstance") (rIsE X.K C a) := by
  intro pins s σ H xs us Q I r h
  obtain ⟨cl, cv, b, rfl, hcv, e, q⟩ := h
  obtain ⟨u1, u2, rfl, r1, r2⟩ := vals2 r
  cases r1
  have ec := hcv _ r2
  subst ec
  obtain ⟨oe, hm, ⟨_, vs, hv, _⟩, hz⟩ := hc
  have gt := (I.pin (a, oe) (List.mem_append_left _ hm)).1
  have J : PySem.W.InstAt s.heap a oe C none := by
    obtain ⟨oc, od, oda, osl⟩ := oe
    obtain ⟨h1, h2, _⟩ := hz
    dsimp only at h1 h2 hv
    subst h1 h2 hv
    exact ⟨gt, rfl, rfl, trivial⟩
  exact PySem.W.kia_one (PySem.W.handS_kitx_exc ex.hg ex.hk ex.hs ex.hd ex.ha ex.hn ex.ht ex.hm) I.kIn J e (fun z => nomatch z) fun tk => ⟨.bl b, H, I.kept (t' := tk) fun _ _ z => z, rfl, q⟩
def wIsx (b : Bool) (a : Addr) (w : WEx) : WEx := fun ρ μ Q => w ρ μ fun d μ1 => d = .mut a ∧ Q (.bl b) μ1
variable {o : Expr} {te : TE} {we : WEx} {p2 : Pos} {Y : Addr} {y : Str} {b : Bool}
theorem dn_isx {K : PySem.W.Frag} {cl : V} {cv : Value} (hv : ∀ u, RelV cl u → u = cv) (hk : PySem.W.kitOne K (.ref C) cv = some b) (he : Dn K W E te we) : Dn K W E (tCB (rIsE K C a) (tCons te (tCons (tC cl) tNil))) (wIsx b a we) := by
  intro F μ H ρ σ Q0 Q s h q
  refine he F μ H ρ σ _ _ s h fun F1 μ1 H1 d v g1 s1 dv h1 => ?_
  obtain ⟨rfl, h1⟩ := h1
  obtain rfl : v = V.ref a := dv
  exact ⟨cl, cv, b, rfl, hv, hk, q F1 μ1 H1 (.bl b) _ g1 s1 rfl h1⟩
theorem eisx (hc : HotE X a C) (ex : ExcC X.K C) (hmi : X.mg "isinstance" = none) (hy : X.mg y = some (.ref Y)) (hk : PySem.W.kitOne X.K (.ref C) (.ref Y) = some b) (he : DE X W E o te we) (hg : Gl X "isinstance" := by rfl) (hgy : Gl X y := by rfl) (hdb : (y == ("__debug__" : Str)) = false := by decide)
    (hp : X.mg "isinstance" = none → CallR X (.builtin "isinstance") (rIsE X.K C a) → PE X o te → PE X (.Name y p2) (tC (.ref Y)) → PE X (.Call (.Name "isinstance" p) [o, .Name y p2] [] pos) (tCB (rIsE X.K C a) (tCons te (tCons (tC (.ref Y)) tNil))) := by exact fun m z x y => pe_callB z (by rfl) m (by decide +kernel) (pa_cons x (pa_cons y pa_nil))) :
    DE X W E (.Call (.Name "isinstance" p) [o, .Name y p2] [] pos) (tCB (rIsE X.K C a) (tCons te (tCons (tC (.ref Y)) tNil))) (wIsx b a we) :=
  ⟨hp hmi (call_isx hc ex) he.pe (pe_glob hgy hy rfl hdb), dn_isx (fun u r => r) hk he.dn⟩
theorem eisxN (hc : HotE X a C) (ex : ExcC X.K C) (hmi : X.mg "isinstance" = none) (h : ∃ Y, X.mg y = some (.ref Y) ∧ PySem.W.kitOne X.K (.ref C) (.ref Y) = some b) (he : DE X W E o te we) (hg : Gl X "isinstance" := by rfl) (hgy : Gl X y := by rfl) (hdb : (y == ("__debug__" : Str)) = false := by decide)
    (hp : X.mg "isinstance" = none → CallR X (.builtin "isinstance") (rIsE X.K C a) → PE X o te → PE X (.Name y p2) (tC (.ref h.choose)) → PE X (.Call (.Name "isinstance" p) [o, .Name y p2] [] pos) (tCB (rIsE X.K C a) (tCons te (tCons (tC (.ref h.choose)) tNil))) := by exact fun m z x y => pe_callB z (by rfl) m (by decide +kernel) (pa_cons x (pa_cons y pa_nil))) :
    DE X W E (.Call (.Name "isinstance" p) [o, .Name y p2] [] pos) (tCB (rIsE X.K C a) (tCons te (tCons (tC (.ref h.choose)) tNil))) (wIsx b a we) :=
  ⟨hp hmi (call_isx hc ex) he.pe (pe_glob hgy h.choose_spec.1 rfl hdb), dn_isx (fun u r => r) h.choose_spec.2 he.dn⟩
theorem eisxB (hc : HotE X a C) (ex : ExcC X.K C) (T : String) (hmi : X.mg "isinstance" = none) (hy : X.mg y = none) (hvT : bootBuiltins y = some (.type T)) (hk : PySem.W.kitOne X.K (.ref C) (.type T) = some b) (he : DE X W E o te we) (hg : Gl X "isinstance" := by rfl) (hgy : Gl X y := by rfl)
    (hn : y ≠ "__name__" := by decide) (hdb : (y == ("__debug__" : Str)) = false := by decide)
    (hp : X.mg "isinstance" = none → CallR X (.builtin "isinstance") (rIsE X.K C a) → PE X o te → PE X (.Name y p2) (tC (.ty T)) → PE X (.Call (.Name "isinstance" p) [o, .Name y p2] [] pos) (tCB (rIsE X.K C a) (tCons te (tCons (tC (.ty T)) tNil))) := by exact fun m z x y => pe_callB z (by rfl) m (by decide +kernel) (pa_cons x (pa_cons y pa_nil))) :
    DE X W E (.Call (.Name "isinstance" p) [o, .Name y p2] [] pos) (tCB (rIsE X.K C a) (tCons te (tCons (tC (.ty T)) tNil))) (wIsx b a we) :=
  ⟨hp hmi (call_isx hc ex) he.pe (pe_bltn hgy hy hvT rfl hn hdb), dn_isx (fun u r => r) hk he.dn⟩
end
/-! ### try: body, except x as n: suite -/
theorem room_mark {k : Nat} {A : Around} {h : Option Value} (r : Room k A) : RoomH k (A.mark h) := ⟨r.dp, r.un⟩
def noW : WX := fun _ _ _ _ => False
def noE : EX := fun _ _ _ _ => False
theorem takes_no {X : Cx} : L2N.Takes X noW := fun u s' ⟨_, _, _, _, _, _, _, _, _, _, _, _, _, _, _, _, z⟩ => z.elim
def clrD (i : Nat) (D : DEnds) : DEnds := { nx := fun ρ μ => D.nx (ρ.set i none) μ, rt := D.rt, bk := fun ρ μ => D.bk (ρ.set i none) μ, ct := fun ρ μ => D.ct (ρ.set i none) μ }
/-- P: the classes that are caught -/
def wTry (P : Addr → Prop) (i : Nat) (wb : EX → WS) (ws : Addr → Addr → WS) : WS := fun D ρ μ => wb (fun C fs ρ1 μ1 => fs = [] ∧ P C ∧ ∀ a, μ1 a = none → ws a C (clrD i D) (ρ1.set i (some (.mut a))) μ1) D ρ μ
def tSuite (ts : Addr → Addr → TS) : Addr → Value → Option Addr → TS := fun a cls d => match cls, d with
  | .ref C, none => ts a C
  | _, _ => tNever
/-- the reading that w alone gives -/
def tOfS (K : PySem.W.Frag) (w : EX → WS) (W : WX) : TS := fun Ds σ H => ∃ E F μ ρ D0, S0 K W E F μ H ρ σ ∧ w E D0 ρ μ ∧ EndsOk K W E F D0 Ds
theorem pss_of {X : Cx} {W : WX} {sts : List Stmt} {w : EX → WS} (h : ∀ E, ∃ t, DSs X W E sts t (w E)) : PSs X sts (tOfS X.K w W) := ⟨fun pins s σ H Ds I ⟨E, F, μ, ρ, D0, s0, hw, e⟩ => (h E).elim fun t d => d.pe.run pins s σ H Ds I (d.dn F μ H ρ σ D0 Ds s0 hw e)⟩
section
variable {X : Cx} {W : WX} {E : EX} {P : Addr → Prop} {i : Nat} {x n : Str} {c : Value} {np pos pos' : Pos} {body suite : List Stmt} {b₀ : Stmt} {wb : EX → WS} {ws : Addr → Addr → WS}
theorem stry (tk : L2N.Takes X W) (hP : ∀ C, P C → PySem.W.exmOne X.K (.ref C) c = some true) (hc : Names X x c) (hN : X.N.Nodup)
    (hb : ∀ (W : WX) (E : EX) (pn : List (Addr × Obj)) (xe : Value → Shared → Prop), L2N.Takes (X.tr pn xe) W → ∃ t, DSs (X.tr pn xe) W E body t (wb E))
    (hsu : ∀ (a C : Addr) (pn : List (Addr × Obj)), HotE (X.suite a pn) a C → L2N.Takes (X.suite a pn) noW → ∃ t, DSs (X.suite a pn) noW noE (b₀ :: suite) t (ws a C))
    (hs : X.stack = X.env :: X.outer := by rfl) (hf : X.env.frame = some X.env.locals := by rfl) (hi : X.N[i]? = some n := by rfl) (hln : X.env.kindOf n = some .local := by rfl) :
    DS X W E (.Try body [.ExceptHandler (some (.Name x np)) (some n) (b₀ :: suite) pos'] [] [] pos) (fun D σ H => tOfS X.K wb (wAs X.K c i (tSuite fun a C => fun Ds σ H => ∃ F μ ρ D0, S0 X.K noW noE F μ H ρ σ ∧ ws a C D0 ρ μ ∧ EndsOk X.K noW noE F D0 Ds) W D) D σ H) (wTry P i wb ws) := by
  have hot : ∀ a C oe pn, L2N.Zn (.ref C) none oe → (∃ vs, oe.data = .fields vs) → HotE (X.suite a ((a, oe) :: pn)) a C := fun a C oe pn hz ⟨vs, hv⟩ => ⟨oe, List.mem_cons_self, ⟨rfl, vs, hv, hz.2.2 vs hv⟩, hz⟩
  refine ⟨L2N.ps_try_as hs hf hN hi hln hc tk (fun W' pn xe tk' _ => pss_of fun E => hb W' E pn xe tk') (fun a oe cls d pn hz hv => ?_), ?_⟩
  · unfold tSuite
    split
    · obtain ⟨t, su⟩ := hsu a _ _ (hot a _ oe pn hz hv) takes_no
      exact ⟨fun pins s σ H Ds I ⟨F, μ, ρ, D0, s0, hw, e⟩ => su.pe.run pins s σ H Ds I (su.dn F μ H ρ σ D0 Ds s0 hw e)⟩
    · exact pss_never
  · intro F μ H ρ σ D0 Ds s h e
    refine ⟨fun C fs ρ1 μ1 => fs = [] ∧ P C ∧ ∀ a, μ1 a = none → ws a C (clrD i D0) (ρ1.set i (some (.mut a))) μ1, F, μ, ρ, D0, ⟨s.ok, s.env, fun F1 μ1 H1 ρ1 σ1 C d fs g1 s1 env1 ex1 ⟨ef, hPC, hw⟩ => ?_⟩, h, fun F1 μ1 H1 ρ1 σ1 g1 s1 h1 => e.nx F1 μ1 H1 ρ1 σ1 g1 ⟨s1.ok, s1.env, s.wok.mono g1⟩ h1, e.rt, fun F1 μ1 H1 ρ1 σ1 g1 s1 h1 => e.bk F1 μ1 H1 ρ1 σ1 g1 ⟨s1.ok, s1.env, s.wok.mono g1⟩ h1, fun F1 μ1 H1 ρ1 σ1 g1 s1 h1 => e.ct F1 μ1 H1 ρ1 σ1 g1 ⟨s1.ok, s1.env, s.wok.mono g1⟩ h1⟩
    subst ef
    have ed : d = none := ex1.elim (fun z => z.2) fun z => absurd rfl z.1
    subst ed
    refine ⟨true, hP C hPC, fun _ a ha => ?_, fun z => nomatch z⟩
    have back : ∀ {N0 : En → Mu → Prop} {N : L2.St → Hp → Prop}, PN X.K W E F N0 N → PN X.K noW noE F1 (fun ρ μ => N0 (ρ.set i none) μ) (fun σ H => N (σ.set i none) H) := fun {N0 N} hn F2 μ2 H2 ρ2 σ2 g2 s2 h2 => hn F2 μ2 H2 _ _ (g1.trans g2) ⟨s2.ok, s2.env.clr, s.wok.mono (g1.trans g2)⟩ h2
    exact ⟨F1, μ1, _, clrD i D0, ⟨s1, env1.set (d := .mut a) (v := .ref a) rfl, fun _ _ _ _ _ _ _ _ _ _ _ _ z => z.elim⟩, hw a (s1.free ha).2, back e.nx, fun F2 μ2 H2 d v g2 s2 dv h2 => e.rt F2 μ2 H2 d v (g1.trans g2) s2 dv h2, back e.bk, back e.ct⟩
end
end DL
set_option maxHeartbeats 4000000
namespace DL
open PySem L2 PySem.Spec PyProof.Rows
/-! ### calls by keywords, with defaults: how they bind -/
theorem cbF {K : PySem.W.Frag} {x qual : Str} {st : Stmt} {f : Addr} {fd : FuncData} {ps ks : List Str} {n : Nat} (F : Fun K x qual st f fd) (g : {α : Type} → List α → List α → List α)
    (hrel : ∀ {vs : List V} {us : List Value} {zs : List V} {ws : List Value}, vs.length = n → zs.length = ks.length → Vals vs us → Vals zs ws → Vals (g vs zs) (g us ws))
    (h : ∀ (kV doc pm : Value) (an : Option Addr) (cdv ct : Value) (us ws : List Value), us.length = n → ws.length = ks.length → bindArgs (PySem.W.fnOf x qual (defArgs st) (defBody st) (defScope st) .none kV doc pm an cdv ct) ⟨us, ks.zip ws⟩ = pure (ps.zip (g us ws))) : CB K fd ps n ks g := by
  obtain ⟨oc, od, kV, dc, pm, an, cv, ct, sl, rfl, lk, hcd⟩ := F.ex
  exact ⟨g, fun s us ws _ l1 l2 => .of_eq (h kV dc pm an cv ct us ws l1 l2), hrel⟩
theorem cbD {K : PySem.W.Frag} {x qual : Str} {st : Stmt} {f : Addr} {fd : FuncData} {ps ks : List Str} {dvs : List V} {n : Nat} (F : FunD K x qual (defArgs st) (defBody st) (defScope st) dvs [] f fd) (hd : dvs ≠ []) (g : {α : Type} → List α → List α → List α → List α)
    (hrel : ∀ {vs ds : List V} {us its : List Value} {zs : List V} {ws : List Value}, vs.length = n → zs.length = ks.length → Vals vs us → Vals ds its → Vals zs ws → Vals (g vs ds zs) (g us its ws))
    (h : ∀ (T : Addr) (kV doc pm : Value) (an : Option Addr) (cdv ct : Value) (us its ws : List Value), us.length = n → its.length = dvs.length → ws.length = ks.length →
      ∃ k, bindArgs (PySem.W.fnOf x qual (defArgs st) (defBody st) (defScope st) (.ref T) kV doc pm an cdv ct) ⟨us, ks.zip ws⟩ = seqItems? (.ref T) >>= k ∧ k (some its.toArray) = pure (ps.zip (g us its ws))) : CB K fd ps n ks (fun vs zs => g vs dvs zs) := by
  obtain ⟨oc, od, dV, kV, dc, pm, an, cv, ct, sl, rfl, lk, hcd, hD, hK⟩ := F.ex
  rcases hD with ⟨e, _⟩ | ⟨_, T, o, its, m, rfl, lT, oT, rT⟩
  · exact absurd e hd
  · refine ⟨fun us ws => g us its ws, fun s us ws X l1 l2 => BindsTo.of_looks fun M => ?_, fun l1 l2 r1 r2 => hrel l1 l2 r1 rT r2⟩
    obtain ⟨k, e1, e2⟩ := h T kV dc pm an cv ct us its ws l1 rT.length.symm l2
    rw [e1]
    exact looks_items X lT oT (.of_pure e2)
section
variable {X : Cx} {W : WX} {E : EX} {k n m : Nat} {ps ks : List Str} {c : Ct} {x nm : Str} {p pos kpos : Pos} {e : Expr} {es : List Expr} {kws : List Keyword} {ta : TE} {wa : WEx} {tas tks : TA} {was wks : WA} {gV : List V → List V → List V} {gD : List D → List D → List D}
theorem ecallKm (tk : L2N.Takes X W) (h : DfG X.prog X.w X.K X.mg X.base x k ps n ks gV c) (hG : GD X.K n m gV gD) (hr : Room k X.A) (ha : DA X W E (e :: es) tas was) (hkw : DK X W E kws tks wks) (hkm : ks.length = m := by rfl)
    (hg : Gl X x := by rfl) (hks : (backToKw pos (keywordEach kws X.env)).filterMap (·.1) = ks := by rfl) (hall : (backToKw pos (keywordEach kws X.env)).all (·.1.isSome) = true := by rfl) (hdb : (x == ("__debug__" : Str)) = false := by decide) (he : starEach (e :: es) X.env = (false, eval e X.env) :: starEach es X.env := by rfl)
    (hpl : ((backTo pos (starEach (e :: es) X.env)).any (·.1) || (backToKw pos (keywordEach kws X.env)).any (·.1.isNone)) = false := by rfl) :
    DE X W E (.Call (.Name x p) (e :: es) kws pos) (tCallG n m (spD X.K c) gV (WE W) tas tks) (wCallG n m c gD E was wks) := by
  subst hkm
  exact ecallK tk h hG hr ha hkw hg hks hall hdb he hpl
theorem ecallK0m (tk : L2N.Takes X W) (h : DfG X.prog X.w X.K X.mg X.base x k ps 0 ks gV c) (hG : GD X.K 0 m gV gD) (hr : Room k X.A) (hkw : DK X W E kws tks wks) (hkm : ks.length = m := by rfl)
    (hg : Gl X x := by rfl) (hks : (backToKw pos (keywordEach kws X.env)).filterMap (·.1) = ks := by rfl) (hall : (backToKw pos (keywordEach kws X.env)).all (·.1.isSome) = true := by rfl) (hdb : (x == ("__debug__" : Str)) = false := by decide)
    (hpl : ((backTo pos (starEach [] X.env)).any (·.1) || (backToKw pos (keywordEach kws X.env)).any (·.1.isNone)) = false := by rfl) :
    DE X W E (.Call (.Name x p) [] kws pos) (tCallG 0 m (spD X.K c) gV (WE W) tNil tks) (wCallG 0 m c gD E wNil wks) := by
  subst hkm
  exact ecallK0 tk h hG hr hkw hg hks hall hdb hpl
end
theorem kcons2 {X : Cx} {W : WX} {E : EX} {nm : Str} {kpos : Pos} {e : Expr} {kws : List Keyword} {ta : TE} {wa : WEx} {tks : TA} {wks : WA} (ha : DE X W E e ta wa) (hr : DK X W E kws tks wks) : DK X W E (⟨nm, e, kpos⟩ :: kws) (tCons ta tks) (wCons wa wks) := ⟨pk_cons ha.pe hr.pe, dn_cons ha.dn hr.dn⟩
/-- a def that is called so -/
structure DfnG (K : PySem.W.Frag) (mg : Str → Option Value) (x qual : Str) (st : Stmt) (ps : List Str) (n : Nat) (ks : List Str) (gV : List V → List V → List V) : Prop where
  ex : ∃ f fd, Fun K x qual st f fd ∧ mg x = some (.ref f) ∧ CB K fd ps n ks gV
structure DfnD (K : PySem.W.Frag) (mg : Str → Option Value) (x qual : Str) (st : Stmt) (dvs : List V) : Prop where
  ex : ∃ f fd, FunD K x qual (defArgs st) (defBody st) (defScope st) dvs [] f fd ∧ mg x = some (.ref f)
theorem DfnG.of {K : PySem.W.Frag} {mg : Str → Option Value} {x qual : Str} {st : Stmt} {ps : List Str} {n : Nat} {ks : List Str} (D : Dfn K mg x qual st ps) (g : {α : Type} → List α → List α → List α)
    (hrel : ∀ {vs : List V} {us : List Value} {zs : List V} {ws : List Value}, vs.length = n → zs.length = ks.length → Vals vs us → Vals zs ws → Vals (g vs zs) (g us ws))
    (h : ∀ (kV doc pm : Value) (an : Option Addr) (cdv ct : Value) (us ws : List Value), us.length = n → ws.length = ks.length → bindArgs (PySem.W.fnOf x qual (defArgs st) (defBody st) (defScope st) .none kV doc pm an cdv ct) ⟨us, ks.zip ws⟩ = pure (ps.zip (g us ws))) : DfnG K mg x qual st ps n ks g := by
  obtain ⟨f, fd, F, hm, _⟩ := D
  exact ⟨f, fd, F, hm, cbF F g hrel h⟩
/-! ### two at once by keywords: the other way round -/
def rev2 {α : Type} (_ zs : List α) : List α := match zs with
  | [a, b] => [b, a]
  | _ => []
theorem rev2_rel {vs : List V} {us : List Value} {zs : List V} {ws : List Value} (_ : vs.length = 0) (l : zs.length = 2) (_ : Vals vs us) (r : Vals zs ws) : Vals (rev2 vs zs) (rev2 us ws) := by
  cases r with
  | nil => cases l
  | cons r1 r =>
    cases r with
    | nil => cases l
    | cons r2 r =>
      cases r with
      | nil => exact .cons r2 (.cons r1 .nil)
      | cons r3 r => cases l
theorem rev2_gd {K : PySem.W.Frag} : GD K 0 2 rev2 rev2 := by
  intro F ds es vs zs l1 l2 d1 d2
  match es, l2 with
  | [a, b], _ =>
    obtain ⟨v, r, rfl, da, u, r2, rfl, db, e⟩ := d2
    obtain rfl : r2 = [] := e
    exact DVs.cons db (DVs.cons da DVs.nil)
/-! ### the defaults behind, then the keywords (or either) -/
def fillV (dvs : List V) (vs _ : List V) : List V := vs ++ dvs
def fillD (dds : List D) (ds _ : List D) : List D := ds ++ dds
theorem fill_gd {K : PySem.W.Frag} {n : Nat} {i : Int} : GD K n 0 (fillV [.int i]) (fillD [.int i]) := by
  intro F ds es vs zs l1 l2 d1 d2
  exact d1.append (DVs.cons rfl DVs.nil)
def catV {α : Type} (vs zs : List α) : List α := vs ++ zs
theorem cat_gd {K : PySem.W.Frag} {n m : Nat} : GD K n m catV catV := fun F ds es vs zs _ _ d1 d2 => d1.append d2
end DL
set_option maxHeartbeats 4000000
namespace DL
open PySem L2 PySem.Spec PyProof.Rows
/-! ### the end: the law's def, called; the base tells that nobody looks -/
section
variable {P : Program} {w : World} {K : PySem.W.Frag} {mg mb : Str → Option Value} {CX : CXT} {k : Nat} {fa a : Addr} {fd : FuncData} {x : Str} {sp : Sp} {u : Shared} {vs : List Value} {ns : List Int}
theorem call_from (KX : K.In u.heap) (gG : u.heap.Ns mainGlobals mg) (gB : u.heap.Ns builtinsNs mb) (bb : ∀ x : Str, x ≠ "__name__" → mb x = bootBuiltins x) (lim : u.heap.NoLimit) (seer : u.heap.NoSeer) (gn : u.gens = #[])
    (ga : u.heap.get? a = some { cls := .type "list", data := .seq vs.toArray }) (room : Room k callerA) (F : ∀ base : Heap, K.In base → base.Ns mainGlobals mg → base.NoSeer → FnOk P w K mg base CX k fa fd [x] sp)
    (bind : ∀ (s : Shared) (v : Value), BindsTo s fd ⟨[v], []⟩ [(x, v)]) (noX : ∀ H e s', CX [] H u (fun _ _ _ => False) e s' → False) (H : Hp) (only : Only H) (tell : sp [.ref a] H (fun v _ => v = .bl true) fun _ _ _ => False)
    (hok : HOk P w H u.heap) (one : ∀ b, H b ≠ none → b = a) (inK : H a ≠ none → K.lookup a = none) :
    codeAny (model P w) callerA (.call (.ref fa) ⟨[.ref a], []⟩) (fun r s' => r = .ok (.ret (.bool true)) ∧ OldK u.heap s'.heap ∧ s'.os = u.os ∧ AllBare s'.gens) u := by
  have free : ∀ {b : Addr} {o : Obj}, u.heap.get? b = some o → (b = a → False) → H b = none := fun {b o} _ n => by
    cases q : H b with
    | none => rfl
    | some z => exact (n (one b (by rw [q]; exact fun e => nomatch e))).elim
  have ndict : ∀ {b : Addr} {o : Obj} {es : Array DictEntry} {ep : Nat}, u.heap.get? b = some o → o.data = .dict es ep → (hidT u.heap H).get? b = some o := fun {b o es ep} e d => hidT_get e (free e fun z => by
    subst z
    rw [ga] at e
    cases e
    cases d)
  have nsT : ∀ {b : Addr} {m : Str → Option Value}, u.heap.Ns b m → (hidT u.heap H).Ns b m := fun {b m} ⟨o, es, ep, e, d, r⟩ => ⟨o, es, ep, ndict e d, d, r⟩
  have inB : K.In (hidT u.heap H) := fun b o e => hidT_get (KX b o e) (by
    cases q : H b with
    | none => rfl
    | some z =>
      obtain rfl := one b (by rw [q]; exact fun e => nomatch e)
      rw [inK (by rw [q]; exact fun e => nomatch e)] at e
      cases e)
  have seerB : (hidT u.heap H).NoSeer := by
    obtain ⟨⟨mc, s1, s2⟩, ⟨mm, t1, t2⟩, ⟨m3, i1, i2⟩, ⟨mg', bm, ob, g1, g2, g3, g4, g5⟩⟩ := seer
    refine ⟨⟨mc, nsT s1, s2⟩, ⟨mm, nsT t1, t2⟩, ⟨m3, nsT i1, i2⟩, ⟨mg', bm, ob, nsT g1, g2, hidT_get g3 (free g3 fun z => ?_), g4, g5⟩⟩
    subst z
    rw [ga] at g3
    cases g3
    have z : Value.type "list" = Value.type "module" := g4
    injection z with z
    exact absurd z (by decide)
  obtain ⟨ml, l1, l2⟩ := lim
  have env : Env0 P w K mg (hidT u.heap H) callerA [] u H := ⟨rfl, ⟨inB, nsT gG, ⟨mb, nsT gB, bb⟩, ⟨ml, nsT l1, l2⟩⟩, fun b o e => of_hidT e, Nat.le_of_eq (hidT_size _ _), trivial, fun b hb => (nomatch hb), hok, .of_eq gn⟩
  refine codeAny_mono ((F _ inB (nsT gG) seerB).run callerA [] u H ⟨[.ref a], []⟩ [.ref a] [.ref a] _ _ room env (bind u (.ref a)) (.cons rfl .nil) tell) fun r s' h => ?_
  match r, h with
  | .error e, h => exact (noX H e s' h).elim
  | .ok .next, h => exact h.elim
  | .ok .brk, h => exact h.elim
  | .ok .cont, h => exact h.elim
  | .ok (.ret v), ⟨y, H', os, bare, un, hok', ry, q⟩ =>
    have q' : y = V.bl true := q
    subst q'
    obtain rfl : v = Value.bool true := ry
    refine ⟨rfl, OldK.of_keep fun b o e => ?_, os, bare⟩
    rcases only b with z | ⟨ob, xs, z⟩
    · exact un.keep b o e z (by intro i; cases i) (by simp)
    · obtain ⟨e1, _⟩ := hok b _ z
      obtain ⟨e2, _⟩ := hok' b _ (un.frzs b ob _ z)
      rw [e] at e1
      cases e1
      exact e2
end
theorem walk_seer {l : PySem.W.OpenLaw} {n k : Nat} {q : Program} {loose : List Str} {XP : (Str → Option Value) → Heap → Prop} {YP : World → Heap → Prop} {d : DefRec} {K : Params → PySem.W.Frag} {CX : World → CXT} {sp : PySem.W.Frag → Sp} {x : Str}
    (hn : l.most = some n) (hn2 : n ≤ sizeLine) (hdf : d.params.defaults = []) (hr : Room k callerA) (himp : importsNone q = true) (hY : ∀ (w : World) (h : Heap), YP w h → (K w.params).In h)
    (F : ∀ (w : World) (mg : Str → Option Value) (fa : Addr) (h : Heap), (K w.params).In h → h.Ns mainGlobals mg → mg d.name = some (.ref fa) → ∃ fd : FuncData, (∀ (s : Shared) (u : Value), BindsTo s fd ⟨[u], []⟩ [(x, u)]) ∧
      ∀ base : Heap, (K w.params).In base → base.Ns mainGlobals mg → base.NoSeer → FnOk l.prog w (K w.params) mg base (CX w) k fa fd [x] (sp (K w.params)))
    (hsp : ∀ (K : PySem.W.Frag) (H : Hp) (a : Addr) (ns : List Int), ns.length ≤ n → Only H → SqL K H a (ns.map V.int) → sp K [.ref a] H (fun v _ => v = .bl true) fun _ _ _ => False)
    (noX : ∀ (w : World) (H : Hp) (s : Shared) (e : Value) (s' : Shared), CX w [] H s (fun _ _ _ => False) e s' → False) : PySem.W.WalkO q loose XP YP l.row.toRowW d [] (fun f vs => PySem.call f vs) := by
  refine Att.attach_call hn hdf fun w s₀ u mg mb fa o pm cd doc a vs ns G Y ho hd hcd hmg ga hi hlen gn => ?_
  have KX := hY w _ Y
  obtain ⟨fd, hb, hF⟩ := F w mg fa _ KX G.T.g hmg
  have lenV := hi.length
  have szl : ns.length ≤ sizeLine := Nat.le_trans hlen hn2
  have rv := vals_ints hi
  cases hk : (K w.params).lookup a with
  | some ob =>
    have e := KX a ob hk
    rw [ga] at e
    cases e
    refine call_from KX G.T.g G.T.b G.T.builtins G.T.nolimit (G.T.seer himp) gn ga hr hF hb (fun H e s' => noX w H _ e s') (fun _ => none) (fun _ => .inl rfl) (hsp _ _ a ns hlen (fun _ => .inl rfl) (.inr ⟨_, vs.toArray, _, hk, rfl, rfl, rfl, by rw [List.size_toArray, lenV]; exact szl, by simpa using rv⟩)) (fun b z y => ?_) (fun b z => absurd rfl z) fun z => absurd rfl z
    have y : (none : Option HO) = some z := y
    cases y
  | none =>
    have on : Only (fun b => if b = a then some (.frz { cls := .type "list", data := .seq vs.toArray } (.lst (ns.map V.int))) else none) := fun b => by
      by_cases z : b = a
      · exact .inr ⟨_, _, if_pos z⟩
      · exact .inl (if_neg z)
    refine call_from KX G.T.g G.T.b G.T.builtins G.T.nolimit (G.T.seer himp) gn ga hr hF hb (fun H e s' => noX w H _ e s') _ on (hsp _ _ a ns hlen on (.inl (.inr ⟨_, if_pos rfl⟩))) (fun b z y => ?_) (fun b z => ?_) fun _ => hk
    · by_cases hb : b = a
      · have y' := (if_pos hb).symm.trans y
        cases y'
        subst hb
        exact ⟨ga, by rw [List.length_map]; exact szl, vs, _, rv, ga⟩
      · have y' := (if_neg hb).symm.trans y
        cases y'
    · by_cases hb : b = a
      · exact hb
      · exact (z (if_neg hb)).elim
/-! ### what stands behind the top -/
/-- a def's parts -/
def FnP (K : PySem.W.Frag) (x : Str) (st : Stmt) : Prop := ∃ (f : Addr) (oc : Value) (od : Option Addr) (kV dc pm : Value) (an : Option Addr) (cd ct : Value) (sl : Array (Option Value)), PySem.W.nsIn K mainGlobals x = some (some (.ref f)) ∧
  K.lookup f = some ⟨oc, od, .func (PySem.W.fnOf x x (defArgs st) (defBody st) (defScope st) .none kV dc pm an cd ct), sl⟩ ∧ PySem.W.codeIn K cd x = true ∧ PySem.W.keepIn K (.ref f) = true
theorem fnp_mk {K : PySem.W.Frag} {x : Str} {st : Stmt} {f : Addr} {oc : Value} {od : Option Addr} {kV dc pm : Value} {an : Option Addr} {cd ct : Value} {sl : Array (Option Value)} (a : PySem.W.nsIn K mainGlobals x = some (some (.ref f)))
    (l : K.lookup f = some ⟨oc, od, .func (PySem.W.fnOf x x (defArgs st) (defBody st) (defScope st) .none kV dc pm an cd ct), sl⟩) (c : PySem.W.codeIn K cd x = true) (k : PySem.W.keepIn K (.ref f) = true) : FnP K x st := ⟨f, oc, od, kV, dc, pm, an, cd, ct, sl, a, l, c, k⟩
theorem FnP.dfn {K : PySem.W.Frag} {h : Heap} {mg : Str → Option Value} {x : Str} {st : Stmt} {ps : List Str} (p : FnP K x st) (X : K.In h) (G : h.Ns mainGlobals mg)
    (hb : ∀ (kV doc pm : Value) (an : Option Addr) (cdv ct : Value) (us : List Value), us.length = ps.length → bindArgs (PySem.W.fnOf x x (defArgs st) (defBody st) (defScope st) .none kV doc pm an cdv ct) ⟨us, []⟩ = pure (ps.zip us)) : Dfn K mg x x st ps := by
  obtain ⟨f, oc, od, kV, dc, pm, an, cd, ct, sl, a, l, c, k⟩ := p
  have F := fun_mk (st := st) l c k
  exact ⟨f, _, F, PySem.W.mg_of X G a, F.binds hb⟩
/-- one with an integer as its default -/
def FnPD (K : PySem.W.Frag) (x : Str) (st : Stmt) (i : Int) : Prop := ∃ (f T : Addr) (oc : Value) (od : Option Addr) (kV dc pm : Value) (an : Option Addr) (cd ct : Value) (sl : Array (Option Value)) (to : Obj) (tk : Tok) (tn : Nat), PySem.W.nsIn K mainGlobals x = some (some (.ref f)) ∧
  K.lookup f = some ⟨oc, od, .func (PySem.W.fnOf x x (defArgs st) (defBody st) (defScope st) (.ref T) kV dc pm an cd ct), sl⟩ ∧ PySem.W.codeIn K cd x = true ∧ PySem.W.keepIn K (.ref f) = true ∧ K.lookup T = some to ∧ to.data = .seq #[.int i tk] tn
theorem fnpd_mk {K : PySem.W.Frag} {x : Str} {st : Stmt} {i : Int} {f T : Addr} {oc : Value} {od : Option Addr} {kV dc pm : Value} {an : Option Addr} {cd ct : Value} {sl : Array (Option Value)} {tc : Value} {td : Option Addr} {tsl : Array (Option Value)} {tk : Tok} {tn : Nat} (a : PySem.W.nsIn K mainGlobals x = some (some (.ref f)))
    (l : K.lookup f = some ⟨oc, od, .func (PySem.W.fnOf x x (defArgs st) (defBody st) (defScope st) (.ref T) kV dc pm an cd ct), sl⟩) (c : PySem.W.codeIn K cd x = true) (k : PySem.W.keepIn K (.ref f) = true) (t : K.lookup T = some ⟨tc, td, .seq #[.int i tk] tn, tsl⟩) : FnPD K x st i := ⟨f, T, oc, od, kV, dc, pm, an, cd, ct, sl, _, tk, tn, a, l, c, k, t, rfl⟩
theorem FnPD.dfn {K : PySem.W.Frag} {h : Heap} {mg : Str → Option Value} {x : Str} {st : Stmt} {i : Int} (p : FnPD K x st i) (X : K.In h) (G : h.Ns mainGlobals mg) : DfnD K mg x x st [.int i] := by
  obtain ⟨f, T, oc, od, kV, dc, pm, an, cd, ct, sl, to, tk, tn, a, l, c, k, t, e⟩ := p
  have hD : DflV K (.ref T) [V.int i] := Or.inr ⟨(fun z => nomatch z), T, to, [Value.int i tk], tn, rfl, t, e, Paired.cons ⟨tk, rfl⟩ .nil⟩
  have FD : FunD K x x (defArgs st) (defBody st) (defScope st) [V.int i] [] f _ := ⟨⟨oc, od, _, kV, dc, pm, an, cd, ct, sl, rfl, l, c, hD, Or.inl rfl⟩, k⟩
  exact ⟨f, _, FD, PySem.W.mg_of X G a⟩
def FnPX {K : PySem.W.Frag} {h : Heap} (_ : K.In h) (x : Str) (st : Stmt) : Prop := FnP K x st
def FnPDX {K : PySem.W.Frag} {h : Heap} (_ : K.In h) (x : Str) (st : Stmt) (i : Int) : Prop := FnPD K x st i
end DL
set_option maxHeartbeats 4000000
namespace DL
open PySem L2 PySem.Spec PyProof.Rows
/-! ### the end over a head that tells facts -/
theorem walk_seerE {l : PySem.W.OpenLaw} {n k : Nat} {q : Program} {loose : List Str} {XP : (Str → Option Value) → Heap → Prop} {YP : World → Heap → Prop} {d : DefRec} {CX : World → CXT} {x : Str}
    (hn : l.most = some n) (hn2 : n ≤ sizeLine) (hdf : d.params.defaults = []) (hr : Room k callerA) (himp : importsNone q = true)
    (F : ∀ (w : World) (mg : Str → Option Value) (fa : Addr) (h : Heap), YP w h → h.Ns mainGlobals mg → mg d.name = some (.ref fa) → ∃ (K : PySem.W.Frag) (fd : FuncData) (sp : Sp), K.In h ∧ (∀ (s : Shared) (u : Value), BindsTo s fd ⟨[u], []⟩ [(x, u)]) ∧
      (∀ (H : Hp) (a : Addr) (ns : List Int), ns.length ≤ n → Only H → SqL K H a (ns.map V.int) → sp [.ref a] H (fun v _ => v = .bl true) fun _ _ _ => False) ∧
      ∀ base : Heap, K.In base → base.Ns mainGlobals mg → base.NoSeer → FnOk l.prog w K mg base (CX w) k fa fd [x] sp)
    (noX : ∀ (w : World) (H : Hp) (s : Shared) (e : Value) (s' : Shared), CX w [] H s (fun _ _ _ => False) e s' → False) : PySem.W.WalkO q loose XP YP l.row.toRowW d [] (fun f vs => PySem.call f vs) := by
  refine Att.attach_call hn hdf fun w s₀ u mg mb fa o pm cd doc a vs ns G Y ho hd hcd hmg ga hi hlen gn => ?_
  obtain ⟨K, fd, sp, KX, hb, hsp, hF⟩ := F w mg fa _ Y G.T.g hmg
  have lenV := hi.length
  have szl : ns.length ≤ sizeLine := Nat.le_trans hlen hn2
  have rv := vals_ints hi
  cases hk : K.lookup a with
  | some ob =>
    have e := KX a ob hk
    rw [ga] at e
    cases e
    refine call_from KX G.T.g G.T.b G.T.builtins G.T.nolimit (G.T.seer himp) gn ga hr hF hb (fun H e s' => noX w H _ e s') (fun _ => none) (fun _ => .inl rfl) (hsp _ a ns hlen (fun _ => .inl rfl) (.inr ⟨_, vs.toArray, _, hk, rfl, rfl, rfl, by rw [List.size_toArray, lenV]; exact szl, by simpa using rv⟩)) (fun b z y => ?_) (fun b z => absurd rfl z) fun z => absurd rfl z
    have y : (none : Option HO) = some z := y
    cases y
  | none =>
    have on : Only (fun b => if b = a then some (.frz { cls := .type "list", data := .seq vs.toArray } (.lst (ns.map V.int))) else none) := fun b => by
      by_cases z : b = a
      · exact .inr ⟨_, _, if_pos z⟩
      · exact .inl (if_neg z)
    refine call_from KX G.T.g G.T.b G.T.builtins G.T.nolimit (G.T.seer himp) gn ga hr hF hb (fun H e s' => noX w H _ e s') _ on (hsp _ a ns hlen on (.inl (.inr ⟨_, if_pos rfl⟩))) (fun b z y => ?_) (fun b z => ?_) fun _ => hk
    · by_cases hb : b = a
      · have y' := (if_pos hb).symm.trans y
        cases y'
        subst hb
        exact ⟨ga, by rw [List.length_map]; exact szl, vs, _, rv, ga⟩
      · have y' := (if_neg hb).symm.trans y
        cases y'
    · by_cases hb : b = a
      · exact hb
      · exact (z (if_neg hb)).elim
/-- a def's datum: no defaults -/
def df (x : Str) (st : Stmt) : He.DefD := ⟨(x, none), x, x, defArgs st, defBody st, defScope st, [], []⟩
def dfI (x : Str) (st : Stmt) (i : Int) : He.DefD := ⟨(x, none), x, x, defArgs st, defBody st, defScope st, [.int i], []⟩
theorem dfn_of {K : PySem.W.Frag} {h : Heap} {mg : Str → Option Value} {fa : List He.Fa} {fn : List He.DefD} (X : K.In h) (G : h.Ns mainGlobals mg) (c : He.SaysD fa fn K) {x : Str} {st : Stmt} {ps : List Str} (i j : Nat) (hi : fn[i]? = some (df x st)) (hj : fa[j]? = some (.glo x))
    (hb : ∀ (kV doc pm : Value) (an : Option Addr) (cdv ct : Value) (us : List Value), us.length = ps.length → bindArgs (PySem.W.fnOf x x (defArgs st) (defBody st) (defScope st) .none kV doc pm an cdv ct) ⟨us, []⟩ = pure (ps.zip us)) : Dfn K mg x x st ps := by
  obtain ⟨fd, F⟩ := c.def_ i hi
  obtain ⟨oc, od, dV, kV, dc, pm, an, cd, ct, sl, e, l, cc, hD, _⟩ := F.ex
  have hg := He.glo_ok X G (c.fact j hj)
  have hD : DflV K dV [] := hD
  rcases hD with ⟨_, rfl⟩ | ⟨z, _⟩
  · have F2 : Fun K x x st _ fd := ⟨⟨oc, od, kV, dc, pm, an, cd, ct, sl, e, l, cc⟩, F.kp⟩
    exact ⟨_, fd, F2, hg, F2.binds hb⟩
  · exact absurd rfl z
theorem dfd_of {K : PySem.W.Frag} {h : Heap} {mg : Str → Option Value} {fa : List He.Fa} {fn : List He.DefD} (X : K.In h) (G : h.Ns mainGlobals mg) (c : He.SaysD fa fn K) {x : Str} {st : Stmt} {k : Int} (i j : Nat) (hi : fn[i]? = some (dfI x st k)) (hj : fa[j]? = some (.glo x)) : DfnD K mg x x st [.int k] := by
  obtain ⟨fd, F⟩ := c.def_ i hi
  exact ⟨_, fd, F, He.glo_ok X G (c.fact j hj)⟩
/-- the law's promise, of a script of whole numbers -/
theorem law_sp {K : PySem.W.Frag} {c : Ct} {H : Hp} {a : Addr} {ns : List Int} {n : Nat} (hl : ns.length ≤ n) (hs : SqL K H a (ns.map V.int)) (hc : ∀ μ Q E, Q (.bl true) μ → c [.lsr (ns.map D.int)] μ Q E) : spD K c [.ref a] H (fun v _ => v = .bl true) fun _ _ _ => False := by
  refine ⟨H, fun _ => none, [.lsr (ns.map D.int)], fun d _ => d = .bl true, fun _ _ _ => False, ⟨fun _ _ e => e, fun _ _ e => (nomatch e)⟩, ⟨_, _, rfl, ⟨a, _, rfl, hs, DVs.of_ints⟩, rfl⟩, hc _ _ _ rfl, fun F' μ' H' d v g s' dv hq => ?_, fun F' μ' H' C dd fs g s' ex hq => ?_⟩
  · obtain ⟨μ2, _, rfl⟩ := hq
    exact dv
  · obtain ⟨μ2, _, z⟩ := hq
    exact z
end DL
set_option maxHeartbeats 4000000
namespace DL
open PySem L2 PySem.Spec PyProof.Rows
/-! ### objects: fields -/
def fieldsD (μ : Mu) : D → Option (Addr × List (Str × D))
  | .mut a => match μ a with
    | some (.ins C fs) => some (C, fs)
    | _ => none
  | .ins C fs l => some (C, fs.zip l)
  | _ => none
/-- PC: the classes that such an object may have here -/
def wFld (PC : Addr → Prop) (f : Str) (a : WEx) : WEx := fun ρ μ Q => a ρ μ fun d μ1 => match fieldsD μ1 d with
  | some (C, fs) => PC C ∧ match fs.lookup f with
    | some v => Q v μ1
    | none => False
  | none => False
theorem kd_look {K : PySem.W.Frag} {F : Hp} {f : Str} : ∀ {fs : List (Str × D)} {ys : List (Str × V)} {d : D}, KD K F fs ys → fs.lookup f = some d → ∃ v, ys.lookup f = some v ∧ DV K F d v
  | [], _, _, _, h => by cases h
  | (g, e) :: fs, ys, d, ⟨h1, h2⟩, h => by
    obtain ⟨v, r, e2, dv, dr⟩ := h2
    cases ys with
    | nil => cases h1
    | cons y ys =>
      have t1 : y.1 = g ∧ ys.map (·.1) = fs.map (·.1) := List.cons.inj h1
      have e2 : y.2 = v ∧ ys.map (·.2) = r := List.cons.inj e2
      obtain ⟨y1, y2⟩ := y
      obtain ⟨rfl, t1⟩ := t1
      obtain ⟨rfl, rfl⟩ := e2
      rw [List.lookup_cons] at h ⊢
      cases q : (f == y1) with
      | true => rw [q] at h; cases h; exact ⟨_, rfl, dv⟩
      | false => rw [q] at h; exact kd_look ⟨t1, dr⟩ h
theorem kd_none {K : PySem.W.Frag} {F : Hp} {f : Str} : ∀ {fs : List (Str × D)} {ys : List (Str × V)}, KD K F fs ys → fs.lookup f = none → ys.lookup f = none
  | [], ys, ⟨h1, _⟩, _ => by
    cases ys with
    | nil => rfl
    | cons y ys => cases h1
  | (g, e) :: fs, ys, ⟨h1, h2⟩, h => by
    obtain ⟨v, r, e2, dv, dr⟩ := h2
    cases ys with
    | nil => cases h1
    | cons y ys =>
      have t1 : y.1 = g ∧ ys.map (·.1) = fs.map (·.1) := List.cons.inj h1
      have e2 : y.2 = v ∧ ys.map (·.2) = r := List.cons.inj e2
      obtain ⟨y1, y2⟩ := y
      obtain ⟨rfl, t1⟩ := t1
      obtain ⟨rfl, rfl⟩ := e2
      rw [List.lookup_cons] at h ⊢
      cases q : (f == y1) with
      | true => rw [q] at h; cases h
      | false => rw [q] at h; exact kd_none ⟨t1, dr⟩ h
theorem fields_ok {K : PySem.W.Frag} {F H : Hp} {μ : Mu} {d : D} {v : V} {C : Addr} {fs : List (Str × D)} (s : Sok K F μ H) (dv : DV K F d v) (e : fieldsD μ d = some (C, fs)) : ∃ a dx ys, v = .ref a ∧ H a = some (.ins C dx ys) ∧ KD K F fs ys := by
  unfold fieldsD at e
  split at e
  · rename_i a
    split at e
    · rename_i C' fs' em
      cases e
      obtain rfl : v = V.ref a := dv
      obtain ⟨_, dx, ys, ho, k⟩ := s.cel a _ em
      exact ⟨a, dx, ys, rfl, ho, k⟩
    · cases e
  · rename_i C' fs' l
    cases e
    obtain ⟨a, dx, kvs, rfl, ho, h1, h2⟩ := dv
    have ll : l.length = fs'.length := by rw [← h2.len, ← h1, List.length_map, List.length_map]
    refine ⟨a, dx, kvs, rfl, s.sub _ _ ho, ?_, ?_⟩
    · rw [h1, List.map_fst_zip (by omega)]
    · rw [List.map_snd_zip (by omega)]; exact h2
  · cases e
section
variable {K : PySem.W.Frag} {W : WX} {E : EX} {ta tv : TE} {wa wv : WEx} {PC : Addr → Prop} {f : Str}
theorem dn_fld (hP : ∀ C, PC C → Cls K C ∧ NoAttr K C f) (ha : Dn K W E ta wa) : Dn K W E (tFld K ta f) (wFld PC f wa) := by
  intro F μ H ρ σ Q0 Q s h q
  refine ha F μ H ρ σ _ _ s h fun F1 μ1 H1 d v g1 s1 dv h1 => ?_
  split at h1
  · rename_i C fs e
    obtain ⟨hC, h1⟩ := h1
    split at h1
    · rename_i y ey
      obtain ⟨a, dx, ys, rfl, ho, kd⟩ := fields_ok s1.ok dv e
      obtain ⟨u, eu, du⟩ := kd_look kd ey
      obtain ⟨c, n⟩ := hP C hC
      exact ⟨a, C, dx, ys, u, rfl, ho, c, n, eu, q F1 μ1 H1 y u g1 s1 du h1⟩
    · exact h1.elim
  · exact h1.elim
/-- a field put -/
def putD (f : Str) (y : D) : List (Str × D) → List (Str × D)
  | [] => [(f, y)]
  | (g, x) :: r => if g = f then (g, y) :: r else (g, x) :: putD f y r
theorem kd_put {F : Hp} {y : D} {u : V} (dy : DV K F y u) : ∀ {fs : List (Str × D)} {ys : List (Str × V)}, KD K F fs ys → KD K F (putD f y fs) (putF f u ys)
  | [], ys, ⟨h1, _⟩ => by
    cases ys with
    | nil => exact ⟨rfl, u, [], rfl, dy, rfl⟩
    | cons y ys => cases h1
  | (g, e) :: fs, ys, ⟨h1, h2⟩ => by
    obtain ⟨v, r, e2, dv, dr⟩ := h2
    cases ys with
    | nil => cases h1
    | cons z ys =>
      have t1 : z.1 = g ∧ ys.map (·.1) = fs.map (·.1) := List.cons.inj h1
      have e2 : z.2 = v ∧ ys.map (·.2) = r := List.cons.inj e2
      obtain ⟨z1, z2⟩ := z
      obtain ⟨rfl, t1⟩ := t1
      obtain ⟨rfl, rfl⟩ := e2
      unfold putD putF
      by_cases c : z1 = f
      · rw [if_pos c, if_pos c]
        exact ⟨congrArg (z1 :: ·) t1, u, _, rfl, dy, dr⟩
      · rw [if_neg c, if_neg c]
        have ih := kd_put dy (fs := fs) (ys := ys) ⟨t1, dr⟩
        exact ⟨congrArg (z1 :: ·) ih.1, z2, _, rfl, dv, ih.2⟩
def wSetF (PC : Addr → Prop) (f : Str) (o v : WEx) : WS := fun D ρ μ => v ρ μ fun y μ1 => o ρ μ1 fun x μ2 => match x with
  | .mut a => match μ2 a with
    | some (.ins C fs) => PC C ∧ fs.length < 1000 ∧ D.nx ρ (um μ2 a (.ins C (putD f y fs)))
    | _ => False
  | _ => False
theorem dn_setf (hP : ∀ C, PC C → Cls K C ∧ NoAttr K C f) (ho : Dn K W E ta wa) (hv : Dn K W E tv wv) : DnS K W E (sFld K ta tv f) (wSetF PC f wa wv) := by
  intro F μ H ρ σ D0 Ds s h e
  refine hv F μ H ρ σ _ _ s h fun F1 μ1 H1 y u g1 s1 dy h1 => ?_
  refine ho F1 μ1 H1 ρ σ _ _ s1 h1 fun F2 μ2 H2 x w g2 s2 dx2 h2 => ?_
  split at h2
  · rename_i a
    split at h2
    · rename_i C fs em
      obtain ⟨hC, hl, h2⟩ := h2
      obtain rfl : w = V.ref a := dx2
      obtain ⟨c, n⟩ := hP C hC
      obtain ⟨ff, dx, ys, ha, kd⟩ := s2.ok.cel a _ em
      have ly : ys.length = fs.length := by have := congrArg List.length kd.1; rwa [List.length_map, List.length_map] at this
      refine ⟨a, C, dx, ys, rfl, ha, c, n, by omega, e.nx F2 _ _ ρ σ (g1.trans g2) (s2.mono Grow.refl (s2.ok.cell (m := .ins C _) ff ⟨dx, _, upd_same, kd_put (dy.mono g2) kd⟩)) h2⟩
    · exact h2.elim
  · exact h2.elim
end
section
variable {X : Cx} {W : WX} {E : EX} {o v : Expr} {ta tv : TE} {wa wv : WEx} {pos pos' : Pos}
theorem efld {f : Str} (PC : Addr → Prop) (hP : ∀ C, PC C → Cls X.K C ∧ NoAttr X.K C f) (ha : DE X W E o ta wa) (hb : attributeBase o f X.env (eval o X.env) = eval o X.env := by rfl) : DE X W E (.Attribute o f pos) (tFld X.K ta f) (wFld PC f wa) := ⟨pe_fld ha.pe hb, dn_fld hP ha.dn⟩
theorem ssetf {f : Str} (PC : Addr → Prop) (hP : ∀ C, PC C → Cls X.K C ∧ NoAttr X.K C f) (ho : DE X W E o ta wa) (hv : DE X W E v tv wv) (hs : swapsWith v (some (.Attribute o f pos')) pos.line X.env = pure false := by rfl) : DS X W E (.Assign [.Attribute o f pos'] v pos) (sFld X.K ta tv f) (wSetF PC f wa wv) := ⟨ps_fld ho.pe hv.pe hs, dn_setf hP ho.dn hv.dn⟩
end
/-! ### methods, makers, properties -/
/-- a class's method -/
structure DfM (P : Program) (w : World) (K : PySem.W.Frag) (mg : Str → Option Value) (base : Heap) (C : Addr) (m : Str) (k : Nat) (ps : List Str) (c : Ct) : Prop where
  ex : ∃ f fd, FnOk P w K mg base (L2N.CX P w) k f fd ps (spD K c) ∧ Meth K C m f ∧ Binds K fd ps []
  cls : Cls K C
def tMethS (C : Addr) (m : Str) (sp : Sp) (E : L2.St → XK) (ta : TE) (t : TA) : TE := fun σ H Q => ta σ H fun x H1 => ∃ a dx fs, x = .ref a ∧ H1 a = some (.ins C dx fs) ∧ fs.lookup m = none ∧ t σ H1 fun vs H2 => sp (x :: vs) H2 Q (E σ)
def wMeth (C : Addr) (m : Str) (c : Ct) (E : EX) (o : WEx) (a : WA) : WEx := fun ρ μ Q => o ρ μ fun x μ1 => (∃ fs, fieldsD μ1 x = some (C, fs) ∧ fs.lookup m = none) ∧ a ρ μ1 fun ds μ2 => c (x :: ds) μ2 Q fun D fs μ3 => E D fs ρ μ3
section
variable {X : Cx} {W : WX} {E : EX} {o e : Expr} {es : List Expr} {ta : TE} {wa : WEx} {tas : TA} {was : WA} {pos apos p : Pos} {C : Addr} {m x : Str} {k : Nat} {ps : List Str} {c : Ct}
theorem pe_methN {f : Addr} {fd : FuncData} {sp : Sp} {CX : CXT} {E : L2.St → XK} {pl : Sem Bool} (he : PE X o ta) (cl : Cls X.K C) (hm : Meth X.K C m f) (F : FnOk X.prog X.w X.K X.mg X.base CX k f fd ps sp) (hr : Room k X.A) (hb : Binds X.K fd ps []) (hx : ∀ σ, PassesAt CX X σ (E σ)) (ha : PA X (e :: es) tas)
    (hst : starEach (e :: es) X.env = (false, eval e X.env) :: starEach es X.env) (hpl : (backTo pos (starEach es X.env)).any (·.1) = false)
    (ht : eval (.Call (.Attribute o m apos) (e :: es) [] pos) X.env = (do
      let ov ← eval o X.env
      standAt apos.atName
      let (g, first) ← holding [ov] (getMethod ov m pl)
      callWith pos g first (backTo pos (starEach (e :: es) X.env)) (backToKw pos (keywordEach [] X.env)))) : PE X (.Call (.Attribute o m apos) (e :: es) [] pos) (tMethS C m sp E ta tas) := by
  refine ⟨fun pins s σ H Q I h => PySem.W.methodCall_KW (pl := pl) (thn (he.run pins s σ H _ I h) fun u s1 ⟨y, H1, I1, ry, a, dx, fs, ey, ea, l, q⟩ => ?_) ht⟩
  subst ey
  obtain rfl : u = Value.ref a := ry
  refine getmeth_ok I1 ea cl hm l ?_
  refine PySem.W.callWith_K (first := [.ref a]) (h₀ := X.base) I.ok.mod.kin hm.kp (thn (ha.run pos pins s1 σ H1 _ I1 q) fun us s2 ⟨vs, H2, I2, r, z⟩ => ⟨I2.kIn, ?_⟩) hst hpl
  exact run_fnSD (us := .ref a :: us) (vs := .ref a :: vs) (ds := []) (dvs := []) F hr hb .nil (hx σ) I2 (.cons rfl r) (by rw [List.append_nil]; exact z)
theorem pe_methN0 {f : Addr} {fd : FuncData} {sp : Sp} {CX : CXT} {E : L2.St → XK} {pl : Sem Bool} (he : PE X o ta) (cl : Cls X.K C) (hm : Meth X.K C m f) (F : FnOk X.prog X.w X.K X.mg X.base CX k f fd ps sp) (hr : Room k X.A) (hb : Binds X.K fd ps []) (hx : ∀ σ, PassesAt CX X σ (E σ))
    (ht : eval (.Call (.Attribute o m apos) [] [] pos) X.env = (do
      let ov ← eval o X.env
      standAt apos.atName
      let (g, first) ← holding [ov] (getMethod ov m pl)
      callWith pos g first (backTo pos (starEach [] X.env)) (backToKw pos (keywordEach [] X.env)))) : PE X (.Call (.Attribute o m apos) [] [] pos) (tMethS C m sp E ta tNil) := by
  refine ⟨fun pins s σ H Q I h => PySem.W.methodCall_KW (pl := pl) (thn (he.run pins s σ H _ I h) fun u s1 ⟨y, H1, I1, ry, a, dx, fs, ey, ea, l, q⟩ => ?_) ht⟩
  subst ey
  obtain rfl : u = Value.ref a := ry
  refine getmeth_ok I1 ea cl hm l ?_
  exact PySem.W.callWith_K0 (first := [.ref a]) I1.kIn hm.kp (run_fnSD (us := [.ref a]) (vs := [.ref a]) (ds := []) (dvs := []) F hr hb .nil (hx σ) I1 (.cons rfl .nil) (by rw [List.append_nil]; exact q))
theorem dn_meth {K : PySem.W.Frag} (ho : Dn K W E ta wa) (ha : DnA K W E tas was) : Dn K W E (tMethS C m (spD K c) (WE W) ta tas) (wMeth C m c E wa was) := by
  intro F μ H ρ σ Q0 Q s h q
  refine ho F μ H ρ σ _ _ s h fun F1 μ1 H1 d v g1 s1 dv ⟨⟨fs, ef, hn⟩, h1⟩ => ?_
  obtain ⟨a, dx, ys, rfl, ha1, kd⟩ := fields_ok s1.ok dv ef
  refine ⟨a, dx, ys, rfl, ha1, kd_none kd hn, ha F1 μ1 H1 ρ σ _ _ s1 h1 fun F2 μ2 H2 ds vs g2 s2 dvs h2 => ?_⟩
  refine ⟨F2, μ2, d :: ds, _, _, s2.ok, DVs.cons (dv.mono g2) dvs, h2, fun F3 μ3 H3 d3 v3 g3 s3 dv3 ⟨μ4, l, h3⟩ => ?_, fun F3 μ3 H3 D fs g3 g4 s3 ex ⟨μ4, l, h3⟩ => ?_⟩
  · exact q F3 μ4 H3 d3 v3 (g1.trans (g2.trans g3)) ((s2.mono g3 s3).weak l) dv3 h3
  · exact s2.wok F3 μ4 H3 ρ σ D fs g3 g4 (s3.weak l) (s2.env.mono g4) ex h3
theorem emeth {pl : Sem Bool} (tk : L2N.Takes X W) (h : DfM X.prog X.w X.K X.mg X.base C m k ps c) (hr : Room k X.A) (ho : DE X W E o ta wa) (ha : DA X W E (e :: es) tas was)
    (hst : starEach (e :: es) X.env = (false, eval e X.env) :: starEach es X.env := by rfl) (hpl : (backTo pos (starEach es X.env)).any (·.1) = false := by rfl)
    (ht : eval (.Call (.Attribute o m apos) (e :: es) [] pos) X.env = (do
      let ov ← eval o X.env
      standAt apos.atName
      let (g, first) ← holding [ov] (getMethod ov m pl)
      callWith pos g first (backTo pos (starEach (e :: es) X.env)) (backToKw pos (keywordEach [] X.env))) := by rfl) :
    DE X W E (.Call (.Attribute o m apos) (e :: es) [] pos) (tMethS C m (spD X.K c) (WE W) ta tas) (wMeth C m c E wa was) := by
  obtain ⟨⟨f, fd, G, hm, hb⟩, cl⟩ := h
  exact ⟨pe_methN ho.pe cl hm G hr hb (fun σ => L2N.passAt tk σ) ha.pe hst hpl ht, dn_meth ho.dn ha.dn⟩
theorem emeth0 {pl : Sem Bool} (tk : L2N.Takes X W) (h : DfM X.prog X.w X.K X.mg X.base C m k ps c) (hr : Room k X.A) (ho : DE X W E o ta wa)
    (ht : eval (.Call (.Attribute o m apos) [] [] pos) X.env = (do
      let ov ← eval o X.env
      standAt apos.atName
      let (g, first) ← holding [ov] (getMethod ov m pl)
      callWith pos g first (backTo pos (starEach [] X.env)) (backToKw pos (keywordEach [] X.env))) := by rfl) :
    DE X W E (.Call (.Attribute o m apos) [] [] pos) (tMethS C m (spD X.K c) (WE W) ta tNil) (wMeth C m c E wa wNil) := by
  obtain ⟨⟨f, fd, G, hm, hb⟩, cl⟩ := h
  exact ⟨pe_methN0 ho.pe cl hm G hr hb (fun σ => L2N.passAt tk σ) ht, dn_meth ho.dn dn_nil⟩
/-! a class, called -/
structure DfK (P : Program) (w : World) (K : PySem.W.Frag) (mg : Str → Option Value) (base : Heap) (x : Str) (C : Addr) (k : Nat) (ps : List Str) (c : Ct) : Prop where
  ex : ∃ f fd, FnOk P w K mg base (L2N.CX P w) k f fd ps (spD K c) ∧ Mk K C f ∧ mg x = some (.ref C) ∧ Binds K fd ps []
def tMakeS (C : Addr) (sp : Sp) (E : L2.St → XK) (t : TA) : TE := fun σ H Q => t σ H fun vs H1 => ∀ x dx, H1 x = none → H1 dx = none → dx ≠ x → sp (.ref x :: vs) (upd (upd H1 dx (.own x)) x (.ins C dx [])) (fun v H2 => v = .non ∧ Q (.ref x) H2) (E σ)
def wMake (C : Addr) (c : Ct) (E : EX) (a : WA) : WEx := fun ρ μ Q => a ρ μ fun ds μ1 => ∀ p, μ1 p = none → c (.mut p :: ds) (um μ1 p (.ins C [])) (fun d μ2 => d = .non ∧ Q (.mut p) μ2) fun D fs μ3 => E D fs ρ μ3
theorem run_makeN {f : Addr} {fd : FuncData} {sp : Sp} {CX : CXT} {E : XK} {pins : List (Addr × Obj)} {σ : L2.St} {H : Hp} {s : Shared} {Q : VK} {us : List Value} {vs : List V} (M : Mk X.K C f) (F : FnOk X.prog X.w X.K X.mg X.base CX k f fd ps sp) (hr : Room (k + 1) X.A) (hb : Binds X.K fd ps []) (hx : PassesAt CX X σ E)
    (I : Inv X pins σ H s) (r : Vals vs us) (h : ∀ x dx, H x = none → H dx = none → dx ≠ x → sp (.ref x :: vs) (upd (upd H dx (.own x)) x (.ins C dx [])) (fun v H2 => v = .non ∧ Q (.ref x) H2) E) : wpAny (model X.prog X.w) X.A (call (.ref C) us) (EP X pins σ Q) X.xe s := by
  have hq := h (s.heap.objs.size + 1) s.heap.objs.size (I.hok.fresh (Nat.le_succ _)) (I.hok.fresh (Nat.le_refl _)) (Nat.ne_of_lt (Nat.lt_succ_self _))
  have J := Inv.made (C := C) I
  have r2 : Vals (V.ref (s.heap.objs.size + 1) :: vs) (Value.ref (s.heap.objs.size + 1) :: us) := .cons rfl r
  have bb := hb _ (Value.ref (s.heap.objs.size + 1) :: us) J.kIn (by rw [List.append_nil, ← r2.length]; exact F.len _ _ _ _ hq)
  rw [List.append_nil] at bb
  refine wpAny_call (make_map (f := f) I.kIn M.makes M.init (beq_iff_eq.mp M.fn) (codeAny_mono (F.run _ X.stack _ _ ⟨Value.ref (s.heap.objs.size + 1) :: us, []⟩ (Value.ref (s.heap.objs.size + 1) :: us) _ _ E (hr.make C us []) (J.env0.make C us []) bb r2 hq) fun res s' hq' => ?_))
  match res, hq' with
  | .error er, hq' => exact hx pins _ _ er s' J hq'
  | .ok (.ret u), hq' =>
    obtain ⟨v, H', I3, rv, ev, q3⟩ := J.after hq'
    subst ev
    exact ⟨rv, ⟨V.ref (s.heap.objs.size + 1), H', I3, rfl, q3⟩⟩
theorem dn_make {K : PySem.W.Frag} (ha : DnA K W E tas was) : Dn K W E (tMakeS C (spD K c) (WE W) tas) (wMake C c E was) := by
  intro F μ H ρ σ Q0 Q s h q
  refine ha F μ H ρ σ _ _ s h fun F1 μ1 H1 ds vs g1 s1 dvs h1 x dx hx hdx hne => ?_
  have s2 : Sok K F1 μ1 (upd H1 dx (.own x)) := s1.ok.junk hdx
  have hx2 : (upd H1 dx (.own x)) x = none := by rw [upd_ne (Ne.symm hne)]; exact hx
  have fr := s2.free hx2
  have s3 : Sok K F1 (um μ1 x (.ins C [])) (upd (upd H1 dx (.own x)) x (.ins C dx [])) := s2.cell (m := .ins C []) fr.1 ⟨dx, [], upd_same, rfl, rfl⟩
  refine ⟨F1, _, .mut x :: ds, _, _, s3, DVs.cons rfl dvs, h1 x fr.2, fun F3 μ3 H3 d3 v3 g3 t3 dv3 ⟨μ4, l, e3, h3⟩ => ?_, fun F3 μ3 H3 D fs g3 g4 t3 ex ⟨μ4, l, h3⟩ => ?_⟩
  · subst e3
    exact ⟨dv3, q F3 μ4 H3 (.mut x) (.ref x) (g1.trans g3) ((s1.mono g3 t3).weak l) rfl h3⟩
  · exact s1.wok F3 μ4 H3 ρ σ D fs g3 g4 (t3.weak l) (s1.env.mono g4) ex h3
theorem emake (tk : L2N.Takes X W) (h : DfK X.prog X.w X.K X.mg X.base x C k ps c) (hr : Room (k + 1) X.A) (ha : DA X W E (e :: es) tas was) (hg : Gl X x := by rfl) (hdb : (x == ("__debug__" : Str)) = false := by decide)
    (he : starEach (e :: es) X.env = (false, eval e X.env) :: starEach es X.env := by rfl) (hpl : (backTo pos (starEach es X.env)).any (·.1) = false := by rfl) : DE X W E (.Call (.Name x p) (e :: es) [] pos) (tMakeS C (spD X.K c) (WE W) tas) (wMake C c E was) := by
  obtain ⟨f, fd, G, M, hm, hb⟩ := h.ex
  refine ⟨⟨fun pins s σ H Q I z => wpAny_Call_Name_kw (ld_glob I hg hm ?_ hdb)⟩, dn_make ha.dn⟩
  refine PySem.W.callWith_K (h₀ := X.base) I.ok.mod.kin M.kp (thn (ha.pe.run pos pins s σ H _ I z) fun us s1 ⟨vs, H1, I1, r, q⟩ => ⟨I1.kIn, ?_⟩) he hpl
  exact run_makeN M G hr hb (L2N.passAt tk σ) I1 r q
end
end DL
set_option maxHeartbeats 4000000
namespace DL
open PySem L2 PySem.Spec PyProof.Rows
/-! ### whole numbers as texts, to 4300 digits -/
theorem repr_at {a : Int} {t : Tok} (ha : a.natAbs < 10 ^ 4300) : GivesAt (fun s => s.heap.NoDigits) (Builtin.«int.__repr__» ⟨[.int a t], []⟩) (.str (toString a)) := by
  intro prog w A R s hn h
  unfold Builtin.«int.__repr__»
  show wpAny _ _ (do let r ← Builtin.overDigitLimit? a; _) _ _ s
  refine wpAny_bind (overDigitLimit_any hn (fun _ => ?_) (fun hge => absurd ha (Nat.not_lt.mpr hge)))
  exact wpAny_bind (wpAny_mkStr (wpAny_pure h.2) (int_text_fits10 ha))
theorem fmt_at {a : Int} {t u : Tok} (ha : a.natAbs < 10 ^ 4300) : GivesAt (fun s => s.heap.NoDigits) (Builtin.«int.__format__» ⟨[.int a t, .str Str.empty u], []⟩) (.str (toString a)) := by
  intro prog w A R s hn h
  show wpAny _ _ (do let _kind ← typeNameOf (.str Str.empty u); (do rule "int.format.empty"; again (.builtin "int.__repr__" ⟨[.int a t], []⟩))) _ _ s
  refine wpAny_bind (wpAny_typeNameOf (typeIs_str _ _ _) (by decide) fun _ => wpAny_bind (wpAny_rule ?_))
  exact wpAny_pure ⟨plainId_quiet (by decide +kernel) _, codeAny_builtin PySem.F.entry_int_repr (by rw [Around.under_plainId (by decide +kernel)]; exact repr_at ha prog w A R s hn h)⟩
theorem field_at {prog : Program} {w : World} {A : Around} {E : Value → Shared → Prop} {s : Shared} {a : Int} {t : Tok} {Q : Value → Shared → Prop} (hn : s.heap.NoDigits) (ha : a.natAbs < 10 ^ 4300) (h : Q (.str (toString a) (s.toks + 1)) { s with toks := s.toks + 1 + 1 }) : wpAny (model prog w) A (formatField (.int a t) Str.empty) Q E s := by
  show wpAny _ _ (holding [.int a t] (pyFormat (.int a t) Str.empty)) Q E s
  refine wpAny_holding ?_
  unfold pyFormat
  refine wpAny_bind (wpAny_mkStr ?_ (by decide))
  refine wpAny_bind (m := callSpecial? (.int a t) (Str.ofString "__format__") [.str Str.empty s.toks]) (wpAny_callSpecial?_slot (name := Str.ofString "__format__") (typeIs_int _ a t) PySem.F.slot_int_format
    (call_givesAt PySem.F.slot_int_format (typeIs_int _ a t) PySem.F.entry_int_format (PySem.F.args_int_format_2 _ _) (fmt_at ha) hn ⟨int_text_fits10 ha, ?_⟩))
  show wpAny _ _ (do if ← isInstance (.str (toString a) (s.toks + 1)) (.type "str") then return (.str (toString a) (s.toks + 1)) else _) Q E _
  exact wpAny_bind (wpAny_isInstance (typeIs_str _ _ _) isSubtype_str_str (wpAny_pure h))
theorem nodig {X : Cx} {pins : List (Addr × Obj)} {σ : L2.St} {H : Hp} {s : Shared} (I : Inv X pins σ H s) (e : PySem.W.nsIn X.K cStatics "sys.int_max_str_digits" = some none) : s.heap.NoDigits := by
  obtain ⟨mc, h1, _⟩ := I.nolimit
  exact ⟨mc, h1, PySem.W.ns_none_of I.kIn h1 e⟩
/-- str(i) -/
def fStrI (ds : List D) (μ : Mu) (Q : D → Mu → Prop) : Prop := match ds with
  | [.int i] => i.natAbs < 10 ^ 4300 ∧ Q (.str (toString i)) μ
  | [.str x] => Q (.str x) μ
  | _ => False
def rStrI : List V → Hp → VK → Prop := fun xs H Q => (∃ i, xs = [.int i] ∧ i.natAbs < 10 ^ 4300 ∧ Q (.str (toString i)) H) ∨ ∃ x, xs = [.str x] ∧ Q (.str x) H
theorem call_strI {X : Cx} (hc : X.calm = true) (e : PySem.W.nsIn X.K cStatics "sys.int_max_str_digits" = some none) : CallR X (.type "str") rStrI := by
  intro pins s σ H xs us Q I r h
  rcases h with ⟨i, rfl, hz, q⟩ | ⟨x, rfl, q⟩
  · obtain ⟨u, rfl, t, rfl⟩ := vals1 r
    exact str_of_int_or (I.ok.hd hc) (nodig I e) (fun _ => ⟨.str _, H, I.tok _, ⟨_, rfl⟩, q⟩) fun hge => absurd hz (Nat.not_lt.mpr hge)
  · exact SkE.call_str_str pins s σ H _ us Q I r ⟨x, rfl, q⟩
theorem dc_strI {K : PySem.W.Frag} : DCa K rStrI fStrI := by
  intro F μ H vs ds Q0 Q s dv h q
  unfold fStrI at h
  split at h
  · rename_i i
    obtain ⟨v, r, rfl, d1, rfl⟩ := dv
    obtain rfl : v = V.int i := d1
    exact .inl ⟨i, rfl, h.1, q F μ H (.str _) _ Grow.refl s rfl h.2⟩
  · rename_i x
    obtain ⟨v, r, rfl, d1, rfl⟩ := dv
    obtain rfl : v = V.str x := d1
    exact .inr ⟨x, rfl, q F μ H (.str _) _ Grow.refl s rfl h⟩
  · exact h.elim
/-- {e} in an f-string -/
def fFmt (d : D) (μ : Mu) (Q : D → Mu → Prop) : Prop := match d with
  | .int i => i.natAbs < 10 ^ 4300 ∧ Q (.str (toString i)) μ
  | .str x => x.length ≤ sizeLine ∧ Q (.str x) μ
  | _ => False
def rFmt : V → Hp → VK → Prop := fun x H Q => (∃ y : Str, x = .str y ∧ y.length ≤ sizeLine ∧ Q (.str y) H) ∨ ∃ i : Int, x = .int i ∧ i.natAbs < 10 ^ 4300 ∧ Q (.str (toString i)) H
theorem du_fmt {K : PySem.W.Frag} : DUn K rFmt fFmt := by
  intro F μ H x dx Q0 Q s d1 h q
  unfold fFmt at h
  split at h
  · rename_i i
    obtain rfl : x = V.int i := d1
    exact .inr ⟨i, rfl, h.1, q F μ H (.str _) _ Grow.refl s rfl h.2⟩
  · rename_i y
    obtain rfl : x = V.str y := d1
    exact .inl ⟨y, rfl, h.1, q F μ H (.str _) _ Grow.refl s rfl h.2⟩
  · exact h.elim
section
variable {X : Cx} {W : WX} {E : EX} {e : Expr} {ta : TE} {wa : WEx} {pos : Pos}
theorem efmt (hs : PySem.W.nsIn X.K cStatics "sys.int_max_str_digits" = some none) (ha : DE X W E e ta wa) : DE X W E (.FormattedValue e (-1) none pos) (fun σ H Q => ta σ H fun x H1 => rFmt x H1 Q) (wUn fFmt wa) := by
  refine ⟨⟨fun pins s σ H Q I h => wpAny_FormattedValue_plain (thn (ha.pe.run pins s σ H _ I h) fun v s1 hv => ?_)⟩, dn_un du_fmt ha.dn⟩
  obtain ⟨x, H1, I1, r1, q⟩ := hv
  rcases q with ⟨y, rfl, hz, q⟩ | ⟨i, rfl, hz, q⟩
  · obtain ⟨t, rfl⟩ := r1
    exact wpAny_formatField_str ⟨.str y, H1, I1, ⟨t, rfl⟩, q⟩ ⟨.str y, H1, I1.tok _, ⟨_, rfl⟩, q⟩ hz
  · obtain ⟨t, rfl⟩ := r1
    exact field_at (nodig I1 hs) hz ⟨.str (toString i), H1, I1.tok _, ⟨_, rfl⟩, q⟩
end
/-- the parts of an f-string -/
def wJs : List WEx → Str → En → Mu → (Str → Mu → Prop) → Prop
  | [], acc, _, μ, Q => Q acc μ
  | w :: ws, acc, ρ, μ, Q => w ρ μ fun d μ1 => ∃ y : Str, d = .str y ∧ (acc ++ y).length ≤ sizeLine ∧ wJs ws (acc ++ y) ρ μ1 Q
inductive DJ (X : Cx) (W : WX) (E : EX) : List Expr → List TE → List WEx → Prop where
  | nil : DJ X W E [] [] []
  | cons {e : Expr} {t : TE} {w : WEx} {es : List Expr} {ts : List TE} {ws : List WEx} (h : DE X W E e t w) (r : DJ X W E es ts ws) : DJ X W E (e :: es) (t :: ts) (w :: ws)
theorem DJ.pj {X : Cx} {W : WX} {E : EX} {es : List Expr} {ts : List TE} {ws : List WEx} (h : DJ X W E es ts ws) : PJ X es ts := by
  induction h with
  | nil => exact .nil
  | cons h _ ih => exact .cons h.pe ih
theorem DJ.dn {X : Cx} {W : WX} {E : EX} {es : List Expr} {ts : List TE} {ws : List WEx} (h : DJ X W E es ts ws) : ∀ (acc : Str) F μ H ρ σ (Q0 : Str → Mu → Prop) (Q : Str → Hp → Prop), S0 X.K W E F μ H ρ σ → wJs ws acc ρ μ Q0 → (∀ F' μ' H' out, Grow F F' → S0 X.K W E F' μ' H' ρ σ → Q0 out μ' → Q out H') → tJs ts acc σ H Q := by
  induction h with
  | nil => exact fun acc F μ H ρ σ Q0 Q s hw q => q F μ H acc Grow.refl s hw
  | cons h _ ih =>
    intro acc F μ H ρ σ Q0 Q s hw q
    refine h.dn F μ H ρ σ _ _ s hw fun F1 μ1 H1 d v g1 s1 dv ⟨y, ed, hl, h1⟩ => ?_
    subst ed
    exact ⟨y, dv, hl, ih (acc ++ y) F1 μ1 H1 ρ σ Q0 Q s1 h1 fun F2 μ2 H2 out g2 => q F2 μ2 H2 out (g1.trans g2)⟩
def wJoin (ws : List WEx) : WEx := fun ρ μ Q => wJs ws Str.empty ρ μ fun out μ1 => Q (.str out) μ1
theorem ejoin {X : Cx} {W : WX} {E : EX} {v1 v2 : Expr} {rest : List Expr} {ts : List TE} {ws : List WEx} {pos : Pos} (h : DJ X W E (v1 :: v2 :: rest) ts ws) : DE X W E (.JoinedStr (v1 :: v2 :: rest) pos) (fun σ H Q => tJs ts Str.empty σ H fun out H1 => Q (.str out) H1) (wJoin ws) :=
  ⟨pe_joined h.pj, fun F μ H ρ σ Q0 Q s hw q => h.dn Str.empty F μ H ρ σ _ _ s hw fun F' μ' H' out g s' hq => q F' μ' H' (.str out) _ g s' rfl hq⟩
/-! ### a list comprehension where nothing is handled -/
section
variable {X : Cx} {W : WX} {E : EX} {elt it : Expr} {n : Str} {np pos : Pos} {ifs : List Expr} {sc : Scope} {ti : TI} {wi : WI} {wt : WT} {we : WEx}
theorem elc (nd : X.N.Nodup) (own : List (Str × Nat)) (i : Nat) {vs : List Nat} (hi : DIt X W E (.Name n np) it ti wi) (hg : ∀ u J C cl fp, PG (X.blk u J sc (compEnvC sc cl C X.env) fp) (.Name n np) (gName i)) (ht : ∀ u J C cl fp, ∃ tt, DTs (X.blk u J sc (compEnvC sc cl C X.env) fp) W E ifs tt wt)
    (he : ∀ u J C cl fp, ∃ te, DE (X.blk u J sc (compEnvC sc cl C X.env) fp) W E elt te we) (hc : X.calm = true := by rfl) (hvs : own.map (·.2) = vs := by rfl) (ok : blkC X.N X.env.scope sc own = true := by rfl) (hv : i ∈ own.map (·.2) := by decide) (hs : ∀ x, foldedSetIterable it X.env x = pure x := by intro _; rfl) :
    DE X W E (.ListComp elt [⟨.Name n np, it, ifs, 0⟩] sc pos) (tLc ti (gName i) (tOfT X.K W E wt) (tOfE X.K W E we) vs) (wLc wi i vs wt we) := by
  subst hvs
  exact ⟨pe_lc hc nd hi.pe (blkOk_by ok) hg (fun u J C cl fp => (ht u J C cl fp).elim fun _ h => h.of) (fun u J C cl fp => (he u J C cl fp).elim fun _ h => h.of) hs, dn_lc hi.dn dn_ofT dn_ofE hv⟩
end
end DL
set_option maxHeartbeats 4000000
namespace DL
open PySem L2 PySem.Spec PyProof.Rows
/-! ### words for the pure part -/
/-- for g in xs: b, xs a local that is a list (a cell that the loop does not change, or one for good) -/
theorem for_lv {k : Nat} {d : D} {l : List D} {μ : Mu} {ρ : En} {g : WG} {b : WS} {Ds : DEnds} (el : lv μ d = some l) (hv : ρ[k]? = some (some d)) (I : Nat → En → Mu → Prop) (i0 : I 0 ρ μ) (ik : ∀ i ρ' μ', I i ρ' μ' → le μ μ')
    (step : ∀ i e ρ' μ', l[i]? = some e → I i ρ' μ' → g e ρ' μ' fun ρ2 μ2 => b { Ds with nx := wk (I (i + 1)), ct := wk (I (i + 1)), bk := Ds.nx } ρ2 μ2) (done : ∀ ρ' μ', I l.length ρ' μ' → Ds.nx ρ' μ') : wFor (iLs (wVar k)) g b Ds ρ μ := by
  show iLs (wVar k) ρ μ _
  unfold iLs wVar
  rw [hv]
  unfold lv at el
  split at el
  · cases el
    exact ⟨I, i0, fun _ _ _ _ => trivial, step, done⟩
  · rename_i a
    split at el
    · rename_i l' em
      cases el
      dsimp only
      rw [em]
      exact ⟨I, i0, fun i ρ' μ' h => ik i ρ' μ' h _ _ em, step, done⟩
    · cases el
  · cases el
theorem sv_lv {μ : Mu} {d : D} {l : List D} (h : lv μ d = some l) : sv μ d = some l := by
  cases d <;> first | exact h | cases h
end DL
set_option maxHeartbeats 4000000
namespace DL
open PySem L2 PySem.Spec PyProof.Rows
/-! ### a < b <= c -/
def wChain (f g : F2) (a b c : WEx) : WEx := fun ρ μ Q => a ρ μ fun x μ1 => b ρ μ1 fun y μ2 => f x y μ2 fun z μ3 => match z with
  | .bl k => if k = true then c ρ μ3 fun w μ4 => g y w μ4 Q else Q (.bl false) μ3
  | _ => False
section
variable {K : PySem.W.Frag} {W : WX} {E : EX} {ta tb tc : TE} {wa wb wc : WEx} {r r' : R2} {f g : F2}
theorem dn_chain (hf : DOp K r f) (hg : DOp K r' g) (ha : Dn K W E ta wa) (hb : Dn K W E tb wb) (hc : Dn K W E tc wc) : Dn K W E (tChain r r' ta tb tc) (wChain f g wa wb wc) := by
  intro F μ H ρ σ Q0 Q s h q
  refine ha F μ H ρ σ _ _ s h fun F1 μ1 H1 x v g1 s1 dv h1 => ?_
  refine hb F1 μ1 H1 ρ σ _ _ s1 h1 fun F2 μ2 H2 y u g2 s2 du h2 => ?_
  refine hf F2 μ2 H2 v u x y _ _ s2.ok (dv.mono g2) du h2 fun F3 μ3 H3 z zv g3 s3 dz h3 => ?_
  have S3 : S0 K W E F3 μ3 H3 ρ σ := s2.mono g3 s3
  split at h3
  · rename_i k
    refine ⟨k, dz, ?_⟩
    cases k with
    | true =>
      rw [if_pos rfl] at *
      refine hc F3 μ3 H3 ρ σ _ _ S3 h3 fun F4 μ4 H4 w wv g4 s4 dw h4 => ?_
      refine hg F4 μ4 H4 u wv y w Q0 Q s4.ok (du.mono (g3.trans g4)) dw h4 fun F5 μ5 H5 d5 v5 g5 s5 dv5 h5 => ?_
      exact q F5 μ5 H5 d5 v5 (g1.trans (g2.trans (g3.trans (g4.trans g5)))) (s4.mono g5 s5) dv5 h5
    | false =>
      rw [if_neg Bool.false_ne_true] at *
      exact q F3 μ3 H3 (.bl false) (.bl false) (g1.trans (g2.trans g3)) S3 rfl h3
  · exact h3.elim
/-- texts joined -/
def fAddS : F2 := fun x y μ Q => match x, y with
  | .str a, .str b => a.length + b.length ≤ sizeLine ∧ Q (.str (a ++ b)) μ
  | _, _ => False
theorem do_adds : DOp K (fun x y H Q => ∃ i j, x = .str i ∧ y = .str j ∧ i.length + j.length ≤ sizeLine ∧ Q (.str (i ++ j)) H) fAddS := by
  intro F μ H x y dx dy Q0 Q s d1 d2 h q
  unfold fAddS at h
  split at h
  · rename_i a b
    obtain rfl : x = V.str a := d1
    obtain rfl : y = V.str b := d2
    exact ⟨a, b, rfl, rfl, h.1, q F μ H (.str _) _ Grow.refl s rfl h.2⟩
  · exact h.elim
end
section
variable {X : Cx} {W : WX} {E : EX} {a b c : Expr} {ta tb tc : TE} {wa wb wc : WEx} {pos : Pos} {r r' : R2} {f g : F2} {op op' : CmpOp}
theorem echain (ho : OpR X (compareOp op) r) (hf : DOp X.K r f) (ho' : OpR X (compareOp op') r') (hg : DOp X.K r' g) (ha : DE X W E a ta wa) (hb : DE X W E b tb wb) (hc : DE X W E c tc wc) (hm : lastMarks [op, op'] [b, c] = false := by with_unfolding_all rfl) :
    DE X W E (.Compare a [op, op'] [b, c] pos) (tChain r r' ta tb tc) (wChain f g wa wb wc) := ⟨pe_chain ho ho' ha.pe hb.pe hc.pe hm, dn_chain hf hg ha.dn hb.dn hc.dn⟩
theorem tchain (ho : OpR X (compareOp op) r) (hf : DOp X.K r f) (ho' : OpR X (compareOp op') r') (hg : DOp X.K r' g) (ha : DE X W E a ta wa) (hb : DE X W E b tb wb) (hc : DE X W E c tc wc) (hm : lastMarks [op, op'] [b, c] = false := by with_unfolding_all rfl) :
    DT X W E (.Compare a [op, op'] [b, c] pos) (tTest (tChain r r' ta tb tc)) (wTe (wChain f g wa wb wc)) := ⟨pt_chain ho ho' ha.pe hb.pe hc.pe hm, dn_te (dn_chain hf hg ha.dn hb.dn hc.dn)⟩
theorem eadds (ha : DE X W E a ta wa) (hb : DE X W E b tb wb) : DE X W E (.BinOp a .Add b pos) (tOp (fun x y H Q => ∃ i j, x = .str i ∧ y = .str j ∧ i.length + j.length ≤ sizeLine ∧ Q (.str (i ++ j)) H) ta tb) (wOp fAddS wa wb) := eo op_add_str do_adds ha hb
end
end DL
set_option maxHeartbeats 4000000
namespace DL
open PySem L2 PySem.Spec PyProof.Rows
/-! ### xs[::-1] -/
def rRev (K : PySem.W.Frag) (x : V) (j : Option Int) (H : Hp) (Q : VK) : Prop := j = some (-1) ∧ ∃ a xs, x = .ref a ∧ SqL K H a xs ∧ ∀ p, H p = none → Q (.ref p) (upd H p (.lst xs.reverse))
def tRev (K : PySem.W.Frag) (te : TE) (tj : TO) : TE := fun σ H Q => te σ H fun x H1 => tj σ H1 fun j H2 => rRev K x j H2 Q
theorem pe_rev {X : Cx} {e : Expr} {te : TE} {st : Expr} {tj : TO} {pos p2 : Pos} (he : PE X e te) (hj : PO X (some st) tj) : PE X (.Subscript e (.Slice none none (some st) p2) pos) (tRev X.K te tj) := by
  refine ⟨fun pins s σ H Q I h => ?_⟩
  refine Subscript_ (thn (he.run pins s σ H _ I h) fun v s1 ⟨x, H1, I1, r1, q1⟩ => ?_)
  refine wpAny_Slice ?_
  rw [evalPart_none]
  refine wpAny_pure (wpAny_pure (thn (hj.run pins s1 σ H1 _ I1 q1) fun vj s3 ⟨j, H3, I3, pj, q3⟩ => ?_))
  obtain ⟨rfl, a, xs, rfl, hx, q⟩ := q3
  have I4 : Inv X pins σ H3 { s3 with heap := s3.heap.push { cls := .type "slice", data := .fields #[.none, .none, vj] } } := I3.kept (t' := s3.toks) fun b ob q => Heap.get?_push_of_some _ q
  cases r1
  obtain ⟨its, r, ht, hz⟩ := I4.list hx
  show wpAny (model X.prog X.w) X.A (subscriptTail e (.Slice none none (some st) p2) (.ref a) (.ref s3.heap.objs.size)) (EP X pins σ Q) X.xe { s3 with heap := s3.heap.push { cls := .type "slice", data := .fields #[.none, .none, vj] } }
  refine tail_any (ops := [.ref a, .ref s3.heap.objs.size]) ht.isList.typeIs slot_list_getitem.lookup ?_ (by with_unfolding_all rfl)
  refine wpAny_getItem_list_slice ht.isList (Heap.IsSliceOf.new ..) .none .none pj (by decide) ?_ (by rw [List.size_toArray, ← r.length]; exact hz)
  rw [PySem.W.krv_pick]
  refine ⟨.ref _, _, I4.laid (t' := s3.toks) (o := .lst xs.reverse) (fun b ob q => Heap.get?_push_of_some _ q) (Nat.le_refl _) ?_, rfl, q _ (I4.hok.fresh (Nat.le_refl _))⟩
  refine ⟨?_, its.reverse, 0, r.reverse, ?_⟩
  · rw [List.length_reverse]; exact hz
  · exact Heap.get?_push_size _ rfl
/-- of a list: a new cell -/
def fRev (d : D) (j : Option Int) (μ : Mu) (Q : D → Mu → Prop) : Prop := j = some (-1) ∧ match lvr μ d with
  | some l => ∀ p, μ p = none → Q (.mut p) (um μ p (.lst l.reverse))
  | none => False
def wRev (a : WEx) (s : WO) : WEx := fun ρ μ Q => a ρ μ fun d μ1 => s ρ μ1 fun j μ2 => fRev d j μ2 Q
theorem DVs.reverse {K : PySem.W.Frag} {F : Hp} : ∀ {l : List D} {xs : List V}, DVs K F l xs → DVs K F l.reverse xs.reverse
  | [], _, h => by rw [show _ = [] from h]; exact rfl
  | _ :: l, _, h => by
    obtain ⟨v, vs, rfl, a, r⟩ := h
    rw [List.reverse_cons, List.reverse_cons]
    exact (DVs.reverse r).append (DVs.cons a DVs.nil)
theorem erev {X : Cx} {W : WX} {E : EX} {e : Expr} {te : TE} {we : WEx} {st : Expr} {tj : TO} {wj : WO} {pos p2 : Pos} (he : DE X W E e te we) (hj : DO X W E (some st) tj wj) : DE X W E (.Subscript e (.Slice none none (some st) p2) pos) (tRev X.K te tj) (wRev we wj) := by
  refine ⟨pe_rev he.pe hj.pe, fun F μ H ρ σ Q0 Q s h q => ?_⟩
  refine he.dn F μ H ρ σ _ _ s h fun F1 μ1 H1 d v g1 s1 dv h1 => ?_
  refine hj.dn F1 μ1 H1 ρ σ _ _ s1 h1 fun F2 μ2 H2 j g2 s2 h2 => ?_
  obtain ⟨rfl, h2⟩ := h2
  split at h2
  · rename_i l el
    obtain ⟨a, xs, rfl, r, dl⟩ := lvr_ok s2.ok (dv.mono g2) el
    refine ⟨rfl, a, xs, rfl, r, fun p hp => ?_⟩
    have f := s2.ok.free hp
    exact q F2 _ _ (.mut p) _ (g1.trans g2) (s2.mono Grow.refl (s2.ok.cell (m := .lst _) f.1 ⟨_, upd_same, dl.reverse⟩)) rfl (h2 p f.2)
  · exact h2.elim
/-! ### {}, {k: v} -/
def wDNew : WEx := fun _ μ Q => ∀ p, μ p = none → Q (.mut p) (um μ p (.dK []))
def wDNewF : WEx := fun _ μ Q => Q (.dK [] []) μ
def kD : Key → D
  | .inl i => .int i
  | .inr x => .str x
def wDsp1 (k v : WEx) : WEx := fun ρ μ Q => ∀ p, μ p = none → k ρ (um μ p (.dK [])) fun x μ1 => v ρ μ1 fun y μ2 => μ2 p = some (.dK []) ∧ ∃ key, x = kD key ∧ Q (.mut p) (um μ2 p (.dK [(key, y)]))
def wDsp1F (k v : WEx) : WEx := fun ρ μ Q => ∀ p, μ p = none → k ρ (um μ p (.dK [])) fun x μ1 => v ρ μ1 fun y μ2 => μ2 p = some (.dK []) ∧ ∃ key, x = kD key ∧ Q (.dK [key] [y]) (rm μ2 p)
theorem kD_dv {K : PySem.W.Frag} {F : Hp} {k : Key} {v : V} (h : DV K F (kD k) v) : v = kV k := by
  cases k <;> exact h
section
variable {X : Cx} {W : WX} {E : EX} {k v : Expr} {tk tv : TE} {wk' wv : WEx} {pos : Pos}
theorem ednew : DE X W E (.Dict [] [] pos) tDNewK wDNew := ⟨pe_dnewK, fun F μ H ρ σ Q0 Q s h q p hp => by
  have f := s.ok.free hp
  exact q F _ _ (.mut p) _ Grow.refl (s.mono Grow.refl (s.ok.cell (m := .dK []) f.1 ⟨[], upd_same, rfl, rfl⟩)) rfl (h p f.2)⟩
theorem ednewF : DE X W E (.Dict [] [] pos) tDNewK wDNewF := ⟨pe_dnewK, fun F μ H ρ σ Q0 Q s h q p hp => by
  have f := s.ok.free hp
  exact q (upd F p (.dK [])) μ _ (.dK [] []) _ (Grow.new f.1) (s.mono (Grow.new f.1) (s.ok.put hp)) ⟨p, [], rfl, upd_same, rfl, rfl⟩ h⟩
theorem edsp1 (hk : DE X W E k tk wk') (hv : DE X W E v tv wv) : DE X W E (.Dict [some k] [v] pos) (tDisp [(tk, tv)]) (wDsp1 wk' wv) := by
  refine ⟨pe_disp (pps_cons hk.pe hv.pe pps_nil) (by rfl) (by rfl) (fun z => by cases z) (Nat.le_of_ble_eq_true rfl), fun F μ H ρ σ Q0 Q s h q p hp => ?_⟩
  have f := s.ok.free hp
  have s1 := s.mono Grow.refl (s.ok.cell (o := .dK []) (m := .dK []) f.1 ⟨[], upd_same, rfl, rfl⟩)
  refine hk.dn F _ _ ρ σ _ _ s1 (h p f.2) fun F1 μ1 H1 x xv g1 s1 dx h1 => ?_
  refine hv.dn F1 _ _ ρ σ _ _ s1 h1 fun F2 μ2 H2 y yv g2 s2 dy ⟨hm, key, ex, h2⟩ => ?_
  subst ex
  obtain ⟨fr, ys, ho, kd⟩ := s2.ok.cel p _ hm
  obtain rfl := kD_dv (dx.mono g2)
  have ey : ys = [] := by
    have := kd.1
    simpa using this
  subst ey
  refine ⟨ho, [(key, yv)], rfl, Nat.le_of_ble_eq_true rfl, ?_⟩
  exact q F2 _ _ (.mut p) _ (g1.trans g2) (s2.mono Grow.refl (s2.ok.cell (m := .dK [(key, y)]) fr ⟨[(key, yv)], upd_same, rfl, DVs.cons dy DVs.nil⟩)) rfl h2
theorem edsp1F (hk : DE X W E k tk wk') (hv : DE X W E v tv wv) : DE X W E (.Dict [some k] [v] pos) (tDisp [(tk, tv)]) (wDsp1F wk' wv) := by
  refine ⟨pe_disp (pps_cons hk.pe hv.pe pps_nil) (by rfl) (by rfl) (fun z => by cases z) (Nat.le_of_ble_eq_true rfl), fun F μ H ρ σ Q0 Q s h q p hp => ?_⟩
  have f := s.ok.free hp
  have s1 := s.mono Grow.refl (s.ok.cell (o := .dK []) (m := .dK []) f.1 ⟨[], upd_same, rfl, rfl⟩)
  refine hk.dn F _ _ ρ σ _ _ s1 (h p f.2) fun F1 μ1 H1 x xv g1 s1 dx h1 => ?_
  refine hv.dn F1 _ _ ρ σ _ _ s1 h1 fun F2 μ2 H2 y yv g2 s2 dy ⟨hm, key, ex, h2⟩ => ?_
  subst ex
  obtain ⟨fr, ys, ho, kd⟩ := s2.ok.cel p _ hm
  obtain rfl := kD_dv (dx.mono g2)
  have ey : ys = [] := by
    have := kd.1
    simpa using this
  subst ey
  refine ⟨ho, [(key, yv)], rfl, Nat.le_of_ble_eq_true rfl, ?_⟩
  have s3 : S0 X.K W E F2 (um μ2 p (.dK [(key, y)])) (upd H2 p (.dK [(key, yv)])) ρ σ := s2.mono Grow.refl (s2.ok.cell (m := .dK [(key, y)]) fr ⟨[(key, yv)], upd_same, rfl, DVs.cons dy DVs.nil⟩)
  have s4 := s3.mono (Grow.new fr) (s3.ok.frz (o := .dK [(key, yv)]) fr upd_same)
  have e4 : rm (um μ2 p (.dK [(key, y)])) p = rm μ2 p := by
    funext b; unfold rm um; split <;> rfl
  rw [e4] at s4
  exact q _ _ _ (.dK [key] [y]) _ (g1.trans (g2.trans (Grow.new fr))) s4 ⟨p, [(key, yv)], rfl, upd_same, rfl, (DVs.cons dy DVs.nil).mono (Grow.new fr)⟩ h2
end
/-! ### == at any depth -/
mutual
/-- data without dicts and cells, as the model's own -/
def toP : D → Option PyData
  | .non => some .none
  | .bl b => some (.bool b)
  | .int i => some (.int i)
  | .str x => some (.str x)
  | .tup l => (toPs l).map .tuple
  | .lst l => (toPs l).map .list
  | .lsr l => (toPs l).map .list
  | _ => none
def toPs : List D → Option (List PyData)
  | [] => some []
  | d :: l => (toP d).bind fun x => (toPs l).map fun xs => x :: xs
end
section
variable {K : PySem.W.Frag} {F H : Hp}
mutual
theorem dp_of (g : Grow F H) : ∀ {d : D} {v : V} {x : PyData}, DV K F d v → toP d = some x → Dp K H v x
  | .non, _, _, h, e => by cases e; rw [show _ = V.non from h]; exact .non
  | .bl b, _, _, h, e => by cases e; rw [show _ = V.bl b from h]; exact .bl b
  | .int b, _, _, h, e => by cases e; rw [show _ = V.int b from h]; exact .int b
  | .str b, _, _, h, e => by cases e; rw [show _ = V.str b from h]; exact .str b
  | .tup l, _, _, h, e => by
    obtain ⟨a, xs, rfl, r, dl⟩ := h
    have e : (toPs l).map PyData.tuple = some _ := e
    cases q : toPs l with
    | none => rw [q] at e; cases e
    | some ys => rw [q] at e; cases e; exact .tup (g.st r) (dps_of g dl q)
  | .lst l, _, _, h, e => by
    obtain ⟨a, xs, rfl, r, dl⟩ := h
    have e : (toPs l).map PyData.list = some _ := e
    cases q : toPs l with
    | none => rw [q] at e; cases e
    | some ys => rw [q] at e; cases e; exact .lst (SqL.of (g _ _ r)) (dps_of g dl q)
  | .lsr l, _, _, h, e => by
    obtain ⟨a, xs, rfl, r, dl⟩ := h
    have e : (toPs l).map PyData.list = some _ := e
    cases q : toPs l with
    | none => rw [q] at e; cases e
    | some ys => rw [q] at e; cases e; exact .lst (g.sl r) (dps_of g dl q)
  | .dK _ _, _, _, _, e => nomatch e
  | .dT _ _, _, _, _, e => nomatch e
  | .ins _ _ _, _, _, _, e => nomatch e
  | .mut _, _, _, _, e => nomatch e
theorem dps_of (g : Grow F H) : ∀ {l : List D} {xs : List V} {ys : List PyData}, DVs K F l xs → toPs l = some ys → DpAll K H xs ys
  | [], _, _, h, e => by cases e; rw [show _ = [] from h]; exact .nil
  | d :: l, _, _, h, e => by
    obtain ⟨v, vs, rfl, a, r⟩ := h
    have e : ((toP d).bind fun x => (toPs l).map fun xs => x :: xs) = some _ := e
    cases q : toP d with
    | none => rw [q] at e; cases e
    | some y =>
      rw [q] at e
      cases q2 : toPs l with
      | none => rw [q2] at e; cases e
      | some ys => rw [q2] at e; cases e; exact .cons (dp_of g a q) (dps_of g r q2)
end
end
def fEqD : F2 := fun x y μ Q => ∃ d e, toP x = some d ∧ toP y = some e ∧ SeqAt.shaped d = true ∧ SeqAt.shaped e = true ∧ Q (.bl (PyData.eqv d e)) μ
def fNeD : F2 := fun x y μ Q => ∃ d e, toP x = some d ∧ toP y = some e ∧ SeqAt.shaped d = true ∧ SeqAt.shaped e = true ∧ Q (.bl (!PyData.eqv d e)) μ
theorem do_eqD {K : PySem.W.Frag} : DOp K (rEqD K) fEqD := by
  intro F μ H x y dx dy Q0 Q s d1 d2 ⟨d, e, h1, h2, h3, h4, h⟩ q
  exact ⟨d, e, dp_of s.sub d1 h1, dp_of s.sub d2 h2, h3, h4, q F μ H (.bl _) _ Grow.refl s rfl h⟩
theorem do_neD {K : PySem.W.Frag} : DOp K (rNeD K) fNeD := by
  intro F μ H x y dx dy Q0 Q s d1 d2 ⟨d, e, h1, h2, h3, h4, h⟩ q
  exact ⟨d, e, dp_of s.sub d1 h1, dp_of s.sub d2 h2, h3, h4, q F μ H (.bl _) _ Grow.refl s rfl h⟩
theorem eqD_short {x : PyData} {xs : List PyData} : PyData.eqv (.list (x :: xs)) (.list []) = false := by
  unfold PyData.eqv PyData.eqvAll
  rfl
end DL
set_option maxHeartbeats 4000000
namespace DL
open PySem L2 PySem.Spec PyProof.Rows He
/-! ### a head's facts with a Bool of one's own, the interpreter's statics among them -/
def asY (g : Addr → Option Obj) (n : Nat) : List Addr := asD g n ++ [cStatics]
abbrev AlY : Type := AlD × Bool
def obsY (n : Nat) (fa : List Fa) (fn : List DefD) (ex : PySem.W.Frag → Bool) (g : Addr → Option Obj) : AlY := (obsD fa fn (frG g (asY g n)), ex (frG g (asY g n)))
def hookY (n : Nat) (fa : List Fa) (fn : List DefD) (ex : PySem.W.Frag → Bool) : PySem.W.Hook where
  α := AlY
  obs := fun s => obsY n fa fn ex s.heap.get?
  val := fun _ => (valD fn, true)
  says := fun _ h => ∃ K : PySem.W.Frag, K.In h ∧ SaysD fa fn K ∧ ex K = true
  of := fun _ _ e => ⟨_, frG_in, congrArg (fun z : AlY => z.1) e, congrArg (fun z : AlY => z.2) e⟩
  keeps := fun _ _ _ ⟨K, hK, c⟩ k => ⟨K, PySem.W.Frag.In.keeps hK k, c⟩
theorem obsY_eq {n : Nat} {fa : List Fa} {fn : List DefD} {ex : PySem.W.Frag → Bool} {g : Addr → Option Obj} {s : Shared} (h : ∀ a, g a = s.heap.get? a) : obsY n fa fn ex g = (hookY n fa fn ex).obs s := by
  have e : g = s.heap.get? := funext h
  rw [e] <;> rfl
end DL
set_option maxHeartbeats 800000
namespace K01
open PySem L2 DL
/-- where the classes stand -/
structure Ad where
  (BadNumber : Addr)
/-- what the top has written -/
structure Tx (P : Program) (base : Heap) (K : PySem.W.Frag) (mg : Str → Option Value) (A : Ad) : Prop where
  seer : base.NoSeer
  tree : P.given.tree = none
  b_len : mg "len" = none
  b_abs : mg "abs" = none
  b_int : mg "int" = none
  b_list : mg "list" = none
  b_range : mg "range" = none
  b_isinstance : mg "isinstance" = none
  b_bool : mg "bool" = none
  b_str : mg "str" = none
  b_tuple : mg "tuple" = none
  b_dict : mg "dict" = none
  dig : PySem.W.nsIn K cStatics "sys.int_max_str_digits" = some none
  x_BadNumber : Xc K mg "BadNumber" A.BadNumber
def top (i : Nat) : Stmt := PySem.Challenge.pw_twothick_k01_ratio_readings.main.body.getD i (.Pass ⟨0, 0, 0, 0⟩)
/-! ### ratio.py -/
def c_common_part (A : Ad) : Ct := fun ds μ Q _ => match ds with
  | [.int a, .int b] => Q (.int (Int.gcd a b : Nat)) μ
  | _ => False
abbrev s_common_part : Stmt := top 30
theorem sc_common_part : FnScope ["top", "bottom", "great", "small"] ["top", "bottom"] (defScope s_common_part) := ⟨rfl, rfl, rfl, by decide +kernel, rfl, by decide +kernel, by decide +kernel⟩
def w_common_part (A : Ad) (E : EX) : WS := (wSeq (wPar 2 3 (wCons (wCB fAbs (wCons (wVar 0) wNil)) (wCons (wCB fAbs (wCons (wVar 1) wNil)) wNil)))
  (wSeq (wWhile (wTr (wVar 3)) (wPar 2 3 (wCons (wVar 3) (wCons (wOp fMod (wVar 2) (wVar 3)) wNil))))
  (wRet (wVar 2))))
theorem pure_common_part (A : Ad) (ds μ Q E0) (h : c_common_part A ds μ Q E0) : w_common_part A (fun C fs _ μ => dwx E0 C fs μ) (rets Q) (st0 4 ds) μ := by
  unfold c_common_part at h
  split at h
  · rename_i a b
    show wWhile _ _ _ [some (.int a), some (.int b), some (.int (a.natAbs : Nat)), some (.int (b.natAbs : Nat))] μ
    refine ⟨fun m ρ μ' => μ' = μ ∧ ∃ g s : Nat, m = s ∧ ρ = [some (.int a), some (.int b), some (.int g), some (.int s)] ∧ Nat.gcd g s = Int.gcd a b, ⟨_, rfl, _, _, rfl, rfl, rfl⟩, ?_⟩
    rintro m ρ μ' ⟨rfl, g, s, rfl, rfl, e⟩
    show (if (((m : Nat) : Int) != 0) = true then _ else _)
    by_cases hs : m = 0
    · subst hs
      rw [if_neg (by decide)]
      refine dwn.of ?_
      rw [← e, Nat.gcd_zero_right] at h
      exact h
    · rw [if_pos (by simpa using hs)]
      show (0 : Int) < (m : Nat) ∧ _
      refine ⟨by omega, wk.of ⟨g % m, Nat.mod_lt _ (by omega), rfl, m, g % m, rfl, rfl, ?_⟩⟩
      rw [← e, Nat.gcd_comm g m, Nat.gcd_rec m g, Nat.gcd_comm]
  · exact h.elim
theorem len_common_part (A : Ad) : ∀ ds μ Q E, c_common_part A ds μ Q E → ds.length = 2 := by
  intro ds μ Q E h
  unfold c_common_part at h
  first | (split at h) | (split at h)
  all_goals first | rfl | exact h.elim
theorem ok_common_part {P : Program} {w : World} {K : PySem.W.Frag} {mg : Str → Option Value} {base : Heap} {A : Ad} (D : Dfn K mg "common_part" "common_part" s_common_part ["top", "bottom"]) (T : Tx P base K mg A)  : DfOk P w K mg base "common_part" 1 ["top", "bottom"] (c_common_part A) := by
  obtain ⟨f, fd, F, hm, hb⟩ := D
  refine ⟨f, fd, okD F sc_common_part (by decide) (len_common_part A) ?_, hm, F.kp, hb⟩
  intro X W E cdv B outer s H Ex hX tk hp hr
  subst hX
  exact ⟨_, w_common_part A E, (scons (spar (i := 2) (j := 3) (acons (ecb call_abs dc_abs T.b_abs (acons (ev 0) anil)) (acons (ecb call_abs dc_abs T.b_abs (acons (ev 1) anil)) anil)) sc_common_part.nd)
  (scons (swhile hp (ttru (ev 3)) (sone (spar (i := 2) (j := 3) (acons (ev 3) (acons (emod (ev 2) (ev 3)) anil)) sc_common_part.nd)))
  (sone (sret (ev 2))))), fun ds μ Q E0 hc hE => by subst hE; exact pure_common_part A ds μ Q E0 hc⟩
end K01
set_option maxHeartbeats 800000
namespace K01
open PySem L2 DL
local macro_rules | `(tactic| walk_at "w") => `(tactic| simp only [wSeq, wNext, wIf, wRet, wRetN, wDrop, wAsg, gN, wVar, wC, wOp, wUn, wNil, wCons, wCB, wTup, wLst, wLstF, wTe, tB0, wAnd, wOr, wNot, wAndV, wOrV, wNotV, wIfE, wCall, wCallG, wRaise, wFrz, fFrz, rets, fI, fI0, fAdd, fSub, fMul, fLt, fLe, fGt, fGe, fMod, fModN, fPow, fDiv, fDivG, fNeg, fEq, fNe, eqF_int, eqF_bl, eqF_str, scal_int, scal_bl, scal_str, fLen, sv, fIx, fAbs, fInt, fList, wSl, fSlL, oNo, oSo, lvr, lv, fCat, wMeL, fApp, fPop, fSetL, gSb, iLs, iTp, iR1, iR2, wFor, gTp, gCn, gNl, wPar, wBrk, wCnt, fIsi, wIsx, wLc, wYes, wip, wTr, truD, wTry, clrD, wFld, fieldsD, wSetF, wMeth, wMake, fStrI, fFmt, wJoin, wJs, wChain, fAddS, fIsN, fNotN, um_same, um_um, st0, List.map_cons, List.map_nil, List.length_cons, List.length_nil, List.getElem?_cons_zero, List.getElem?_cons_succ, List.set_cons_zero, List.set_cons_succ, List.cons_append, List.nil_append, List.replicate, atI_c0, atI_c1, atI_c2, atI_c3, atI_c4, atI_c5, atI_c6, ixN_70, ixN_71, ixN_72, ixN_73, ixN_74, ixN_75, ixN_76, Nat.reduceAdd, ite_T, ite_F, if_dec, if_ndec, if_nb, true_and, if_true, Bool.false_eq_true, if_false])
/-- the form of a ratio -/
def formB (ns : List Int) : Bool := match ns with
  | [a, b] => decide (1 ≤ b) && decide (Int.gcd a b = 1)
  | _ => false
def c_has_form (A : Ad) : Ct := fun ds μ Q _ => match ds with
  | [.tup l] => ∃ ns : List Int, l = ns.map D.int ∧ Q (.bl (formB ns)) μ
  | _ => False
abbrev s_has_form : Stmt := top 31
theorem sc_has_form : FnScope ["pair"] ["pair"] (defScope s_has_form) := ⟨rfl, rfl, rfl, by decide +kernel, rfl, by decide +kernel, by decide +kernel⟩
def w_has_form (A : Ad) (E : EX) : WS := (wSeq (wIf (wOr (wTe (wOp fNe (wCB fLen (wCons (wVar 0) wNil)) (wC (.int (2))))) (wTe (wOp fLt (wOp fIx (wVar 0) (wC (.int (1)))) (wC (.int (1)))))) (wRet (wC (.bl false))) wNext)
  (wRet (wOrV (wOp fEq (wOp fIx (wVar 0) (wC (.int (1)))) (wC (.int (1)))) (wOp fEq (wCall (c_common_part A) E (wCons (wOp fIx (wVar 0) (wC (.int (0)))) (wCons (wOp fIx (wVar 0) (wC (.int (1)))) wNil))) (wC (.int (1)))))))
theorem pure_has_form (A : Ad) (ds μ Q E0) (h : c_has_form A ds μ Q E0) : w_has_form A (fun C fs _ μ => dwx E0 C fs μ) (rets Q) (st0 1 ds) μ := by
  unfold c_has_form at h
  split at h
  · rename_i l
    obtain ⟨ns, rfl, h⟩ := h
    unfold w_has_form
    match ns, h with
    | [], h => walk_at "w"; exact dwn.of h
    | [a], h => walk_at "w"; exact dwn.of h
    | a :: b :: c :: r, h =>
      walk_at "w"
      rw [if_neg (by omega)]
      exact dwn.of h
    | [a, b], h =>
      walk_at "w"
      have h : Q (.bl (decide (1 ≤ b) && decide (Int.gcd a b = 1))) μ := h
      rw [if_pos (by decide)]
      refine ite2 (fun hb => ?_) (fun hb => ?_)
      · rw [decide_eq_false (show ¬ 1 ≤ b by omega)] at h
        exact dwn.of h
      · rw [decide_eq_true (show 1 ≤ b by omega), Bool.true_and] at h
        refine ite2 (fun h1 => ?_) (fun h1 => ?_)
        · obtain rfl : b = 1 := h1
          rw [Int.gcd_one_right] at h
          exact dwn.of h
        · show _ ∧ _
          rw [eqF_int]
          refine ⟨rfl, dwn.of ?_⟩
          rw [show decide (((Int.gcd a b : Nat) : Int) = 1) = decide (Int.gcd a b = 1) from by congr 1; apply propext; omega]
          exact h
  · exact h.elim
theorem len_has_form (A : Ad) : ∀ ds μ Q E, c_has_form A ds μ Q E → ds.length = 1 := by
  intro ds μ Q E h
  unfold c_has_form at h
  first | (split at h) | (split at h)
  all_goals first | rfl | exact h.elim
theorem ok_has_form {P : Program} {w : World} {K : PySem.W.Frag} {mg : Str → Option Value} {base : Heap} {A : Ad} (D : Dfn K mg "has_form" "has_form" s_has_form ["pair"]) (T : Tx P base K mg A) (G_common_part : DfOk P w K mg base "common_part" 1 ["top", "bottom"] (c_common_part A)) : DfOk P w K mg base "has_form" 2 ["pair"] (c_has_form A) := by
  obtain ⟨f, fd, F, hm, hb⟩ := D
  refine ⟨f, fd, okD F sc_has_form (by decide) (len_has_form A) ?_, hm, F.kp, hb⟩
  intro X W E cdv B outer s H Ex hX tk hp hr
  subst hX
  exact ⟨_, w_has_form A E, (scons (sif (tbo (tor (tc' op_ne do_ne (ecb call_len_seq dc_len T.b_len (acons (ev 0) anil)) ei) (tor1 (tc' op_lt do_lt (eix (ev 0) ei) ei)))) (sone (sret eb)) snil)
  (sone (sret (eor (ec op_eq do_eq (eix (ev 0) ei) ei) (eone (ec op_eq do_eq (ecall2 tk G_common_part (hr.mono (by decide)) (acons (eix (ev 0) ei) (acons (eix (ev 0) ei) anil))) ei)))))), fun ds μ Q E0 hc hE => by subst hE; exact pure_has_form A ds μ Q E0 hc⟩
def c_must_be_ratio (A : Ad) : Ct := fun ds μ Q E => match ds with
  | [.tup l] => ∃ ns : List Int, l = ns.map D.int ∧ if formB ns then Q .non μ else E A.BadNumber [] μ
  | _ => False
abbrev s_must_be_ratio : Stmt := top 32
theorem sc_must_be_ratio : FnScope ["pair"] ["pair"] (defScope s_must_be_ratio) := ⟨rfl, rfl, rfl, by decide +kernel, rfl, by decide +kernel, by decide +kernel⟩
def w_must_be_ratio (A : Ad) (E : EX) : WS := (wIf (wNot (wTe (wCall (c_has_form A) E (wCons (wVar 0) wNil)))) (wRaise A.BadNumber E) wNext)
theorem pure_must_be_ratio (A : Ad) (ds μ Q E0) (h : c_must_be_ratio A ds μ Q E0) : w_must_be_ratio A (fun C fs _ μ => dwx E0 C fs μ) (rets Q) (st0 1 ds) μ := by
  unfold c_must_be_ratio at h
  split at h
  · rename_i l
    obtain ⟨ns, rfl, h⟩ := h
    unfold w_must_be_ratio
    walk_at "w"
    refine ⟨ns, rfl, ?_⟩
    cases e : formB ns
    · rw [e] at h; exact dwx.of h
    · rw [e] at h; exact dwn.of h
  · exact h.elim
theorem len_must_be_ratio (A : Ad) : ∀ ds μ Q E, c_must_be_ratio A ds μ Q E → ds.length = 1 := by
  intro ds μ Q E h
  unfold c_must_be_ratio at h
  first | (split at h) | (split at h)
  all_goals first | rfl | exact h.elim
theorem ok_must_be_ratio {P : Program} {w : World} {K : PySem.W.Frag} {mg : Str → Option Value} {base : Heap} {A : Ad} (D : Dfn K mg "must_be_ratio" "must_be_ratio" s_must_be_ratio ["pair"]) (T : Tx P base K mg A) (G_has_form : DfOk P w K mg base "has_form" 2 ["pair"] (c_has_form A)) : DfOk P w K mg base "must_be_ratio" 4 ["pair"] (c_must_be_ratio A) := by
  obtain ⟨f, fd, F, hm, hb⟩ := D
  refine ⟨f, fd, okD F sc_must_be_ratio (by decide) (len_must_be_ratio A) ?_, hm, F.kp, hb⟩
  intro X W E cdv B outer s H Ex hX tk hp hr
  subst hX
  exact ⟨_, w_must_be_ratio A E, (sone (sif (tnot (tval (ecall2 tk G_has_form (hr.mono (by decide)) (acons (ev 0) anil)))) (sone (sraise0 tk (pmk_own0 T.x_BadNumber))) snil)), fun ds μ Q E0 hc hE => by subst hE; exact pure_must_be_ratio A ds μ Q E0 hc⟩
end K01
set_option maxHeartbeats 800000
namespace K01
open PySem L2 DL
local macro_rules | `(tactic| walk_at "w") => `(tactic| simp only [wSeq, wNext, wIf, wRet, wRetN, wDrop, wAsg, gN, wVar, wC, wOp, wUn, wNil, wCons, wCB, wTup, wLst, wLstF, wTe, tB0, wAnd, wOr, wNot, wAndV, wOrV, wNotV, wIfE, wCall, wCallG, wRaise, wFrz, fFrz, rets, fI, fI0, fAdd, fSub, fMul, fLt, fLe, fGt, fGe, fMod, fModN, fPow, fDiv, fDivG, fNeg, fEq, fNe, eqF_int, eqF_bl, eqF_str, scal_int, scal_bl, scal_str, fLen, sv, fIx, fAbs, fInt, fList, wSl, fSlL, oNo, oSo, lvr, lv, fCat, wMeL, fApp, fPop, fSetL, gSb, iLs, iTp, iR1, iR2, wFor, gTp, gCn, gNl, wPar, wBrk, wCnt, fIsi, wIsx, wLc, wYes, wip, wTr, truD, wTry, clrD, wFld, fieldsD, wSetF, wMeth, wMake, fStrI, fFmt, wJoin, wJs, wChain, fAddS, fIsN, fNotN, um_same, um_um, st0, List.map_cons, List.map_nil, List.length_cons, List.length_nil, List.getElem?_cons_zero, List.getElem?_cons_succ, List.set_cons_zero, List.set_cons_succ, List.cons_append, List.nil_append, List.replicate, atI_c0, atI_c1, atI_c2, atI_c3, atI_c4, atI_c5, atI_c6, ixN_70, ixN_71, ixN_72, ixN_73, ixN_74, ixN_75, ixN_76, Nat.reduceAdd, ite_T, ite_F, if_dec, if_ndec, if_nb, true_and, if_true, Bool.false_eq_true, if_false])
def c_lowest (A : Ad) : Ct := fun ds μ Q _ => match ds with
  | [.int a, .int b] => b ≠ 0 ∧ ∀ n m : Int, 1 ≤ m → Int.gcd n m = 1 → n * b = a * m → n.natAbs ≤ a.natAbs → m.natAbs ≤ b.natAbs → Q (.tup [.int n, .int m]) μ
  | _ => False
abbrev s_lowest : Stmt := top 33
theorem sc_lowest : FnScope ["top", "bottom", "part"] ["top", "bottom"] (defScope s_lowest) := ⟨rfl, rfl, rfl, by decide +kernel, rfl, by decide +kernel, by decide +kernel⟩
def w_lowest (A : Ad) (E : EX) : WS := (wSeq (wAsg (wCall (c_common_part A) E (wCons (wVar 0) (wCons (wVar 1) wNil))) (gN 2))
  (wSeq (wIf (wTe (wOp fLt (wVar 1) (wC (.int (0))))) (wAsg (wUn fNeg (wVar 2)) (gN 2)) wNext)
  (wRet (wTup (wCons (wOp fDivG (wVar 0) (wVar 2)) (wCons (wOp fDivG (wVar 1) (wVar 2)) wNil))))))
/-- both parted by their greatest common part, the lower one above zero -/
theorem lowest_law {a b : Int} (hb : b ≠ 0) {p : Int} (hp : p = (Int.gcd a b : Nat) ∧ 0 < b ∨ p = -(Int.gcd a b : Nat) ∧ b < 0) : p ≠ 0 ∧ 1 ≤ b.fdiv p ∧ Int.gcd (a.fdiv p) (b.fdiv p) = 1 ∧ a.fdiv p * b = a * b.fdiv p ∧ (a.fdiv p).natAbs ≤ a.natAbs ∧ (b.fdiv p).natAbs ≤ b.natAbs := by
  have g0 : 0 < Int.gcd a b := Int.gcd_pos_of_ne_zero_right a hb
  obtain ⟨a', ha⟩ := Int.gcd_dvd_left a b
  obtain ⟨b', hb'⟩ := Int.gcd_dvd_right a b
  have hgcd : Int.gcd a' b' = 1 := by
    have e := Int.gcd_mul_left (Int.gcd a b : Nat) a' b'
    rw [← ha, ← hb', Int.natAbs_natCast] at e
    have e2 : Int.gcd a b * Int.gcd a' b' = Int.gcd a b * 1 := by omega
    exact Nat.eq_of_mul_eq_mul_left g0 e2
  generalize hg : Int.gcd a b = g at *
  have gi : (0 : Int) < (g : Nat) := by omega
  have main : ∀ q x y : Int, q ≠ 0 → a = q * x → b = q * y → Int.gcd x y = 1 → 0 < y → p = q → p ≠ 0 ∧ 1 ≤ b.fdiv p ∧ Int.gcd (a.fdiv p) (b.fdiv p) = 1 ∧ a.fdiv p * b = a * b.fdiv p ∧ (a.fdiv p).natAbs ≤ a.natAbs ∧ (b.fdiv p).natAbs ≤ b.natAbs := by
    intro q x y hq hx hy hg hy0 e
    subst e
    have e1 : a.fdiv p = x := by rw [hx]; exact Int.mul_fdiv_cancel_left x hq
    have e2 : b.fdiv p = y := by rw [hy]; exact Int.mul_fdiv_cancel_left y hq
    have p1 : 1 ≤ p.natAbs := by omega
    rw [e1, e2]
    refine ⟨hq, by omega, hg, ?_, ?_, ?_⟩
    · rw [hx, hy]; ac_rfl
    · rw [hx, Int.natAbs_mul]; exact Nat.le_mul_of_pos_left _ p1
    · rw [hy, Int.natAbs_mul]; exact Nat.le_mul_of_pos_left _ p1
  rcases hp with ⟨rfl, h0⟩ | ⟨rfl, h0⟩
  · refine main _ a' b' (by omega) ha hb' hgcd ?_ rfl
    rw [hb'] at h0
    exact Int.pos_of_mul_pos_right h0 gi
  · refine main _ (-a') (-b') (by omega) (by rw [Int.neg_mul_neg]; exact ha) (by rw [Int.neg_mul_neg]; exact hb') (by rw [Int.neg_gcd, Int.gcd_neg]; exact hgcd) ?_ rfl
    have : b' < 0 := by
      rw [hb'] at h0
      by_cases z : 0 ≤ b'
      · have := Int.mul_nonneg (Int.le_of_lt gi) z; omega
      · omega
    omega
theorem pure_lowest (A : Ad) (ds μ Q E0) (h : c_lowest A ds μ Q E0) : w_lowest A (fun C fs _ μ => dwx E0 C fs μ) (rets Q) (st0 3 ds) μ := by
  unfold c_lowest at h
  split at h
  · rename_i a b
    obtain ⟨hb, h⟩ := h
    unfold w_lowest
    walk_at "w"
    refine ite2 (fun c => ?_) (fun c => ?_)
    · obtain ⟨p0, h1, h2, h3, h4, h5⟩ := lowest_law (a := a) hb (.inr ⟨rfl, c⟩)
      exact ⟨p0, p0, by decide, dwn.of (h _ _ h1 h2 h3 h4 h5)⟩
    · obtain ⟨p0, h1, h2, h3, h4, h5⟩ := lowest_law (a := a) hb (.inl ⟨rfl, by omega⟩)
      exact ⟨p0, p0, by decide, dwn.of (h _ _ h1 h2 h3 h4 h5)⟩
  · exact h.elim
theorem len_lowest (A : Ad) : ∀ ds μ Q E, c_lowest A ds μ Q E → ds.length = 2 := by
  intro ds μ Q E h
  unfold c_lowest at h
  first | (split at h) | (split at h)
  all_goals first | rfl | exact h.elim
theorem ok_lowest {P : Program} {w : World} {K : PySem.W.Frag} {mg : Str → Option Value} {base : Heap} {A : Ad} (D : Dfn K mg "lowest" "lowest" s_lowest ["top", "bottom"]) (T : Tx P base K mg A) (G_common_part : DfOk P w K mg base "common_part" 1 ["top", "bottom"] (c_common_part A)) : DfOk P w K mg base "lowest" 37 ["top", "bottom"] (c_lowest A) := by
  obtain ⟨f, fd, F, hm, hb⟩ := D
  refine ⟨f, fd, okD F sc_lowest (by decide) (len_lowest A) ?_, hm, F.kp, hb⟩
  intro X W E cdv B outer s H Ex hX tk hp hr
  subst hX
  exact ⟨_, w_lowest A E, (scons (sset (i := 2) (ecall2 tk G_common_part (hr.mono (by decide)) (acons (ev 0) (acons (ev 1) anil))) sc_lowest.nd)
  (scons (sif (tc' op_lt do_lt (ev 1) ei) (sone (sset (i := 2) (eneg (ev 2)) sc_lowest.nd)) snil)
  (sone (sret (etup (acons (edivG (pyroom T.seer T.tree rfl rfl rfl (hr.mono (by decide))) (ev 0) (ev 2)) (acons (edivG (pyroom T.seer T.tree rfl rfl rfl (hr.mono (by decide))) (ev 1) (ev 2)) anil))))))), fun ds μ Q E0 hc hE => by subst hE; exact pure_lowest A ds μ Q E0 hc⟩
end K01
set_option maxHeartbeats 800000
namespace K01
open PySem L2 DL
local macro_rules | `(tactic| walk_at "w") => `(tactic| simp only [wSeq, wNext, wIf, wRet, wRetN, wDrop, wAsg, gN, wVar, wC, wOp, wUn, wNil, wCons, wCB, wTup, wLst, wLstF, wTe, tB0, wAnd, wOr, wNot, wAndV, wOrV, wNotV, wIfE, wCall, wCallG, wRaise, wFrz, fFrz, rets, fI, fI0, fAdd, fSub, fMul, fLt, fLe, fGt, fGe, fMod, fModN, fPow, fDiv, fDivG, fNeg, fEq, fNe, eqF_int, eqF_bl, eqF_str, scal_int, scal_bl, scal_str, fLen, sv, fIx, fAbs, fInt, fList, wSl, fSlL, oNo, oSo, lvr, lv, fCat, wMeL, fApp, fPop, fSetL, gSb, iLs, iTp, iR1, iR2, wFor, gTp, gCn, gNl, wPar, wBrk, wCnt, fIsi, wIsx, wLc, wYes, wip, wTr, truD, wTry, clrD, wFld, fieldsD, wSetF, wMeth, wMake, fStrI, fFmt, wJoin, wJs, wChain, fAddS, fIsN, fNotN, um_same, um_um, st0, List.map_cons, List.map_nil, List.length_cons, List.length_nil, List.getElem?_cons_zero, List.getElem?_cons_succ, List.set_cons_zero, List.set_cons_succ, List.cons_append, List.nil_append, List.replicate, atI_c0, atI_c1, atI_c2, atI_c3, atI_c4, atI_c5, atI_c6, ixN_70, ixN_71, ixN_72, ixN_73, ixN_74, ixN_75, ixN_76, Nat.reduceAdd, ite_T, ite_F, if_dec, if_ndec, if_nb, true_and, if_true, Bool.false_eq_true, if_false])
/-- the form of binary questions: of two tuples of ints; E for what is no ratio -/
def cBin (A : Ad) (f : Int → Int → Int → Int → Mu → (D → Mu → Prop) → (Addr → List (Str × D) → Mu → Prop) → Prop) : Ct := fun ds μ Q E => match ds with
  | [.tup l, .tup m] => ∃ ns ms : List Int, l = ns.map D.int ∧ m = ms.map D.int ∧ if formB ns = true ∧ formB ms = true then ∀ a b c d, ns = [a, b] → ms = [c, d] → 1 ≤ b → 1 ≤ d → f a b c d μ Q E else E A.BadNumber [] μ
  | _ => False
def BB (x : Int) : Prop := Bd 100000 x
/-- the ratio up / down told -/
def isR (up down : Int) (n m : Int) : Prop := 1 ≤ m ∧ Int.gcd n m = 1 ∧ n * down = up * m ∧ n.natAbs ≤ up.natAbs ∧ m.natAbs ≤ down.natAbs
def c_times (A : Ad) : Ct := cBin A fun a b c d μ Q _ => (BB a ∧ BB b ∧ BB c ∧ BB d) ∧ ∀ n m, isR (a * c) (b * d) n m → Q (.tup [.int n, .int m]) μ
theorem formB_cases {ns : List Int} (h : formB ns = true) : ∃ a b, ns = [a, b] ∧ 1 ≤ b ∧ Int.gcd a b = 1 := by
  match ns, h with
  | [], h => cases h
  | [a], h => cases h
  | a :: b :: c :: r, h => cases h
  | [a, b], h =>
    have h : (decide (1 ≤ b) && decide (Int.gcd a b = 1)) = true := h
    rw [Bool.and_eq_true] at h
    exact ⟨a, b, rfl, of_decide_eq_true h.1, of_decide_eq_true h.2⟩
theorem mok {a b : Int} (h : BB a) (h' : BB b) : MulOk a b := mulOk h h' (by decide)
theorem pos_mul {a b : Int} (h : 1 ≤ a) (h' : 1 ≤ b) : a * b ≠ 0 := Int.mul_ne_zero (by omega) (by omega)
/-- how each begins -/
theorem bin_start {A : Ad} {f} {ds : List D} {μ : Mu} {Q E0} {P : List D → Prop} (h : cBin A f ds μ Q E0)
    (hb : ∀ ns ms : List Int, ¬ (formB ns = true ∧ formB ms = true) → E0 A.BadNumber [] μ → P [.tup (ns.map D.int), .tup (ms.map D.int)])
    (hg : ∀ a b c d, formB [a, b] = true → formB [c, d] = true → 1 ≤ b → 1 ≤ d → f a b c d μ Q E0 → P [.tup [.int a, .int b], .tup [.int c, .int d]]) : P ds := by
  unfold cBin at h
  split at h
  · obtain ⟨ns, ms, rfl, rfl, h⟩ := h
    by_cases c : formB ns = true ∧ formB ms = true
    · rw [if_pos c] at h
      obtain ⟨a, b, rfl, hb1, _⟩ := formB_cases c.1
      obtain ⟨c', d, rfl, hd1, _⟩ := formB_cases c.2
      exact hg a b c' d c.1 c.2 hb1 hd1 (h a b c' d rfl rfl hb1 hd1)
    · rw [if_neg c] at h
      exact hb ns ms c h
  · exact h.elim
abbrev s_times : Stmt := top 34
theorem sc_times : FnScope ["a", "b"] ["a", "b"] (defScope s_times) := ⟨rfl, rfl, rfl, by decide +kernel, rfl, by decide +kernel, by decide +kernel⟩
def w_times (A : Ad) (E : EX) : WS := (wSeq (wDrop (wCall (c_must_be_ratio A) E (wCons (wVar 0) wNil)))
  (wSeq (wDrop (wCall (c_must_be_ratio A) E (wCons (wVar 1) wNil)))
  (wRet (wCall (c_lowest A) E (wCons (wOp fMul (wOp fIx (wVar 0) (wC (.int (0)))) (wOp fIx (wVar 1) (wC (.int (0))))) (wCons (wOp fMul (wOp fIx (wVar 0) (wC (.int (1)))) (wOp fIx (wVar 1) (wC (.int (1))))) wNil))))))
theorem two_bad {A : Ad} {ns ms : List Int} {μ : Mu} {E0} {N : D → Mu → Prop} (c : ¬ (formB ns = true ∧ formB ms = true)) (h : E0 A.BadNumber [] μ) :
    c_must_be_ratio A [.tup (ns.map D.int)] μ (fun _ μ1 => c_must_be_ratio A [.tup (ms.map D.int)] μ1 N fun C fs μ2 => dwx E0 C fs μ2) fun C fs μ2 => dwx E0 C fs μ2 := by
  refine ⟨ns, rfl, ?_⟩
  cases e : formB ns with
  | false => exact dwx.of h
  | true =>
    refine ⟨ms, rfl, ?_⟩
    cases e2 : formB ms with
    | false => exact dwx.of h
    | true => exact absurd ⟨e, e2⟩ c
theorem two_good {A : Ad} {a b c d : Int} {μ : Mu} {E1 E2} {N : D → Mu → Prop} (h1 : formB [a, b] = true) (h2 : formB [c, d] = true) (h : N .non μ) :
    c_must_be_ratio A [.tup [.int a, .int b]] μ (fun _ μ1 => c_must_be_ratio A [.tup [.int c, .int d]] μ1 N E1) E2 := by
  refine ⟨[a, b], rfl, ?_⟩
  rw [if_pos h1]
  refine ⟨[c, d], rfl, ?_⟩
  rw [if_pos h2]
  exact h
theorem bin_end {A : Ad} {up down : Int} {μ : Mu} {Q E} (hd : down ≠ 0) (h : ∀ n m, isR up down n m → Q (.tup [.int n, .int m]) μ) : c_lowest A [.int up, .int down] μ (fun d μ1 => dwn Q d μ1) E :=
  ⟨hd, fun n m h1 h2 h3 h4 h5 => dwn.of (h n m ⟨h1, h2, h3, h4, h5⟩)⟩
theorem pure_times (A : Ad) (ds μ Q E0) (h : c_times A ds μ Q E0) : w_times A (fun C fs _ μ => dwx E0 C fs μ) (rets Q) (st0 2 ds) μ := by
  refine bin_start (P := fun ds => w_times A (fun C fs _ μ => dwx E0 C fs μ) (rets Q) (st0 2 ds) μ) h (fun ns ms c h => ?_) (fun a b c d f1 f2 h1 h2 h => ?_)
  · unfold w_times; walk_at "w"; exact two_bad c h
  · unfold w_times; walk_at "w"
    obtain ⟨⟨ha, hb, hc, hd⟩, h⟩ := h
    exact two_good f1 f2 ⟨mok ha hc, mok hb hd, bin_end (pos_mul h1 h2) h⟩
theorem len_times (A : Ad) : ∀ ds μ Q E, c_times A ds μ Q E → ds.length = 2 := by
  intro ds μ Q E h
  unfold c_times at h
  first | (split at h) | (unfold cBin at h; split at h)
  all_goals first | rfl | exact h.elim
theorem ok_times {P : Program} {w : World} {K : PySem.W.Frag} {mg : Str → Option Value} {base : Heap} {A : Ad} (D : Dfn K mg "times" "times" s_times ["a", "b"]) (T : Tx P base K mg A) (G_lowest : DfOk P w K mg base "lowest" 37 ["top", "bottom"] (c_lowest A)) (G_must_be_ratio : DfOk P w K mg base "must_be_ratio" 4 ["pair"] (c_must_be_ratio A)) : DfOk P w K mg base "times" 38 ["a", "b"] (c_times A) := by
  obtain ⟨f, fd, F, hm, hb⟩ := D
  refine ⟨f, fd, okD F sc_times (by decide) (len_times A) ?_, hm, F.kp, hb⟩
  intro X W E cdv B outer s H Ex hX tk hp hr
  subst hX
  exact ⟨_, w_times A E, (scons (sexpr (ecall2 tk G_must_be_ratio (hr.mono (by decide)) (acons (ev 0) anil)))
  (scons (sexpr (ecall2 tk G_must_be_ratio (hr.mono (by decide)) (acons (ev 1) anil)))
  (sone (sret (ecall2 tk G_lowest (hr.mono (by decide)) (acons (emul (eix (ev 0) ei) (eix (ev 1) ei)) (acons (emul (eix (ev 0) ei) (eix (ev 1) ei)) anil))))))), fun ds μ Q E0 hc hE => by subst hE; exact pure_times A ds μ Q E0 hc⟩
end K01
set_option maxHeartbeats 800000
namespace K01
open PySem L2 DL
local macro_rules | `(tactic| walk_at "w") => `(tactic| simp only [wSeq, wNext, wIf, wRet, wRetN, wDrop, wAsg, gN, wVar, wC, wOp, wUn, wNil, wCons, wCB, wTup, wLst, wLstF, wTe, tB0, wAnd, wOr, wNot, wAndV, wOrV, wNotV, wIfE, wCall, wCallG, wRaise, wFrz, fFrz, rets, fI, fI0, fAdd, fSub, fMul, fLt, fLe, fGt, fGe, fMod, fModN, fPow, fDiv, fDivG, fNeg, fEq, fNe, eqF_int, eqF_bl, eqF_str, scal_int, scal_bl, scal_str, fLen, sv, fIx, fAbs, fInt, fList, wSl, fSlL, oNo, oSo, lvr, lv, fCat, wMeL, fApp, fPop, fSetL, gSb, iLs, iTp, iR1, iR2, wFor, gTp, gCn, gNl, wPar, wBrk, wCnt, fIsi, wIsx, wLc, wYes, wip, wTr, truD, wTry, clrD, wFld, fieldsD, wSetF, wMeth, wMake, fStrI, fFmt, wJoin, wJs, wChain, fAddS, fIsN, fNotN, um_same, um_um, st0, List.map_cons, List.map_nil, List.length_cons, List.length_nil, List.getElem?_cons_zero, List.getElem?_cons_succ, List.set_cons_zero, List.set_cons_succ, List.cons_append, List.nil_append, List.replicate, atI_c0, atI_c1, atI_c2, atI_c3, atI_c4, atI_c5, atI_c6, ixN_70, ixN_71, ixN_72, ixN_73, ixN_74, ixN_75, ixN_76, Nat.reduceAdd, ite_T, ite_F, if_dec, if_ndec, if_nb, true_and, if_true, Bool.false_eq_true, if_false])
/-! ### the law's draws -/
def c_law_mix (A : Ad) : Ct := fun ds μ Q _ => match ds with
  | [.int _] => ∀ r : Int, 0 ≤ r → r < 2 ^ 64 → Q (.int r) μ
  | _ => False
abbrev s_law_mix : Stmt := top 43
theorem sc_law_mix : FnScope ["number", "prime", "mixed"] ["number"] (defScope s_law_mix) := ⟨rfl, rfl, rfl, by decide +kernel, rfl, by decide +kernel, by decide +kernel⟩
def w_law_mix_5 (A : Ad) (E : EX) : WS := (wRet (wOp fMod (wCB fInt (wCons (wOp fAdd (wOp fMul (wVar 2) (wC (.int (48271)))) (wOp fDiv (wVar 2) (wC (.int (4294967296))))) wNil)) (wVar 1)))
def w_law_mix_4 (A : Ad) (E : EX) : WS := (wSeq (wAsg (wOp fMod (wCB fInt (wCons (wOp fMul (wOp fMod (wCB fInt (wCons (wOp fMul (wVar 2) (wVar 2)) wNil)) (wVar 1)) (wVar 2)) wNil)) (wVar 1)) (gN 2))
  (w_law_mix_5 A E))
def w_law_mix_3 (A : Ad) (E : EX) : WS := (wSeq (wAsg (wOp fMod (wCB fInt (wCons (wOp fAdd (wOp fAdd (wVar 2) (wOp fMul (wOp fDiv (wVar 2) (wC (.int (2147483648)))) (wC (.int (40503))))) (wC (.int (3037000493)))) wNil)) (wVar 1)) (gN 2))
  (w_law_mix_4 A E))
def w_law_mix_2 (A : Ad) (E : EX) : WS := (wSeq (wAsg (wOp fMod (wCB fInt (wCons (wOp fMul (wOp fMod (wCB fInt (wCons (wOp fMul (wVar 2) (wVar 2)) wNil)) (wVar 1)) (wVar 2)) wNil)) (wVar 1)) (gN 2))
  (w_law_mix_3 A E))
def w_law_mix (A : Ad) (E : EX) : WS := (wSeq (wAsg (wC (.int (18446744073709551557))) (gN 1))
  (wSeq (wAsg (wOp fMod (wCB fInt (wCons (wOp fAdd (wVar 0) (wC (.int (1442695040888963407)))) wNil)) (wVar 1)) (gN 2))
  (w_law_mix_2 A E)))
theorem mlS {x y : Int} (h0 : 0 ≤ x) (h1 : x < 18446744073709551557) : MulOk x y := mulL ⟨by omega, by omega⟩
theorem mod_lt' (x : Int) : 0 ≤ x % 18446744073709551557 ∧ x % 18446744073709551557 < 18446744073709551557 := ⟨Int.emod_nonneg _ (by decide), Int.emod_lt_of_pos _ (by decide)⟩
theorem divW {x y : Int} (h : 0 < y) (h' : y.natAbs.log2 < 9000) : CDivW x y := ⟨h, h'⟩
theorem pure_law_mix (A : Ad) (ds μ Q E0) (h : c_law_mix A ds μ Q E0) : w_law_mix A (fun C fs _ μ => dwx E0 C fs μ) (rets Q) (st0 3 ds) μ := by
  unfold c_law_mix at h
  split at h
  · rename_i n
    have s5 : ∀ m : Int, 0 ≤ m → m < 18446744073709551557 → w_law_mix_5 A (fun C fs _ μ => dwx E0 C fs μ) (rets Q) [some (.int n), some (.int 18446744073709551557), some (.int m)] μ := by
      intro m h0 h1
      unfold w_law_mix_5; walk_at "w"
      refine ⟨mlS h0 h1, divW (by decide) (by decide +kernel), by decide, dwn.of (h _ (mod_lt' _).1 (by have := (mod_lt' (m * 48271 + m / 4294967296)).2; omega))⟩
    have s4 : ∀ m : Int, 0 ≤ m → m < 18446744073709551557 → w_law_mix_4 A (fun C fs _ μ => dwx E0 C fs μ) (rets Q) [some (.int n), some (.int 18446744073709551557), some (.int m)] μ := by
      intro m h0 h1
      unfold w_law_mix_4; walk_at "w"
      exact ⟨mlS h0 h1, by decide, mlS (mod_lt' _).1 (mod_lt' _).2, by decide, s5 _ (mod_lt' _).1 (mod_lt' _).2⟩
    have s3 : ∀ m : Int, 0 ≤ m → m < 18446744073709551557 → w_law_mix_3 A (fun C fs _ μ => dwx E0 C fs μ) (rets Q) [some (.int n), some (.int 18446744073709551557), some (.int m)] μ := by
      intro m h0 h1
      unfold w_law_mix_3; walk_at "w"
      exact ⟨divW (by decide) (by decide +kernel), mulR (by decide), by decide, s4 _ (mod_lt' _).1 (mod_lt' _).2⟩
    have s2 : ∀ m : Int, 0 ≤ m → m < 18446744073709551557 → w_law_mix_2 A (fun C fs _ μ => dwx E0 C fs μ) (rets Q) [some (.int n), some (.int 18446744073709551557), some (.int m)] μ := by
      intro m h0 h1
      unfold w_law_mix_2; walk_at "w"
      exact ⟨mlS h0 h1, by decide, mlS (mod_lt' _).1 (mod_lt' _).2, by decide, s3 _ (mod_lt' _).1 (mod_lt' _).2⟩
    unfold w_law_mix
    walk_at "w"
    exact ⟨by decide, s2 _ (mod_lt' _).1 (mod_lt' _).2⟩
  · exact h.elim
theorem len_law_mix (A : Ad) : ∀ ds μ Q E, c_law_mix A ds μ Q E → ds.length = 1 := by
  intro ds μ Q E h
  unfold c_law_mix at h
  first | (split at h) | (split at h)
  all_goals first | rfl | exact h.elim
theorem ok_law_mix {P : Program} {w : World} {K : PySem.W.Frag} {mg : Str → Option Value} {base : Heap} {A : Ad} (D : Dfn K mg "_law_mix" "_law_mix" s_law_mix ["number"]) (T : Tx P base K mg A)  : DfOk P w K mg base "_law_mix" 1 ["number"] (c_law_mix A) := by
  obtain ⟨f, fd, F, hm, hb⟩ := D
  refine ⟨f, fd, okD F sc_law_mix (by decide) (len_law_mix A) ?_, hm, F.kp, hb⟩
  intro X W E cdv B outer s H Ex hX tk hp hr
  subst hX
  exact ⟨_, w_law_mix A E, (scons (sset (i := 1) ei sc_law_mix.nd)
  (scons (sset (i := 2) (emod (ecty call_int1 dc_int T.b_int (acons (eadd (ev 0) ei) anil)) (ev 1)) sc_law_mix.nd)
  (scons (sset (i := 2) (emod (ecty call_int1 dc_int T.b_int (acons (emul (emod (ecty call_int1 dc_int T.b_int (acons (emul (ev 2) (ev 2)) anil)) (ev 1)) (ev 2)) anil)) (ev 1)) sc_law_mix.nd)
  (scons (sset (i := 2) (emod (ecty call_int1 dc_int T.b_int (acons (eadd (eadd (ev 2) (emul (ediv (ev 2) ei) ei)) ei) anil)) (ev 1)) sc_law_mix.nd)
  (scons (sset (i := 2) (emod (ecty call_int1 dc_int T.b_int (acons (emul (emod (ecty call_int1 dc_int T.b_int (acons (emul (ev 2) (ev 2)) anil)) (ev 1)) (ev 2)) anil)) (ev 1)) sc_law_mix.nd)
  (sone (sret (emod (ecty call_int1 dc_int T.b_int (acons (eadd (emul (ev 2) ei) (ediv (ev 2) ei)) anil)) (ev 1))))))))), fun ds μ Q E0 hc hE => by subst hE; exact pure_law_mix A ds μ Q E0 hc⟩
/-! the store: cells, place, rest, owed, seed, turn, number -/
structure StOk (st : List D) : Prop where
  ex : ∃ (cs : List Int) (i1 i2 i3 i4 i5 i6 : Int), st = [.lst (cs.map D.int), .int i1, .int i2, .int i3, .int i4, .int i5, .int i6] ∧ (∀ c ∈ cs, Bd 800 c) ∧ 0 ≤ i1 ∧ 0 ≤ i2 ∧ Bd 800 i2 ∧ 0 ≤ i3
def c_law_store (A : Ad) : Ct := fun ds μ Q _ => match ds with
  | [.lsr l] => ∃ ns : List Int, l = ns.map D.int ∧ ns.length ≤ 63 ∧ ∀ p st, StOk st → μ p = none → Q (.mut p) (um μ p (.lst st))
  | _ => False
abbrev s_law_store : Stmt := top 44
theorem sc_law_store : FnScope ["script", "top", "cells", "seed", "number", "cell"] ["script"] (defScope s_law_store) := ⟨rfl, rfl, rfl, by decide +kernel, rfl, by decide +kernel, by decide +kernel⟩
def w_law_store_5 (A : Ad) (E : EX) : WS := (wRet (wLst (wCons (wFrz (wVar 2)) (wCons (wC (.int (0))) (wCons (wC (.int (0))) (wCons (wC (.int (0))) (wCons (wVar 3) (wCons (wC (.int (0))) (wCons (wC (.int (0))) wNil)))))))))
def w_law_store_b1 (A : Ad) (E : EX) : WS := (wSeq (wAsg (wOp fMod (wCB fInt (wCons (wCB fAbs (wCons (wVar 4) wNil)) wNil)) (wVar 1)) (gN 5))
  (wSeq (wIf (wTe (wOp fLt (wVar 4) (wC (.int (0))))) (wAsg (wOp fSub (wC (.int (0))) (wVar 5)) (gN 5)) wNext)
  (wSeq (wDrop (wMeL fApp (wVar 2) (wCons (wVar 5) wNil)))
  (wAsg (wCall (c_law_mix A) E (wCons (wOp fAdd (wVar 3) (wVar 5)) wNil)) (gN 3)))))
def w_law_store_4 (A : Ad) (E : EX) : WS := (wSeq (wFor (iLs (wSl fSlL (wVar 0) oNo (oSo (wC (.int (63)))))) (gN 4) (w_law_store_b1 A E))
  (w_law_store_5 A E))
def w_law_store (A : Ad) (E : EX) : WS := (wSeq (wAsg (wOp fPow (wC (.int (10))) (wC (.int (60)))) (gN 1))
  (wSeq (wAsg (wOp fMul (wOp fMul (wOp fMul (wVar 1) (wVar 1)) (wVar 1)) (wVar 1)) (gN 1))
  (wSeq (wAsg (wLst wNil) (gN 2))
  (wSeq (wAsg (wCall (c_law_mix A) E (wCons (wCB fLen (wCons (wSl fSlL (wVar 0) oNo (oSo (wC (.int (63))))) wNil)) wNil)) (gN 3))
  (w_law_store_4 A E)))))
theorem cut63 {ns : List Int} (h : ns.length ≤ 63) : cutD (ns.map D.int) none (some 63) = ns.map D.int := by
  have e0 : HT.sIx ns.length 0 none = 0 := rfl
  have e1 : HT.sIx ns.length ns.length (some 63) = ns.length := by
    rw [show (some (63 : Int)) = some ((63 : Nat) : Int) from rfl, HT.sIx_nat]
    omega
  unfold cutD
  rw [List.length_map, e0, e1, List.drop_zero, Nat.sub_zero, List.take_of_length_le (by rw [List.length_map]; exact Nat.le_refl _)]
theorem bd60 : Bd 200 (10 ^ Int.toNat 60) := by unfold Bd; decide +kernel
theorem pure_law_store (A : Ad) (ds μ Q E0) (h : c_law_store A ds μ Q E0) : w_law_store A (fun C fs _ μ => dwx E0 C fs μ) (rets Q) (st0 6 ds) μ := by
  unfold c_law_store at h
  split at h
  · rename_i l
    obtain ⟨ns, rfl, hl, h⟩ := h
    unfold w_law_store
    walk_at "w"
    rw [cut63 hl]
    have hT : (0 : Int) < 10 ^ Int.toNat 60 * 10 ^ Int.toNat 60 * 10 ^ Int.toNat 60 * 10 ^ Int.toNat 60 ∧ (10 ^ Int.toNat 60 * 10 ^ Int.toNat 60 * 10 ^ Int.toNat 60 * 10 ^ Int.toNat 60 : Int) < 2 ^ 799 := by decide +kernel
    refine ⟨⟨by decide, by decide, by decide⟩, mulOk bd60 bd60 (by decide), mulOk (bd60.mul bd60) bd60 (by decide), mulOk ((bd60.mul bd60).mul bd60) bd60 (by decide), by decide, fun p hp => ?_⟩
    generalize (10 ^ Int.toNat 60 * 10 ^ Int.toNat 60 * 10 ^ Int.toNat 60 * 10 ^ Int.toNat 60 : Int) = T at hT
    intro r h0 h1
    unfold w_law_store_4
    walk_at "w"
    rw [cut63 hl]
    refine ⟨fun i ρ μ' => ∃ (cs : List Int) (seed : Int) (c4 c5 : Option D), ρ = [some (.lsr (ns.map D.int)), some (.int T), some (.mut p), some (.int seed), c4, c5] ∧ μ' = um μ p (.lst (cs.map D.int)) ∧ cs.length = i ∧ ∀ c ∈ cs, Bd 800 c, ⟨[], r, none, none, rfl, rfl, rfl, fun _ hc => nomatch hc⟩, fun _ _ _ _ => trivial, ?_, ?_⟩
    · rintro i d ρ μ' hd ⟨cs, seed, c4, c5, rfl, rfl, hi, hb⟩
      have hil : i < ns.length := by
        have := (List.getElem?_eq_some_iff.mp hd).1
        simpa [Wk.items] using this
      obtain ⟨n, rfl⟩ : ∃ n, d = D.int n := by
        rw [show (Wk.fix (ns.map D.int)).items = ns.map D.int from rfl, List.getElem?_map] at hd
        cases e : ns[i]? with
        | none => rw [e] at hd; cases hd
        | some n => rw [e] at hd; exact ⟨n, (Option.some.inj hd).symm⟩
      have fin : ∀ c : Int, Bd 800 c → ∃ (p_1 : Addr) (l : List D), D.mut p = D.mut p_1 ∧ um μ p (MO.lst (cs.map D.int)) p_1 = some (MO.lst l) := fun c _ => ⟨p, _, rfl, um_same⟩
      unfold w_law_store_b1
      walk_at "w"
      have hm : ((n.natAbs : Nat) : Int) % T < T ∧ 0 ≤ ((n.natAbs : Nat) : Int) % T := ⟨Int.emod_lt_of_pos _ hT.1, Int.emod_nonneg _ (by omega)⟩
      have hbd : Bd 800 (((n.natAbs : Nat) : Int) % T) := by unfold Bd; omega
      refine ⟨hT.1, ite2 (fun _ => ?_) (fun _ => ?_)⟩
      all_goals
        refine ⟨⟨p, _, rfl, um_same⟩, by rw [List.length_map]; omega, fun r' _ _ => ⟨_, _, leE.refl, le.refl, cs ++ [_], r', _, _, rfl, by rw [List.map_append]; rfl, by rw [List.length_append, hi]; rfl, fun c hc => ?_⟩⟩
        rcases List.mem_append.mp hc with hc | hc
        · exact hb c hc
        · rw [List.mem_singleton.mp hc]
          first | exact hbd | (unfold Bd at *; omega)
    · rintro ρ μ' ⟨cs, seed, c4, c5, rfl, rfl, hi, hb⟩
      unfold w_law_store_5
      walk_at "w"
      refine ⟨by decide, fun p' hp' => ?_⟩
      rw [rm_um hp] at hp' ⊢
      exact dwn.of (h p' _ ⟨cs, 0, 0, 0, seed, 0, 0, rfl, hb, by decide, by decide, by unfold Bd; decide, by decide⟩ hp')
  · exact h.elim
theorem len_law_store (A : Ad) : ∀ ds μ Q E, c_law_store A ds μ Q E → ds.length = 1 := by
  intro ds μ Q E h
  unfold c_law_store at h
  first | (split at h) | (split at h)
  all_goals first | rfl | exact h.elim
theorem ok_law_store {P : Program} {w : World} {K : PySem.W.Frag} {mg : Str → Option Value} {base : Heap} {A : Ad} (D : Dfn K mg "_law_store" "_law_store" s_law_store ["script"]) (T : Tx P base K mg A) (G_law_mix : DfOk P w K mg base "_law_mix" 1 ["number"] (c_law_mix A)) : DfOk P w K mg base "_law_store" 2 ["script"] (c_law_store A) := by
  obtain ⟨f, fd, F, hm, hb⟩ := D
  refine ⟨f, fd, okD F sc_law_store (by decide) (len_law_store A) ?_, hm, F.kp, hb⟩
  intro X W E cdv B outer s H Ex hX tk hp hr
  subst hX
  exact ⟨_, w_law_store A E, (scons (sset (i := 1) (epow ei ei) sc_law_store.nd)
  (scons (sset (i := 1) (emul (emul (emul (ev 1) (ev 1)) (ev 1)) (ev 1)) sc_law_store.nd)
  (scons (sset (i := 2) (elst anil) sc_law_store.nd)
  (scons (sset (i := 3) (ecall2 tk G_law_mix (hr.mono (by decide)) (acons (ecb call_len_seq dc_len T.b_len (acons (eslL (ev 0) onone (osome ei)) anil)) anil)) sc_law_store.nd)
  (scons (sfor hp (il (eslL (ev 0) onone (osome ei))) (gnm 4 sc_law_store.nd) (scons (sset (i := 5) (emod (ecty call_int1 dc_int T.b_int (acons (ecb call_abs dc_abs T.b_abs (acons (ev 4) anil)) anil)) (ev 1)) sc_law_store.nd)
  (scons (sif (tc' op_lt do_lt (ev 4) ei) (sone (sset (i := 5) (esub ei (ev 5)) sc_law_store.nd)) snil)
  (scons (sexpr (eapp (ev 2) (acons (ev 5) anil)))
  (sone (sset (i := 3) (ecall2 tk G_law_mix (hr.mono (by decide)) (acons (eadd (ev 3) (ev 5)) anil)) sc_law_store.nd))))))
  (sone (sret (elst (acons (efrz (ev 2)) (acons ei (acons ei (acons ei (acons (ev 3) (acons ei (acons ei anil))))))))))))))), fun ds μ Q E0 hc hE => by subst hE; exact pure_law_store A ds μ Q E0 hc⟩
end K01
set_option maxHeartbeats 800000
namespace K01
open PySem L2 DL
local macro_rules | `(tactic| walk_at "w") => `(tactic| simp only [wSeq, wNext, wIf, wRet, wRetN, wDrop, wAsg, gN, wVar, wC, wOp, wUn, wNil, wCons, wCB, wTup, wLst, wLstF, wTe, tB0, wAnd, wOr, wNot, wAndV, wOrV, wNotV, wIfE, wCall, wCallG, wRaise, wFrz, fFrz, rets, fI, fI0, fAdd, fSub, fMul, fLt, fLe, fGt, fGe, fMod, fModN, fPow, fDiv, fDivG, fNeg, fEq, fNe, eqF_int, eqF_bl, eqF_str, scal_int, scal_bl, scal_str, fLen, sv, fIx, fAbs, fInt, fList, wSl, fSlL, oNo, oSo, lvr, lv, fCat, wMeL, fApp, fPop, fSetL, gSb, iLs, iTp, iR1, iR2, wFor, gTp, gCn, gNl, wPar, wBrk, wCnt, fIsi, wIsx, wLc, wYes, wip, wTr, truD, wTry, clrD, wFld, fieldsD, wSetF, wMeth, wMake, fStrI, fFmt, wJoin, wJs, wChain, fAddS, fIsN, fNotN, um_same, um_um, st0, List.map_cons, List.map_nil, List.length_cons, List.length_nil, List.getElem?_cons_zero, List.getElem?_cons_succ, List.set_cons_zero, List.set_cons_succ, List.cons_append, List.nil_append, List.replicate, atI_c0, atI_c1, atI_c2, atI_c3, atI_c4, atI_c5, atI_c6, ixN_70, ixN_71, ixN_72, ixN_73, ixN_74, ixN_75, ixN_76, Nat.reduceAdd, ite_T, ite_F, if_dec, if_ndec, if_nb, true_and, if_true, Bool.false_eq_true, if_false])
/-- a draw: of 0 .. many - 1 (0 where many is below 2); the store is another one behind it -/
def c_law_take (A : Ad) : Ct := fun ds μ Q _ => match ds with
  | [.mut p, .int many] => ∃ st, μ p = some (.lst st) ∧ StOk st ∧ Bd 3000 many ∧ ∀ (n : Int) (st' : List D), StOk st' → 0 ≤ n → (2 ≤ many → n < many) → (many < 2 → n = 0) → Q (.int n) (um μ p (.lst st'))
  | _ => False
abbrev s_law_take : Stmt := top 45
theorem sc_law_take : FnScope ["store", "many", "cell", "left", "mixed", "k"] ["store", "many"] (defScope s_law_take) := ⟨rfl, rfl, rfl, by decide +kernel, rfl, by decide +kernel, by decide +kernel⟩
def w_law_take_7 (A : Ad) (E : EX) : WS := (wRet (wOp fMod (wCB fInt (wCons (wVar 4) wNil)) (wVar 1)))
def w_law_take_b1 (A : Ad) (E : EX) : WS := (wAsg (wOp fAdd (wOp fMul (wVar 4) (wC (.int (18446744073709551557)))) (wCall (c_law_mix A) E (wCons (wOp fAdd (wVar 4) (wVar 5)) wNil))) (gN 4))
def w_law_take_6 (A : Ad) (E : EX) : WS := (wSeq (wIf (wTe (wOp fGt (wVar 1) (wOp fPow (wC (.int (10))) (wC (.int (12)))))) (wFor (iR1 (wCons (wC (.int (4))) wNil)) (gN 5) (w_law_take_b1 A E)) wNext)
  (w_law_take_7 A E))
def w_law_take_4 (A : Ad) (E : EX) : WS := (wSeq (wAsg (wOp fAdd (wOp fIx (wVar 0) (wC (.int (5)))) (wC (.int (1)))) (gSb fSetL (wVar 0) (wC (.int (5)))))
  (wSeq (wAsg (wCall (c_law_mix A) E (wCons (wOp fAdd (wOp fAdd (wOp fIx (wVar 0) (wC (.int (4)))) (wOp fMul (wOp fIx (wVar 0) (wC (.int (6)))) (wC (.int (40503))))) (wOp fMul (wOp fIx (wVar 0) (wC (.int (5)))) (wC (.int (69621))))) wNil)) (gN 4))
  (w_law_take_6 A E)))
def w_law_take_3 (A : Ad) (E : EX) : WS := (wSeq (wIf (wTe (wOp fGt (wOp fIx (wVar 0) (wC (.int (2)))) (wC (.int (0))))) (wSeq (wAsg (wCB fInt (wCons (wOp fIx (wVar 0) (wC (.int (2)))) wNil)) (gN 3))
  (wSeq (wAsg (wOp fDiv (wVar 3) (wVar 1)) (gSb fSetL (wVar 0) (wC (.int (2)))))
  (wSeq (wIf (wOr (wTe (wOp fEq (wOp fIx (wVar 0) (wC (.int (2)))) (wC (.int (0))))) (wTe (wOp fEq (wOp fIx (wVar 0) (wC (.int (3)))) (wC (.int (0)))))) (wSeq (wAsg (wC (.int (0))) (gSb fSetL (wVar 0) (wC (.int (2)))))
  (wAsg (wC (.int (0))) (gSb fSetL (wVar 0) (wC (.int (3)))))) wNext)
  (wRet (wOp fMod (wVar 3) (wVar 1)))))) wNext)
  (w_law_take_4 A E))
def w_law_take_2 (A : Ad) (E : EX) : WS := (wSeq (wIf (wTe (wOp fGt (wOp fIx (wVar 0) (wC (.int (3)))) (wC (.int (0))))) (wAsg (wOp fSub (wOp fIx (wVar 0) (wC (.int (3)))) (wC (.int (1)))) (gSb fSetL (wVar 0) (wC (.int (3))))) wNext)
  (w_law_take_3 A E))
def w_law_take (A : Ad) (E : EX) : WS := (wSeq (wIf (wTe (wOp fLt (wVar 1) (wC (.int (2))))) (wRet (wC (.int (0)))) wNext)
  (wSeq (wIf (wAnd (wTe (wOp fEq (wOp fIx (wVar 0) (wC (.int (3)))) (wC (.int (0))))) (wTe (wOp fLt (wOp fIx (wVar 0) (wC (.int (1)))) (wCB fLen (wCons (wOp fIx (wVar 0) (wC (.int (0)))) wNil))))) (wSeq (wAsg (wOp fIx (wOp fIx (wVar 0) (wC (.int (0)))) (wOp fIx (wVar 0) (wC (.int (1))))) (gN 2))
  (wSeq (wAsg (wOp fAdd (wOp fIx (wVar 0) (wC (.int (1)))) (wC (.int (1)))) (gSb fSetL (wVar 0) (wC (.int (1)))))
  (wSeq (wAsg (wVar 2) (gSb fSetL (wVar 0) (wC (.int (6)))))
  (wSeq (wAsg (wC (.int (4))) (gSb fSetL (wVar 0) (wC (.int (3)))))
  (wIf (wTe (wOp fGe (wCB fAbs (wCons (wVar 2) wNil)) (wOp fPow (wC (.int (10))) (wC (.int (18)))))) (wSeq (wAsg (wCB fAbs (wCons (wVar 2) wNil)) (gSb fSetL (wVar 0) (wC (.int (2)))))
  (wAsg (wC (.int (60))) (gSb fSetL (wVar 0) (wC (.int (3)))))) wNext))))) wNext)
  (w_law_take_2 A E)))
theorem bd_log {n : Nat} {x : Int} (h : Bd n x) (h0 : 0 < n) (l : n ≤ 9000) : x.natAbs.log2 < 9000 := Nat.lt_of_lt_of_le (PySem.Flt.log2_lt_of h0 h) l
theorem pure_law_take (A : Ad) (ds μ Q E0) (h : c_law_take A ds μ Q E0) : w_law_take A (fun C fs _ μ => dwx E0 C fs μ) (rets Q) (st0 6 ds) μ := by
  unfold c_law_take at h
  split at h
  · rename_i p many
    obtain ⟨st, hp, hst, hb, h⟩ := h
    -- the draw by mixing
    have r7 : ∀ (st : List D) (c l k : Option D) (m : Int), 2 ≤ many → StOk st → w_law_take_7 A (fun C fs _ μ => dwx E0 C fs μ) (rets Q) [some (.mut p), some (.int many), c, l, some (.int m), k] (um μ p (.lst st)) := by
      intro st c l k m hm hst
      unfold w_law_take_7
      walk_at "w"
      exact ⟨by omega, dwn.of (h _ _ hst (Int.emod_nonneg _ (by omega)) (fun _ => Int.emod_lt_of_pos _ (by omega)) (fun z => by omega))⟩
    have r6 : ∀ (st : List D) (c l k : Option D) (m : Int), 2 ≤ many → StOk st → w_law_take_6 A (fun C fs _ μ => dwx E0 C fs μ) (rets Q) [some (.mut p), some (.int many), c, l, some (.int m), k] (um μ p (.lst st)) := by
      intro st c l k m hm hst
      unfold w_law_take_6
      walk_at "w"
      refine ⟨⟨by decide, by decide, by decide⟩, ite2 (fun _ => ?_) (fun _ => r7 st c l k m hm hst)⟩
      refine ⟨by decide, fun i ρ μ' => ∃ (m : Int) (k : Option D), ρ = [some (.mut p), some (.int many), c, l, some (.int m), k] ∧ μ' = um μ p (.lst st), ⟨m, k, rfl, rfl⟩, fun _ _ _ _ => trivial, ?_, ?_⟩
      · rintro i d ρ μ' hd ⟨m, k, rfl, rfl⟩
        have hi : i < 4 := by
          have := (List.getElem?_eq_some_iff.mp hd).1
          simpa [Wk.items, rng_len] using this
        obtain rfl : d = D.int (0 + (i : Nat)) := by
          have e := rng_get (lo := 0) (n := 4) hi
          exact Option.some.inj (hd.symm.trans e)
        unfold w_law_take_b1
        walk_at "w"
        exact ⟨mulR (by decide), fun r _ _ => wk.of ⟨_, _, rfl, rfl⟩⟩
      · rintro ρ μ' ⟨m, k, rfl, rfl⟩
        exact r7 st c l k m hm hst
    have r4 : ∀ (st : List D) (c l : Option D), 2 ≤ many → StOk st → w_law_take_4 A (fun C fs _ μ => dwx E0 C fs μ) (rets Q) [some (.mut p), some (.int many), c, l, none, none] (um μ p (.lst st)) := by
      rintro st c l hm ⟨cs, i1, i2, i3, i4, i5, i6, rfl, hc, h1, h2, h2b, h3⟩
      unfold w_law_take_4
      walk_at "w"
      refine ⟨mulR (by decide), mulR (by decide), fun r _ _ => r6 _ _ _ _ _ hm ⟨cs, i1, i2, i3, i4, _, i6, rfl, hc, h1, h2, h2b, h3⟩⟩
    have r3 : ∀ (st : List D) (c : Option D), 2 ≤ many → StOk st → w_law_take_3 A (fun C fs _ μ => dwx E0 C fs μ) (rets Q) [some (.mut p), some (.int many), c, none, none, none] (um μ p (.lst st)) := by
      rintro st c hm hst
      obtain ⟨cs, i1, i2, i3, i4, i5, i6, rfl, hc, h1, h2, h2b, h3⟩ := id hst
      unfold w_law_take_3
      walk_at "w"
      refine ite2 (fun hi => ?_) (fun hi => r4 _ _ _ hm hst)
      have hq : 0 ≤ i2 / many := Int.ediv_nonneg h2 (by omega)
      have hqb : Bd 800 (i2 / many) := h2b.le (by
        have : i2 / many ≤ i2 := Int.ediv_le_self _ h2
        omega)
      have fin : ∀ st', StOk st' → dwn Q (.int (i2 % many)) (um μ p (.lst st')) := fun st' hs => dwn.of (h _ _ hs (Int.emod_nonneg _ (by omega)) (fun _ => Int.emod_lt_of_pos _ (by omega)) (fun z => by omega))
      refine ⟨⟨by omega, bd_log hb (by decide) (by decide)⟩, ?_⟩
      refine ite2 (fun _ => ?_) (fun _ => ite2 (fun _ => ?_) (fun _ => ?_))
      · exact ⟨by omega, fin _ ⟨cs, i1, 0, 0, i4, i5, i6, rfl, hc, h1, by decide, by unfold Bd; decide, by decide⟩⟩
      · exact ⟨by omega, fin _ ⟨cs, i1, 0, 0, i4, i5, i6, rfl, hc, h1, by decide, by unfold Bd; decide, by decide⟩⟩
      · exact ⟨by omega, fin _ ⟨cs, i1, _, i3, i4, i5, i6, rfl, hc, h1, hq, hqb, h3⟩⟩
    have r2 : ∀ (st : List D) (c : Option D), 2 ≤ many → StOk st → w_law_take_2 A (fun C fs _ μ => dwx E0 C fs μ) (rets Q) [some (.mut p), some (.int many), c, none, none, none] (um μ p (.lst st)) := by
      rintro st c hm hst
      obtain ⟨cs, i1, i2, i3, i4, i5, i6, rfl, hc, h1, h2, h2b, h3⟩ := id hst
      unfold w_law_take_2
      walk_at "w"
      refine ite2 (fun hi => ?_) (fun hi => r3 _ _ hm hst)
      exact r3 _ _ hm ⟨cs, i1, i2, i3 - 1, i4, i5, i6, rfl, hc, h1, h2, h2b, by omega⟩
    have e0 : μ = um μ p (.lst st) := (um_id hp).symm
    rw [e0]
    obtain ⟨cs, i1, i2, i3, i4, i5, i6, rfl, hc, h1, h2, h2b, h3⟩ := id hst
    unfold w_law_take
    walk_at "w"
    refine ite2 (fun hm => ?_) (fun hm => ?_)
    · exact dwn.of (h 0 _ hst (by decide) (fun z => by omega) (fun _ => rfl))
    · refine ite2 (fun _ => ite2 (fun hl => ?_) (fun _ => r2 _ _ (by omega) hst)) (fun _ => r2 _ _ (by omega) hst)
      rw [List.length_map] at hl
      obtain ⟨d, ed, hd, _⟩ := atI_in (l := cs) h1 hl
      have ed' : atI (cs.map D.int) i1 = some (.int d) := by
        obtain ⟨d', e1, _, e3⟩ := atI_in (l := cs.map D.int) h1 (by rw [List.length_map]; exact hl)
        obtain ⟨_, _, _, e4⟩ := atI_in (l := cs) h1 hl
        rw [e1, ← e3, List.getElem?_map]
        obtain ⟨d2, f1, _, f3⟩ := atI_in (l := cs) h1 hl
        rw [f3, ← f1, ed]; rfl
      rw [ed']
      walk_at "w"
      refine ⟨⟨by decide, by decide, by decide⟩, ite2 (fun _ => ?_) (fun _ => ?_)⟩
      · exact r2 _ _ (by omega) ⟨cs, i1 + 1, _, 60, i4, i5, d, rfl, hc, by omega, by omega, (hc d hd).le (by omega), by decide⟩
      · exact r2 _ _ (by omega) ⟨cs, i1 + 1, i2, 4, i4, i5, d, rfl, hc, by omega, h2, h2b, by decide⟩
  · exact h.elim
theorem len_law_take (A : Ad) : ∀ ds μ Q E, c_law_take A ds μ Q E → ds.length = 2 := by
  intro ds μ Q E h
  unfold c_law_take at h
  first | (split at h) | (split at h)
  all_goals first | rfl | exact h.elim
theorem ok_law_take {P : Program} {w : World} {K : PySem.W.Frag} {mg : Str → Option Value} {base : Heap} {A : Ad} (D : Dfn K mg "_law_take" "_law_take" s_law_take ["store", "many"]) (T : Tx P base K mg A) (G_law_mix : DfOk P w K mg base "_law_mix" 1 ["number"] (c_law_mix A)) : DfOk P w K mg base "_law_take" 2 ["store", "many"] (c_law_take A) := by
  obtain ⟨f, fd, F, hm, hb⟩ := D
  refine ⟨f, fd, okD F sc_law_take (by decide) (len_law_take A) ?_, hm, F.kp, hb⟩
  intro X W E cdv B outer s H Ex hX tk hp hr
  subst hX
  exact ⟨_, w_law_take A E, (scons (sif (tc' op_lt do_lt (ev 1) ei) (sone (sret ei)) snil)
  (scons (sif (tbo (tand (tc' op_eq do_eq (eix (ev 0) ei) ei) (tand1 (tc' op_lt do_lt (eix (ev 0) ei) (ecb call_len_seq dc_len T.b_len (acons (eix (ev 0) ei) anil)))))) (scons (sset (i := 2) (eix (eix (ev 0) ei) (eix (ev 0) ei)) sc_law_take.nd)
  (scons (sasg (eadd (eix (ev 0) ei) ei) (gsl (ev 0) ei))
  (scons (sasg (ev 2) (gsl (ev 0) ei))
  (scons (sasg ei (gsl (ev 0) ei))
  (sone (sif (tc' op_ge do_ge (ecb call_abs dc_abs T.b_abs (acons (ev 2) anil)) (epow ei ei)) (scons (sasg (ecb call_abs dc_abs T.b_abs (acons (ev 2) anil)) (gsl (ev 0) ei))
  (sone (sasg ei (gsl (ev 0) ei)))) snil)))))) snil)
  (scons (sif (tc' op_gt do_gt (eix (ev 0) ei) ei) (sone (sasg (esub (eix (ev 0) ei) ei) (gsl (ev 0) ei))) snil)
  (scons (sif (tc' op_gt do_gt (eix (ev 0) ei) ei) (scons (sset (i := 3) (ecty call_int1 dc_int T.b_int (acons (eix (ev 0) ei) anil)) sc_law_take.nd)
  (scons (sasg (ediv (ev 3) (ev 1)) (gsl (ev 0) ei))
  (scons (sif (tbo (tor (tc' op_eq do_eq (eix (ev 0) ei) ei) (tor1 (tc' op_eq do_eq (eix (ev 0) ei) ei)))) (scons (sasg ei (gsl (ev 0) ei))
  (sone (sasg ei (gsl (ev 0) ei)))) snil)
  (sone (sret (emod (ev 3) (ev 1))))))) snil)
  (scons (sasg (eadd (eix (ev 0) ei) ei) (gsl (ev 0) ei))
  (scons (sset (i := 4) (ecall2 tk G_law_mix (hr.mono (by decide)) (acons (eadd (eadd (eix (ev 0) ei) (emul (eix (ev 0) ei) ei)) (emul (eix (ev 0) ei) ei)) anil)) sc_law_take.nd)
  (scons (sif (tc' op_gt do_gt (ev 1) (epow ei ei)) (sone (sfor hp (ir1 T.b_range (acons ei anil)) (gnm 5 sc_law_take.nd) (sone (sset (i := 4) (eadd (emul (ev 4) ei) (ecall2 tk G_law_mix (hr.mono (by decide)) (acons (eadd (ev 4) (ev 5)) anil))) sc_law_take.nd)))) snil)
  (sone (sret (emod (ecty call_int1 dc_int T.b_int (acons (ev 4) anil)) (ev 1))))))))))), fun ds μ Q E0 hc hE => by subst hE; exact pure_law_take A ds μ Q E0 hc⟩
end K01
set_option maxHeartbeats 800000
namespace K01
open PySem L2 DL
local macro_rules | `(tactic| walk_at "w") => `(tactic| simp only [wSeq, wNext, wIf, wRet, wRetN, wDrop, wAsg, gN, wVar, wC, wOp, wUn, wNil, wCons, wCB, wTup, wLst, wLstF, wTe, tB0, wAnd, wOr, wNot, wAndV, wOrV, wNotV, wIfE, wCall, wCallG, wRaise, wFrz, fFrz, rets, fI, fI0, fAdd, fSub, fMul, fLt, fLe, fGt, fGe, fMod, fModN, fPow, fDiv, fDivG, fNeg, fEq, fNe, eqF_int, eqF_bl, eqF_str, scal_int, scal_bl, scal_str, fLen, sv, fIx, fAbs, fInt, fList, wSl, fSlL, oNo, oSo, lvr, lv, fCat, wMeL, fApp, fPop, fSetL, gSb, iLs, iTp, iR1, iR2, wFor, gTp, gCn, gNl, wPar, wBrk, wCnt, fIsi, wIsx, wLc, wYes, wip, wTr, truD, wTry, clrD, wFld, fieldsD, wSetF, wMeth, wMake, fStrI, fFmt, wJoin, wJs, wChain, fAddS, fIsN, fNotN, um_same, um_um, st0, List.map_cons, List.map_nil, List.length_cons, List.length_nil, List.getElem?_cons_zero, List.getElem?_cons_succ, List.set_cons_zero, List.set_cons_succ, List.cons_append, List.nil_append, List.replicate, atI_c0, atI_c1, atI_c2, atI_c3, atI_c4, atI_c5, atI_c6, ixN_70, ixN_71, ixN_72, ixN_73, ixN_74, ixN_75, ixN_76, Nat.reduceAdd, ite_T, ite_F, if_dec, if_ndec, if_nb, true_and, if_true, Bool.false_eq_true, if_false])
def c_law_pick (A : Ad) : Ct := fun ds μ Q _ => match ds with
  | [.mut p, .lst l] => ∃ st, μ p = some (.lst st) ∧ StOk st ∧ 0 < l.length ∧ l.length < 1000 ∧ ∀ (d : D) (st' : List D), d ∈ l → StOk st' → Q d (um μ p (.lst st'))
  | [.mut p, .mut q] => ∃ st l, μ p = some (.lst st) ∧ StOk st ∧ μ q = some (.lst l) ∧ q ≠ p ∧ 0 < l.length ∧ l.length < 1000 ∧ ∀ (d : D) (st' : List D), d ∈ l → StOk st' → Q d (um μ p (.lst st'))
  | _ => False
abbrev s_law_pick : Stmt := top 46
theorem sc_law_pick : FnScope ["store", "things"] ["store", "things"] (defScope s_law_pick) := ⟨rfl, rfl, rfl, by decide +kernel, rfl, by decide +kernel, by decide +kernel⟩
def w_law_pick (A : Ad) (E : EX) : WS := (wRet (wOp fIx (wVar 1) (wCall (c_law_take A) E (wCons (wVar 0) (wCons (wCB fLen (wCons (wVar 1) wNil)) wNil)))))
theorem bd_small {n : Nat} {x : Int} (h0 : 0 ≤ x) (h1 : x < 1000) : Bd (n + 10) x := by
  refine Bd.mono (n := 10) ?_ (Nat.le_add_left _ _)
  unfold Bd; omega
theorem pure_law_pick (A : Ad) (ds μ Q E0) (h : c_law_pick A ds μ Q E0) : w_law_pick A (fun C fs _ μ => dwx E0 C fs μ) (rets Q) (st0 2 ds) μ := by
  unfold c_law_pick at h
  split at h
  · rename_i p l
    obtain ⟨st, hp, hst, h0, h1, h⟩ := h
    unfold w_law_pick
    walk_at "w"
    refine ⟨st, hp, hst, bd_small (n := 2990) (by omega) (by omega), fun n st' hs hn hm hm0 => ?_⟩
    have hlt : n < l.length := by
      by_cases c : 2 ≤ (l.length : Int)
      · exact hm c
      · have := hm0 (by omega); omega
    obtain ⟨d, e1, e2, _⟩ := atI_in hn hlt
    walk_at "w"
    rw [e1]
    exact dwn.of (h d st' e2 hs)
  · rename_i p q
    obtain ⟨st, l, hp, hst, hq, hne, h0, h1, h⟩ := h
    unfold w_law_pick
    walk_at "w"
    rw [hq]
    refine ⟨st, hp, hst, bd_small (n := 2990) (by omega) (by omega), fun n st' hs hn hm hm0 => ?_⟩
    have hlt : n < l.length := by
      by_cases c : 2 ≤ (l.length : Int)
      · exact hm c
      · have := hm0 (by omega); omega
    obtain ⟨d, e1, e2, _⟩ := atI_in hn hlt
    walk_at "w"
    rw [um_ne hne, hq]
    dsimp only
    rw [e1]
    exact dwn.of (h d st' e2 hs)
  · exact h.elim
theorem len_law_pick (A : Ad) : ∀ ds μ Q E, c_law_pick A ds μ Q E → ds.length = 2 := by
  intro ds μ Q E h
  unfold c_law_pick at h
  first | (split at h) | (split at h)
  all_goals first | rfl | exact h.elim
theorem ok_law_pick {P : Program} {w : World} {K : PySem.W.Frag} {mg : Str → Option Value} {base : Heap} {A : Ad} (D : Dfn K mg "_law_pick" "_law_pick" s_law_pick ["store", "things"]) (T : Tx P base K mg A) (G_law_take : DfOk P w K mg base "_law_take" 2 ["store", "many"] (c_law_take A)) : DfOk P w K mg base "_law_pick" 3 ["store", "things"] (c_law_pick A) := by
  obtain ⟨f, fd, F, hm, hb⟩ := D
  refine ⟨f, fd, okD F sc_law_pick (by decide) (len_law_pick A) ?_, hm, F.kp, hb⟩
  intro X W E cdv B outer s H Ex hX tk hp hr
  subst hX
  exact ⟨_, w_law_pick A E, (sone (sret (eix (ev 1) (ecall2 tk G_law_take (hr.mono (by decide)) (acons (ev 0) (acons (ecb call_len_seq dc_len T.b_len (acons (ev 1) anil)) anil)))))), fun ds μ Q E0 hc hE => by subst hE; exact pure_law_pick A ds μ Q E0 hc⟩
def c_law_rare (A : Ad) : Ct := fun ds μ Q _ => match ds with
  | [.mut p, .int many] => ∃ st, μ p = some (.lst st) ∧ StOk st ∧ Bd 3000 many ∧ ∀ (b : Bool) (st' : List D), StOk st' → Q (.bl b) (um μ p (.lst st'))
  | _ => False
abbrev s_law_rare : Stmt := top 47
theorem sc_law_rare : FnScope ["store", "many"] ["store", "many"] (defScope s_law_rare) := ⟨rfl, rfl, rfl, by decide +kernel, rfl, by decide +kernel, by decide +kernel⟩
def w_law_rare (A : Ad) (E : EX) : WS := (wRet (wOp fEq (wCall (c_law_take A) E (wCons (wVar 0) (wCons (wVar 1) wNil))) (wC (.int (0)))))
theorem pure_law_rare (A : Ad) (ds μ Q E0) (h : c_law_rare A ds μ Q E0) : w_law_rare A (fun C fs _ μ => dwx E0 C fs μ) (rets Q) (st0 2 ds) μ := by
  unfold c_law_rare at h
  split at h
  · rename_i p many
    obtain ⟨st, hp, hst, hb, h⟩ := h
    unfold w_law_rare
    walk_at "w"
    refine ⟨st, hp, hst, hb, fun n st' hs _ _ _ => ?_⟩
    walk_at "w"
    exact dwn.of (h _ _ hs)
  · exact h.elim
theorem len_law_rare (A : Ad) : ∀ ds μ Q E, c_law_rare A ds μ Q E → ds.length = 2 := by
  intro ds μ Q E h
  unfold c_law_rare at h
  first | (split at h) | (split at h)
  all_goals first | rfl | exact h.elim
theorem ok_law_rare {P : Program} {w : World} {K : PySem.W.Frag} {mg : Str → Option Value} {base : Heap} {A : Ad} (D : Dfn K mg "_law_rare" "_law_rare" s_law_rare ["store", "many"]) (T : Tx P base K mg A) (G_law_take : DfOk P w K mg base "_law_take" 2 ["store", "many"] (c_law_take A)) : DfOk P w K mg base "_law_rare" 3 ["store", "many"] (c_law_rare A) := by
  obtain ⟨f, fd, F, hm, hb⟩ := D
  refine ⟨f, fd, okD F sc_law_rare (by decide) (len_law_rare A) ?_, hm, F.kp, hb⟩
  intro X W E cdv B outer s H Ex hX tk hp hr
  subst hX
  exact ⟨_, w_law_rare A E, (sone (sret (ec op_eq do_eq (ecall2 tk G_law_take (hr.mono (by decide)) (acons (ev 0) (acons (ev 1) anil))) ei))), fun ds μ Q E0 hc hE => by subst hE; exact pure_law_rare A ds μ Q E0 hc⟩
/-- of at most 61 digits -/
def D61 (n : Int) : Prop := -10000000000000000000000000000000000000000000000000000000000000 < n ∧ n < 10000000000000000000000000000000000000000000000000000000000000
def c_law_whole (A : Ad) : Ct := fun ds μ Q _ => match ds with
  | [.mut p] => ∃ st, μ p = some (.lst st) ∧ StOk st ∧ ∀ (n : Int) (st' : List D), D61 n → StOk st' → Q (.int n) (um μ p (.lst st'))
  | _ => False
abbrev s_law_whole : Stmt := top 48
theorem sc_law_whole : FnScope ["store", "way", "edges"] ["store"] (defScope s_law_whole) := ⟨rfl, rfl, rfl, by decide +kernel, rfl, by decide +kernel, by decide +kernel⟩
def w_law_whole (A : Ad) (E : EX) : WS := (wSeq (wAsg (wCall (c_law_take A) E (wCons (wVar 0) (wCons (wC (.int (6))) wNil))) (gN 1))
  (wSeq (wIf (wTe (wOp fLt (wVar 1) (wC (.int (2))))) (wSeq (wAsg (wLstF (wCons (wC (.int (0))) (wCons (wC (.int (1))) (wCons (wUn fNeg (wC (.int (1)))) (wCons (wC (.int (2))) (wCons (wUn fNeg (wC (.int (2)))) (wCons (wOp fPow (wC (.int (10))) (wC (.int (60)))) (wCons (wOp fSub (wC (.int (0))) (wOp fPow (wC (.int (10))) (wC (.int (60))))) (wCons (wOp fSub (wOp fPow (wC (.int (10))) (wC (.int (61)))) (wC (.int (1)))) (wCons (wOp fSub (wC (.int (1))) (wOp fPow (wC (.int (10))) (wC (.int (61))))) (wCons (wOp fPow (wC (.int (10))) (wC (.int (18)))) (wCons (wOp fSub (wC (.int (1))) (wOp fPow (wC (.int (10))) (wC (.int (9))))) wNil)))))))))))) (gN 2))
  (wRet (wCall (c_law_pick A) E (wCons (wVar 0) (wCons (wVar 2) wNil))))) wNext)
  (wSeq (wIf (wTe (wOp fLt (wVar 1) (wC (.int (4))))) (wRet (wOp fSub (wCall (c_law_take A) E (wCons (wVar 0) (wCons (wC (.int (41))) wNil))) (wC (.int (20))))) wNext)
  (wSeq (wIf (wTe (wOp fEq (wVar 1) (wC (.int (4))))) (wRet (wOp fSub (wCall (c_law_take A) E (wCons (wVar 0) (wCons (wOp fAdd (wOp fMul (wC (.int (2))) (wOp fPow (wC (.int (10))) (wC (.int (9))))) (wC (.int (1)))) wNil))) (wOp fPow (wC (.int (10))) (wC (.int (9)))))) wNext)
  (wRet (wOp fSub (wCall (c_law_take A) E (wCons (wVar 0) (wCons (wOp fSub (wOp fMul (wC (.int (2))) (wOp fPow (wC (.int (10))) (wC (.int (61))))) (wC (.int (1)))) wNil))) (wOp fSub (wOp fPow (wC (.int (10))) (wC (.int (61)))) (wC (.int (1))))))))))
theorem bd_le {n : Nat} {x : Int} (h : x.natAbs < 2 ^ 250) : Bd (n + 250) x := Bd.mono (n := 250) h (Nat.le_add_left _ _)
local macro_rules | `(tactic| walk_at "num") => `(tactic| simp only [Int.reduceToNat, Int.reducePow, Int.reduceMul, Int.reduceAdd, Int.reduceSub])
theorem pw {j : Int} (h : 0 ≤ j ∧ j ≤ 1000000) : CPow 10 j := ⟨h.1, h.2, by decide⟩
theorem pure_law_whole (A : Ad) (ds μ Q E0) (h : c_law_whole A ds μ Q E0) : w_law_whole A (fun C fs _ μ => dwx E0 C fs μ) (rets Q) (st0 3 ds) μ := by
  unfold c_law_whole at h
  split at h
  · rename_i p
    obtain ⟨st, hp, hst, h⟩ := h
    unfold w_law_whole
    walk_at "w"
    walk_at "num"
    refine ⟨st, hp, hst, bd_small (n := 2990) (by decide) (by decide), fun n st1 hs1 hn0 hn1 _ => ?_⟩
    walk_at "w"
    refine ite2 (fun _ => ?_) (fun _ => ite2 (fun _ => ?_) (fun _ => ?_))
    · refine ⟨pw (by decide), pw (by decide), pw (by decide), pw (by decide), pw (by decide), pw (by decide), by decide, st1, um_same, hs1, by decide, by decide, fun d st2 hd hs2 => ?_⟩
      have : ∃ k : Int, d = .int k ∧ D61 k := by
        simp only [List.mem_cons, List.not_mem_nil, or_false] at hd
        unfold D61
        rcases hd with rfl | rfl | rfl | rfl | rfl | rfl | rfl | rfl | rfl | rfl | rfl <;> exact ⟨_, rfl, by decide, by decide⟩
      obtain ⟨k, rfl, hk⟩ := this
      rw [um_um]
      exact dwn.of (h k st2 hk hs2)
    · refine ⟨st1, um_same, hs1, bd_small (n := 2990) (by decide) (by decide), fun m st2 hs2 h0 h1 _ => ?_⟩
      walk_at "w"
      have := h1 (by decide)
      exact dwn.of (h _ st2 (by unfold D61; omega) hs2)
    · refine ite2 (fun _ => ?_) (fun _ => ?_)
      · refine ⟨pw (by decide), mulL (by decide), st1, um_same, hs1, bd_le (n := 2750) (by decide), fun m st2 hs2 h0 h1 _ => ?_⟩
        walk_at "w"
        have := h1 (by decide)
        exact ⟨pw (by decide), dwn.of (h _ st2 (by unfold D61; omega) hs2)⟩
      · refine ⟨pw (by decide), mulL (by decide), st1, um_same, hs1, bd_le (n := 2750) (by decide), fun m st2 hs2 h0 h1 _ => ?_⟩
        walk_at "w"
        have := h1 (by decide)
        exact ⟨pw (by decide), dwn.of (h _ st2 (by unfold D61; omega) hs2)⟩
  · exact h.elim
theorem len_law_whole (A : Ad) : ∀ ds μ Q E, c_law_whole A ds μ Q E → ds.length = 1 := by
  intro ds μ Q E h
  unfold c_law_whole at h
  first | (split at h) | (split at h)
  all_goals first | rfl | exact h.elim
theorem ok_law_whole {P : Program} {w : World} {K : PySem.W.Frag} {mg : Str → Option Value} {base : Heap} {A : Ad} (D : Dfn K mg "_law_whole" "_law_whole" s_law_whole ["store"]) (T : Tx P base K mg A) (G_law_take : DfOk P w K mg base "_law_take" 2 ["store", "many"] (c_law_take A)) (G_law_pick : DfOk P w K mg base "_law_pick" 3 ["store", "things"] (c_law_pick A)) : DfOk P w K mg base "_law_whole" 4 ["store"] (c_law_whole A) := by
  obtain ⟨f, fd, F, hm, hb⟩ := D
  refine ⟨f, fd, okD F sc_law_whole (by decide) (len_law_whole A) ?_, hm, F.kp, hb⟩
  intro X W E cdv B outer s H Ex hX tk hp hr
  subst hX
  exact ⟨_, w_law_whole A E, (scons (sset (i := 1) (ecall2 tk G_law_take (hr.mono (by decide)) (acons (ev 0) (acons ei anil))) sc_law_whole.nd)
  (scons (sif (tc' op_lt do_lt (ev 1) ei) (scons (sset (i := 2) (elstF (acons ei (acons ei (acons (eneg ei) (acons ei (acons (eneg ei) (acons (epow ei ei) (acons (esub ei (epow ei ei)) (acons (esub (epow ei ei) ei) (acons (esub ei (epow ei ei)) (acons (epow ei ei) (acons (esub ei (epow ei ei)) anil)))))))))))) sc_law_whole.nd)
  (sone (sret (ecall2 tk G_law_pick (hr.mono (by decide)) (acons (ev 0) (acons (ev 2) anil)))))) snil)
  (scons (sif (tc' op_lt do_lt (ev 1) ei) (sone (sret (esub (ecall2 tk G_law_take (hr.mono (by decide)) (acons (ev 0) (acons ei anil))) ei))) snil)
  (scons (sif (tc' op_eq do_eq (ev 1) ei) (sone (sret (esub (ecall2 tk G_law_take (hr.mono (by decide)) (acons (ev 0) (acons (eadd (emul ei (epow ei ei)) ei) anil))) (epow ei ei)))) snil)
  (sone (sret (esub (ecall2 tk G_law_take (hr.mono (by decide)) (acons (ev 0) (acons (esub (emul ei (epow ei ei)) ei) anil))) (esub (epow ei ei) ei)))))))), fun ds μ Q E0 hc hE => by subst hE; exact pure_law_whole A ds μ Q E0 hc⟩
end K01
set_option maxHeartbeats 800000
namespace K01
open PySem L2 DL
local macro_rules | `(tactic| walk_at "w") => `(tactic| simp only [wSeq, wNext, wIf, wRet, wRetN, wDrop, wAsg, gN, wVar, wC, wOp, wUn, wNil, wCons, wCB, wTup, wLst, wLstF, wTe, tB0, wAnd, wOr, wNot, wAndV, wOrV, wNotV, wIfE, wCall, wCallG, wRaise, wFrz, fFrz, rets, fI, fI0, fAdd, fSub, fMul, fLt, fLe, fGt, fGe, fMod, fModN, fPow, fDiv, fDivG, fNeg, fEq, fNe, eqF_int, eqF_bl, eqF_str, scal_int, scal_bl, scal_str, fLen, sv, fIx, fAbs, fInt, fList, wSl, fSlL, oNo, oSo, lvr, lv, fCat, wMeL, fApp, fPop, fSetL, gSb, iLs, iTp, iR1, iR2, wFor, gTp, gCn, gNl, wPar, wBrk, wCnt, fIsi, wIsx, wLc, wYes, wip, wTr, truD, wTry, clrD, wFld, fieldsD, wSetF, wMeth, wMake, fStrI, fFmt, wJoin, wJs, wChain, fAddS, fIsN, fNotN, um_same, um_um, st0, List.map_cons, List.map_nil, List.length_cons, List.length_nil, List.getElem?_cons_zero, List.getElem?_cons_succ, List.set_cons_zero, List.set_cons_succ, List.cons_append, List.nil_append, List.replicate, atI_c0, atI_c1, atI_c2, atI_c3, atI_c4, atI_c5, atI_c6, ixN_70, ixN_71, ixN_72, ixN_73, ixN_74, ixN_75, ixN_76, Nat.reduceAdd, ite_T, ite_F, if_dec, if_ndec, if_nb, true_and, if_true, Bool.false_eq_true, if_false])
/-! ### the greatest common divisor, by its count -/
def fibp : Nat → Nat × Nat
  | 0 => (1, 0)
  | n + 1 => ((fibp n).1 + (fibp n).2, (fibp n).1)
theorem fibp_grow : ∀ k : Nat, 4 ^ k ≤ (fibp (3 * k + 1)).1 ∧ (fibp (3 * k + 1)).2 ≤ (fibp (3 * k + 1)).1 ∧ (fibp (3 * k + 1)).1 ≤ 2 * (fibp (3 * k + 1)).2
  | 0 => by decide
  | k + 1 => by
    obtain ⟨h1, h2, h3⟩ := fibp_grow k
    have e : fibp (3 * (k + 1) + 1) = (3 * (fibp (3 * k + 1)).1 + 2 * (fibp (3 * k + 1)).2, 2 * (fibp (3 * k + 1)).1 + (fibp (3 * k + 1)).2) := by
      show fibp (3 * k + 1 + 1 + 1 + 1) = _
      show ((fibp (3 * k + 1)).1 + (fibp (3 * k + 1)).2 + (fibp (3 * k + 1)).1 + ((fibp (3 * k + 1)).1 + (fibp (3 * k + 1)).2), (fibp (3 * k + 1)).1 + (fibp (3 * k + 1)).2 + (fibp (3 * k + 1)).1) = _
      refine Prod.ext ?_ ?_ <;> (dsimp only; omega)
    rw [e]
    dsimp only
    rw [Nat.pow_succ]
    omega
theorem fibp_mono : ∀ n m : Nat, (fibp n).1 ≤ (fibp (n + m)).1
  | n, 0 => Nat.le_refl _
  | n, m + 1 => Nat.le_trans (fibp_mono n m) (Nat.le_add_right _ _)
theorem fib_big : 2 ^ 13300 ≤ (fibp 19999).1 := by
  have h := (fibp_grow 6650).1
  have h2 := fibp_mono (3 * 6650 + 1) 48
  have e : (4 : Nat) ^ 6650 = 2 ^ 13300 := by rw [show (4 : Nat) = 2 ^ 2 from rfl, ← Nat.pow_mul]
  rw [e] at h
  exact Nat.le_trans h h2
def c_law_gcd (A : Ad) : Ct := fun ds μ Q _ => match ds with
  | [.int a, .int b] => Bd 13300 b ∧ Q (.int (Int.gcd a b : Nat)) μ
  | _ => False
abbrev s_law_gcd : Stmt := top 49
theorem sc_law_gcd : FnScope ["one", "two", "turn", "rest"] ["one", "two"] (defScope s_law_gcd) := ⟨rfl, rfl, rfl, by decide +kernel, rfl, by decide +kernel, by decide +kernel⟩
def w_law_gcd_3 (A : Ad) (E : EX) : WS := (wRet (wVar 0))
def w_law_gcd_b1 (A : Ad) (E : EX) : WS := (wSeq (wIf (wTe (wOp fEq (wVar 1) (wC (.int (0))))) (wRet (wVar 0)) wNext)
  (wSeq (wAsg (wOp fMod (wCB fInt (wCons (wVar 0) wNil)) (wVar 1)) (gN 3))
  (wSeq (wAsg (wVar 1) (gN 0))
  (wAsg (wVar 3) (gN 1)))))
def w_law_gcd (A : Ad) (E : EX) : WS := (wSeq (wAsg (wCB fAbs (wCons (wVar 0) wNil)) (gN 0))
  (wSeq (wAsg (wCB fAbs (wCons (wVar 1) wNil)) (gN 1))
  (wSeq (wFor (iR1 (wCons (wC (.int (20000))) wNil)) (gN 2) (w_law_gcd_b1 A E))
  (w_law_gcd_3 A E))))
theorem pure_law_gcd (A : Ad) (ds μ Q E0) (h : c_law_gcd A ds μ Q E0) : w_law_gcd A (fun C fs _ μ => dwx E0 C fs μ) (rets Q) (st0 4 ds) μ := by
  unfold c_law_gcd at h
  split at h
  · rename_i a b
    obtain ⟨hb, h⟩ := h
    unfold w_law_gcd
    walk_at "w"
    refine ⟨by decide, fun i ρ μ' => μ' = μ ∧ ∃ (x y : Nat) (t r : Option D), ρ = [some (.int x), some (.int y), t, r] ∧ Nat.gcd x y = Int.gcd a b ∧ (i = 0 → x = a.natAbs ∧ y = b.natAbs) ∧ (∀ j, i = j + 1 → 1 ≤ x ∧ y < x ∧ (fibp j).1 * x + (fibp j).2 * y ≤ b.natAbs),
      ⟨rfl, _, _, _, _, rfl, rfl, fun _ => ⟨rfl, rfl⟩, fun j hj => nomatch hj⟩, fun _ _ _ _ => trivial, ?_, ?_⟩
    · rintro i d ρ μ' hd ⟨rfl, x, y, t, r, rfl, hg, h0, h1⟩
      unfold w_law_gcd_b1
      walk_at "w"
      refine ite2 (fun c => ?_) (fun c => ?_)
      · have y0 : y = 0 := by omega
        rw [y0, Nat.gcd_zero_right] at hg
        rw [← hg] at h
        exact dwn.of h
      · refine ⟨by omega, wk.of ⟨rfl, y, x % y, _, _, rfl, ?_, (fun z => nomatch z), fun j hj => ?_⟩⟩
        · rw [← hg, Nat.gcd_comm x y, Nat.gcd_rec y x, Nat.gcd_comm]
        · have yp : 0 < y := by omega
          obtain rfl : i = j := by omega
          refine ⟨yp, Nat.mod_lt _ yp, ?_⟩
          cases i with
          | zero =>
            obtain ⟨_, e2⟩ := h0 rfl
            show 1 * y + 0 * (x % y) ≤ _
            omega
          | succ k =>
            obtain ⟨hx, hlt, hf⟩ := h1 k rfl
            refine Nat.le_trans ?_ hf
            show ((fibp k).1 + (fibp k).2) * y + (fibp k).1 * (x % y) ≤ _
            have hq : y + x % y ≤ x := by
              have e := Nat.div_add_mod x y
              have q1 : 1 ≤ x / y := (Nat.le_div_iff_mul_le yp).mpr (by omega)
              have := Nat.mul_le_mul_left y q1
              omega
            have := Nat.mul_le_mul_left (fibp k).1 hq
            rw [Nat.mul_add] at this
            rw [Nat.add_mul]
            omega
    · rintro ρ μ' ⟨rfl, x, y, t, r, rfl, hg, h0, h1⟩
      exfalso
      obtain ⟨hx, hlt, hf⟩ := h1 19999 (by rw [show (Wk.fix (rng 0 (Int.toNat 20000))).items = rng 0 (Int.toNat 20000) from rfl, rng_len]; rfl)
      have e1 := fib_big
      have e2 : (fibp 19999).1 * 1 ≤ (fibp 19999).1 * x := Nat.mul_le_mul_left _ hx
      unfold Bd at hb
      omega
  · exact h.elim
theorem len_law_gcd (A : Ad) : ∀ ds μ Q E, c_law_gcd A ds μ Q E → ds.length = 2 := by
  intro ds μ Q E h
  unfold c_law_gcd at h
  first | (split at h) | (split at h)
  all_goals first | rfl | exact h.elim
theorem ok_law_gcd {P : Program} {w : World} {K : PySem.W.Frag} {mg : Str → Option Value} {base : Heap} {A : Ad} (D : Dfn K mg "_law_gcd" "_law_gcd" s_law_gcd ["one", "two"]) (T : Tx P base K mg A)  : DfOk P w K mg base "_law_gcd" 1 ["one", "two"] (c_law_gcd A) := by
  obtain ⟨f, fd, F, hm, hb⟩ := D
  refine ⟨f, fd, okD F sc_law_gcd (by decide) (len_law_gcd A) ?_, hm, F.kp, hb⟩
  intro X W E cdv B outer s H Ex hX tk hp hr
  subst hX
  exact ⟨_, w_law_gcd A E, (scons (sset (i := 0) (ecb call_abs dc_abs T.b_abs (acons (ev 0) anil)) sc_law_gcd.nd)
  (scons (sset (i := 1) (ecb call_abs dc_abs T.b_abs (acons (ev 1) anil)) sc_law_gcd.nd)
  (scons (sfor hp (ir1 T.b_range (acons ei anil)) (gnm 2 sc_law_gcd.nd) (scons (sif (tc' op_eq do_eq (ev 1) ei) (sone (sret (ev 0))) snil)
  (scons (sset (i := 3) (emod (ecty call_int1 dc_int T.b_int (acons (ev 0) anil)) (ev 1)) sc_law_gcd.nd)
  (scons (sset (i := 0) (ev 1) sc_law_gcd.nd)
  (sone (sset (i := 1) (ev 3) sc_law_gcd.nd))))))
  (sone (sret (ev 0)))))), fun ds μ Q E0 hc hE => by subst hE; exact pure_law_gcd A ds μ Q E0 hc⟩
def isI : D → Bool
  | .int _ => true
  | _ => false
def c_law_number (A : Ad) : Ct := fun ds μ Q _ => match ds with
  | [d] => (∃ t, tyD μ d = some t) ∧ Q (.bl (isI d)) μ
  | _ => False
abbrev s_law_number : Stmt := top 56
theorem sc_law_number : FnScope ["told"] ["told"] (defScope s_law_number) := ⟨rfl, rfl, rfl, by decide +kernel, rfl, by decide +kernel, by decide +kernel⟩
def w_law_number (A : Ad) (E : EX) : WS := (wRet (wAndV (wUn (fIsi .int) (wVar 0)) (wNotV (wUn (fIsi .bl) (wVar 0)))))
theorem isI_ty {μ : Mu} {d : D} {t : Ty} (h : tyD μ d = some t) : (isB t .int && !isB t .bl) = isI d := by
  cases d with
  | «mut» a =>
    have h : (match μ a with
      | some (.lst _) => some Ty.lst
      | some (.dK _) => some Ty.dic
      | some (.dT _) => some Ty.dic
      | _ => none) = some t := h
    split at h <;> first | (cases h; rfl) | cases h
  | _ => first | (cases h; rfl) | cases h
theorem pure_law_number (A : Ad) (ds μ Q E0) (h : c_law_number A ds μ Q E0) : w_law_number A (fun C fs _ μ => dwx E0 C fs μ) (rets Q) (st0 1 ds) μ := by
  unfold c_law_number at h
  split at h
  · rename_i d
    obtain ⟨⟨t, ht⟩, h⟩ := h
    unfold w_law_number
    walk_at "w"
    rw [ht]
    refine ⟨by decide, ?_⟩
    have e := isI_ty ht
    show (if isB t .int = true then (Ty.bl ≠ Ty.non ∧ dwn Q (D.bl !isB t Ty.bl) μ) else dwn Q (D.bl false) μ)
    cases c : isB t .int with
    | true =>
      rw [c, Bool.true_and] at e
      rw [if_pos rfl, e]
      exact ⟨by decide, dwn.of h⟩
    | false =>
      rw [c, Bool.false_and] at e
      rw [if_neg Bool.false_ne_true, e]
      exact dwn.of h
  · exact h.elim
theorem len_law_number (A : Ad) : ∀ ds μ Q E, c_law_number A ds μ Q E → ds.length = 1 := by
  intro ds μ Q E h
  unfold c_law_number at h
  first | (split at h) | (split at h)
  all_goals first | rfl | exact h.elim
theorem ok_law_number {P : Program} {w : World} {K : PySem.W.Frag} {mg : Str → Option Value} {base : Heap} {A : Ad} (D : Dfn K mg "_law_number" "_law_number" s_law_number ["told"]) (T : Tx P base K mg A)  : DfOk P w K mg base "_law_number" 1 ["told"] (c_law_number A) := by
  obtain ⟨f, fd, F, hm, hb⟩ := D
  refine ⟨f, fd, okD F sc_law_number (by decide) (len_law_number A) ?_, hm, F.kp, hb⟩
  intro X W E cdv B outer s H Ex hX tk hp hr
  subst hX
  exact ⟨_, w_law_number A E, (sone (sret (eand (eisi .int T.b_isinstance T.b_int (by decide +kernel) (ev 0)) (eone (enot (eisi .bl T.b_isinstance T.b_bool (by decide +kernel) (ev 0))))))), fun ds μ Q E0 hc hE => by subst hE; exact pure_law_number A ds μ Q E0 hc⟩
end K01
set_option maxHeartbeats 800000
namespace K01
open PySem L2 DL
local macro_rules | `(tactic| walk_at "w") => `(tactic| simp only [wSeq, wNext, wIf, wRet, wRetN, wDrop, wAsg, gN, wVar, wC, wOp, wUn, wNil, wCons, wCB, wTup, wLst, wLstF, wTe, tB0, wAnd, wOr, wNot, wAndV, wOrV, wNotV, wIfE, wCall, wCallG, wRaise, wFrz, fFrz, rets, fI, fI0, fAdd, fSub, fMul, fLt, fLe, fGt, fGe, fMod, fModN, fPow, fDiv, fDivG, fNeg, fEq, fNe, eqF_int, eqF_bl, eqF_str, scal_int, scal_bl, scal_str, fLen, sv, fIx, fAbs, fInt, fList, wSl, fSlL, oNo, oSo, lvr, lv, fCat, wMeL, fApp, fPop, fSetL, gSb, iLs, iTp, iR1, iR2, wFor, gTp, gCn, gNl, wPar, wBrk, wCnt, fIsi, wIsx, wLc, wYes, wip, wTr, truD, wTry, clrD, wFld, fieldsD, wSetF, wMeth, wMake, fStrI, fFmt, wJoin, wJs, wChain, fAddS, fIsN, fNotN, um_same, um_um, st0, List.map_cons, List.map_nil, List.length_cons, List.length_nil, List.getElem?_cons_zero, List.getElem?_cons_succ, List.set_cons_zero, List.set_cons_succ, List.cons_append, List.nil_append, List.replicate, atI_c0, atI_c1, atI_c2, atI_c3, atI_c4, atI_c5, atI_c6, ixN_70, ixN_71, ixN_72, ixN_73, ixN_74, ixN_75, ixN_76, Nat.reduceAdd, ite_T, ite_F, if_dec, if_ndec, if_nb, true_and, if_true, Bool.false_eq_true, if_false])
/-! ### the same, kinds too -/
mutual
/-- plain data: no dicts, no cells -/
def pd : D → Bool
  | .tup l => pds l
  | .lst l => pds l
  | .non => true | .bl _ => true | .int _ => true | .str _ => true
  | _ => false
def pds : List D → Bool
  | [] => true
  | d :: l => pd d && pds l
end
mutual
/-- how many parts -/
def szD : D → Nat
  | .tup l => 1 + szs l
  | .lst l => 1 + szs l
  | _ => 1
def szs : List D → Nat
  | [] => 0
  | d :: l => szD d + szs l
end
theorem pds_mem : ∀ {l : List D} {d : D}, pds l = true → d ∈ l → pd d = true
  | d :: l, x, h, hx => by
    have h : (pd d && pds l) = true := h
    rw [Bool.and_eq_true] at h
    rcases List.mem_cons.mp hx with rfl | hx
    · exact h.1
    · exact pds_mem h.2 hx
theorem sz_pos : ∀ d : D, 1 ≤ szD d
  | .tup l => Nat.le_add_right 1 _
  | .lst l => Nat.le_add_right 1 _
  | .non => Nat.le_refl 1 | .bl _ => Nat.le_refl 1 | .int _ => Nat.le_refl 1 | .str _ => Nat.le_refl 1
  | .lsr _ => Nat.le_refl 1 | .dK _ _ => Nat.le_refl 1 | .dT _ _ => Nat.le_refl 1 | .ins _ _ _ => Nat.le_refl 1 | .mut _ => Nat.le_refl 1
def c_law_same (A : Ad) : Ct := fun ds μ Q _ => match ds with
  | [.mut q, .lst m] => ∃ l, μ q = some (.lst l) ∧ pds l = true ∧ pds m = true ∧ 1 + szs m < 100000 ∧ ∀ b : Bool, (b = true ↔ l = m) → Q (.bl b) μ
  | [one, two] => pd one = true ∧ pd two = true ∧ szD two < 100000 ∧ ∀ b : Bool, (b = true ↔ one = two) → Q (.bl b) μ
  | _ => False
abbrev s_law_same : Stmt := top 57
theorem sc_law_same : FnScope ["told", "wanted", "pairs", "turn", "one", "two", "key", "k"] ["told", "wanted"] (defScope s_law_same) := ⟨rfl, rfl, rfl, by decide +kernel, rfl, by decide +kernel, by decide +kernel⟩
def w_law_same_2 (A : Ad) (E : EX) : WS := (wRet (wC (.bl false)))
def w_law_same_b1 (A : Ad) (E : EX) : WS := (wDrop (wMeL fApp (wVar 2) (wCons (wTup (wCons (wOp fIx (wVar 4) (wVar 7)) (wCons (wOp fIx (wVar 5) (wVar 7)) wNil))) wNil)))
def w_law_same_b2 (A : Ad) (E : EX) : WS := (wSeq (wIf (wTe (wOp fEq (wCB fLen (wCons (wVar 2) wNil)) (wC (.int (0))))) (wRet (wC (.bl true))) wNext)
  (wSeq (wAsg (wMeL fPop (wVar 2) wNil) (gTp 2 (gCn (gN 4) (gCn (gN 5) gNl))))
  (wIf (wOr (wTe (wOp fIsN (wVar 5) (wC .non))) (wTe (wUn (fIsi .bl) (wVar 5)))) (wIf (wNot (wOr (wAnd (wTe (wOp fIsN (wVar 4) (wC .non))) (wTe (wOp fIsN (wVar 5) (wC .non)))) (wAnd (wTe (wUn (fIsi .bl) (wVar 4))) (wAnd (wTe (wUn (fIsi .bl) (wVar 5))) (wTe (wOp fEq (wVar 4) (wVar 5))))))) (wRet (wC (.bl false))) wNext) (wIf (wTe (wUn (fIsi .int) (wVar 5))) (wIf (wOr (wNot (wTe (wCall (c_law_number A) E (wCons (wVar 4) wNil)))) (wTe (wOp fNe (wVar 4) (wVar 5)))) (wRet (wC (.bl false))) wNext) (wIf (wTe (wUn (fIsi .str) (wVar 5))) (wIf (wOr (wNot (wTe (wUn (fIsi .str) (wVar 4)))) (wTe (wOp fNe (wVar 4) (wVar 5)))) (wRet (wC (.bl false))) wNext) (wIf (wTe (wUn (fIsi .dic) (wVar 5))) wNever (wSeq (wIf (wOr (wTe (wOp fNe (wUn (fIsi .tup) (wVar 5)) (wUn (fIsi .tup) (wVar 4)))) (wTe (wOp fNe (wUn (fIsi .lst) (wVar 5)) (wUn (fIsi .lst) (wVar 4))))) (wRet (wC (.bl false))) wNext)
  (wSeq (wIf (wOr (wAnd (wNot (wTe (wUn (fIsi .tup) (wVar 4)))) (wNot (wTe (wUn (fIsi .lst) (wVar 4))))) (wTe (wOp fNe (wCB fLen (wCons (wVar 4) wNil)) (wCB fLen (wCons (wVar 5) wNil))))) (wRet (wC (.bl false))) wNext)
  (wFor (iR1 (wCons (wCB fLen (wCons (wVar 5) wNil)) wNil)) (gN 7) (w_law_same_b1 A E))))))))))
def w_law_same (A : Ad) (E : EX) : WS := (wSeq (wAsg (wLst (wCons (wTup (wCons (wVar 0) (wCons (wVar 1) wNil))) wNil)) (gN 2))
  (wSeq (wFor (iR1 (wCons (wC (.int (100000))) wNil)) (gN 3) (w_law_same_b2 A E))
  (w_law_same_2 A E)))
def tyP : D → Ty
  | .bl _ => .bl | .int _ => .int | .str _ => .str | .tup _ => .tup | .lst _ => .lst | _ => .non
theorem tyP_ok {d : D} (μ : Mu) (h : pd d = true) : tyD μ d = some (tyP d) := by
  cases d <;> first | rfl | cases h
theorem zip_eq : ∀ {l m : List D}, l.length = m.length → ((∀ q ∈ l.zip m, q.1 = q.2) ↔ l = m)
  | [], [], _ => ⟨fun _ => rfl, fun _ q h => nomatch h⟩
  | a :: l, b :: m, h => by
    have h' : l.length = m.length := by simpa using h
    rw [List.zip_cons_cons, List.forall_mem_cons, zip_eq h']
    exact ⟨fun ⟨x, y⟩ => by rw [show a = b from x, y], fun z => by cases z; exact ⟨rfl, rfl⟩⟩
theorem zip_sz : ∀ {l m : List D}, l.length = m.length → ((l.zip m).map fun q => szD q.2).sum = szs m
  | [], [], _ => rfl
  | a :: l, b :: m, h => by
    have h' : l.length = m.length := by simpa using h
    rw [List.zip_cons_cons, List.map_cons, List.sum_cons, zip_sz h']
    rfl
theorem szs_len : ∀ l : List D, l.length ≤ szs l
  | [] => Nat.le_refl 0
  | d :: l => by
    have := szs_len l
    have := sz_pos d
    show l.length + 1 ≤ szD d + szs l
    omega
theorem sum_len : ∀ st : List (D × D), st.length ≤ (st.map fun q => szD q.2).sum
  | [] => Nat.le_refl 0
  | q :: l => by
    have := sum_len l
    have := sz_pos q.2
    rw [List.map_cons, List.sum_cons, List.length_cons]
    omega
theorem rng_at {lo : Int} {n i : Nat} {d : D} (h : (rng lo n)[i]? = some d) : i < n ∧ d = .int (lo + (i : Nat)) := by
  have hi : i < n := by
    have := (List.getElem?_eq_some_iff.mp h).1
    rwa [rng_len] at this
  rw [rng_get hi] at h
  cases h
  exact ⟨hi, rfl⟩
theorem fixi (l : List D) : (Wk.fix l).items = l := rfl
def I_same (one two : D) (P : Prop) (n : Nat) (μ : Mu) (p : Addr) (i : Nat) (ρ : En) (μ' : Mu) : Prop := ∃ (st : List (D × D)) (r3 r4 r5 r6 r7 : Option D), μ' = um μ p (.lst (st.map fun q => .tup [q.1, q.2])) ∧ ρ = [some one, some two, some (.mut p), r3, r4, r5, r6, r7] ∧
  (∀ q ∈ st, pd q.1 = true ∧ pd q.2 = true) ∧ ((∀ q ∈ st, q.1 = q.2) ↔ P) ∧ i + (st.map fun q => szD q.2).sum ≤ n
local macro_rules | `(tactic| walk_at "s") => `(tactic| simp (decide := true) only [tyD, c_law_number, isI, isN, Bool.not_true, Bool.not_false, ite_true, ite_false, if_true, if_false, true_and])
theorem same_step (A : Ad) {one two : D} {P : Prop} {n : Nat} {μ : Mu} {p : Addr} {Q : D → Mu → Prop} {E0} {NX BK : En → Mu → Prop} (hp : μ p = none) (hz : n < 100000) (hq : ∀ b : Bool, (b = true ↔ P) → Q (.bl b) μ) (i : Nat) (d : D) (ρ : En) (μ' : Mu) (hI : I_same one two P n μ p i ρ μ')
    (hNX : ∀ ρ μ', I_same one two P n μ p (i + 1) ρ μ' → NX ρ μ') : w_law_same_b2 A (fun C fs _ μ => dwx E0 C fs μ) { nx := wk NX, rt := (rets Q).rt, ct := wk NX, bk := BK } (ρ.set 3 (some d)) μ' := by
  obtain ⟨st, r3, r4, r5, r6, r7, rfl, rfl, hp1, hiff, hsz⟩ := hI
  unfold w_law_same_b2
  rcases List.eq_nil_or_concat st with rfl | ⟨st, ⟨a, b⟩, rfl⟩
  · walk_at "w"
    exact ⟨μ, le.um hp, hq true (by simpa using hiff)⟩
  · have fin : ∀ m, a ≠ b → dwn Q (.bl false) (um μ p m) := fun m n => ⟨μ, le.um hp, hq false (by
      simp only [List.concat_eq_append, List.mem_append, List.mem_singleton] at hiff
      rw [← hiff]
      simp only [Bool.false_eq_true, false_iff]
      exact fun z => n (z (a, b) (.inr rfl)))⟩
    have hab := hp1 (a, b) (by simp)
    have ha : pd a = true := hab.1
    have hb : pd b = true := hab.2
    have nxt : ∀ r3 r4 r5 r6 r7, a = b → wk NX [some one, some two, some (.mut p), r3, r4, r5, r6, r7] (um μ p (.lst (st.map fun q => .tup [q.1, q.2]))) := fun r3 r4 r5 r6 r7 e => wk.of (hNX _ _ ⟨st, r3, r4, r5, r6, r7, rfl, rfl, fun q hq => hp1 q (by simp [hq]), by
      rw [← hiff]
      simp only [List.concat_eq_append, List.mem_append, List.mem_singleton]
      exact ⟨fun z q hq => hq.elim (z q) (fun w => by rw [w]; exact e), fun z q hq => z q (.inl hq)⟩, by
      simp only [List.concat_eq_append, List.map_append, List.sum_append, List.map_cons, List.map_nil, List.sum_cons, List.sum_nil] at hsz
      have := sz_pos b
      omega⟩)
    simp only [List.concat_eq_append, List.map_append, List.map_cons, List.map_nil]
    walk_at "w"
    simp only [List.getLast?_concat, List.dropLast_concat, List.length_append, List.length_cons, List.length_nil]
    rw [if_neg (by omega)]
    walk_at "w"
    cases b <;> first | (cases hb; done) | (cases a <;> first | (cases ha; done) | skip)
    all_goals (walk_at "s"; try walk_at "w"; try walk_at "s")
    all_goals (refine ⟨⟨p, _, rfl, um_same⟩, ?_⟩; try refine ⟨⟨_, rfl⟩, ?_⟩)
    all_goals first | exact fin _ (fun z => nomatch z) | exact nxt _ _ _ _ _ rfl | (refine ite2 (fun c => nxt _ _ _ _ _ ?_) (fun c => fin _ fun z => c ?_) <;> first | (rw [eq_of_beq c]; done) | (rw [c]; done) | (cases z; exact beq_self_eq_true _) | (cases z; rfl)) | skip
    all_goals (
      rename_i m l
      refine ite2 (fun c => ?_) (fun c => fin _ (fun z => c (by cases z; rfl)))
      have c : l.length = m.length := by omega
      have hm : i + ((st.map fun q => szD q.2).sum + (1 + szs m)) ≤ n := by
        simp only [List.concat_eq_append, List.map_append, List.sum_append, List.map_cons, List.map_nil, List.sum_cons, List.sum_nil] at hsz
        exact hsz
      have e1 := szs_len m
      have e2 := sum_len st
      refine ⟨⟨by omega, by omega⟩, fun j ρ μ' => ∃ r7, μ' = um μ p (.lst ((st ++ (l.zip m).take j).map fun q => .tup [q.1, q.2])) ∧ ρ = [some one, some two, some (.mut p), some d, some _, some _, r6, r7], ⟨r7, by rw [List.take_zero, List.append_nil], rfl⟩, fun _ _ _ _ => trivial, ?_, ?_⟩
      · rintro j dj ρ μ' hdj ⟨r7, rfl, rfl⟩
        rw [fixi] at hdj
        obtain ⟨hj, rfl⟩ := rng_at hdj
        have hj : j < m.length := by omega
        unfold w_law_same_b1
        walk_at "w"
        rw [Int.zero_add, atI_0, atI_0, List.getElem?_eq_getElem (by omega), List.getElem?_eq_getElem hj]
        refine ⟨⟨p, _, rfl, um_same⟩, by decide, ?_, wk.of ⟨_, ?_, rfl⟩⟩
        · rw [List.length_map, List.length_append, List.length_take]; omega
        · rw [List.take_succ, List.getElem?_eq_getElem (by rw [List.length_zip]; omega), List.getElem_zip]
          simp only [Option.toList_some, List.map_append, List.map_cons, List.map_nil, List.append_assoc]
      · rintro ρ μ' ⟨r7, rfl, rfl⟩
        rw [fixi, rng_len, List.take_of_length_le (by rw [List.length_zip]; omega)]
        refine wk.of (hNX _ _ ⟨_, _, _, _, _, _, rfl, rfl, ?_, ?_, ?_⟩)
        · intro q hq
          rcases List.mem_append.mp hq with hq | hq
          · exact hp1 q (by simp [hq])
          · have := List.of_mem_zip (a := q.1) (b := q.2) hq
            exact ⟨pds_mem ha this.1, pds_mem hb this.2⟩
        · rw [← hiff]
          simp only [List.concat_eq_append, List.mem_append, List.mem_singleton]
          have z := zip_eq c
          refine ⟨fun w q hq => hq.elim (fun h => w q (.inl h)) (fun h => ?_), fun w q hq => hq.elim (fun h => w q (.inl h)) (fun h => ?_)⟩
          · rw [h, z.mp fun q h => w q (.inr h)]
          · have := w _ (.inr rfl)
            cases this
            exact z.mpr rfl q h
        · rw [List.map_append, List.sum_append, zip_sz c]
          omega)
theorem pure_law_same (A : Ad) (ds μ Q E0) (h : c_law_same A ds μ Q E0) : w_law_same A (fun C fs _ μ => dwx E0 C fs μ) (rets Q) (st0 8 ds) μ := by
  unfold c_law_same at h
  split at h
  · rename_i q m
    obtain ⟨l, hq0, h1, h2, hz, hq⟩ := h
    unfold w_law_same
    walk_at "w"
    refine ⟨by decide, by decide, fun p hp => ⟨by decide, fun i ρ μ' => (i = 0 ∧ μ' = um μ p (.lst [.tup [.mut q, .lst m]]) ∧ ∃ r3 r4 r5 r6 r7 : Option D, ρ = [some (.mut q), some (.lst m), some (.mut p), r3, r4, r5, r6, r7]) ∨ I_same (.mut q) (.lst m) (l = m) (1 + szs m) μ p i ρ μ', .inl ⟨rfl, rfl, _, _, _, _, _, rfl⟩, fun _ _ _ _ => trivial, ?_, ?_⟩⟩
    · rintro i d ρ μ' hd (⟨rfl, rfl, r3, r4, r5, r6, r7, rfl⟩ | hI)
      · have hpq : q ≠ p := ne_nm hq0 hp
        have fin : ∀ x, l ≠ m → dwn Q (.bl false) (um μ p x) := fun x n => ⟨μ, le.um hp, hq false ⟨fun z => (nomatch z), fun z => absurd z n⟩⟩
        unfold w_law_same_b2
        walk_at "w"
        rw [if_neg (by decide)]
        try walk_at "w"
        refine ⟨⟨p, _, rfl, um_same⟩, ?_⟩
        have g1 : [D.tup [.mut q, .lst m]].getLast? = some (D.tup [.mut q, .lst m]) := rfl
        have g2 : [D.tup [.mut q, .lst m]].dropLast = [] := rfl
        rw [g1, g2]
        dsimp only
        simp (decide := true) only [tyD, isN, um_ne hpq, hq0, List.length_cons, List.length_nil, if_true, if_false, true_and, ite_true, ite_false, Bool.not_true, Bool.not_false]
        have e1 := szs_len m
        refine ite2 (fun c => ?_) (fun c => fin _ (fun z => c (by rw [z])))
        have c : l.length = m.length := by omega
        refine ⟨⟨by omega, by omega⟩, fun j ρ μ' => ∃ r7, μ' = um μ p (.lst (((l.zip m).take j).map fun q => .tup [q.1, q.2])) ∧ ρ = [some (.mut q), some (.lst m), some (.mut p), some d, some (.mut q), some (.lst m), r6, r7], ⟨r7, by rw [List.take_zero]; rfl, rfl⟩, fun _ _ _ _ => trivial, ?_, ?_⟩
        · rintro j dj ρ μ' hdj ⟨r7, rfl, rfl⟩
          rw [fixi] at hdj
          obtain ⟨hj, rfl⟩ := rng_at hdj
          have hj : j < m.length := by omega
          unfold w_law_same_b1
          walk_at "w"
          rw [um_ne hpq, hq0]
          dsimp only
          rw [Int.zero_add, atI_0, atI_0, List.getElem?_eq_getElem (by omega), List.getElem?_eq_getElem hj]
          refine ⟨⟨p, _, rfl, um_same⟩, by decide, ?_, wk.of ⟨_, ?_, rfl⟩⟩
          · rw [List.length_map, List.length_take]; omega
          · rw [List.take_succ, List.getElem?_eq_getElem (by rw [List.length_zip]; omega), List.getElem_zip]
            simp only [Option.toList_some, List.map_append, List.map_cons, List.map_nil]
        · rintro ρ μ' ⟨r7, rfl, rfl⟩
          rw [fixi, rng_len, List.take_of_length_le (by rw [List.length_zip]; omega)]
          refine wk.of (.inr ⟨l.zip m, _, _, _, _, _, rfl, rfl, fun x hx => ?_, zip_eq c, ?_⟩)
          · have := List.of_mem_zip (a := x.1) (b := x.2) hx
            exact ⟨pds_mem h1 this.1, pds_mem h2 this.2⟩
          · rw [zip_sz c]
            exact Nat.le_refl _
      · exact same_step A hp hz hq i d ρ μ' hI (fun ρ μ' h => .inr h)
    · rintro ρ μ' (⟨h0, _⟩ | ⟨st, r3, r4, r5, r6, r7, rfl, rfl, hp1, hiff, hsz⟩)
      · rw [fixi, rng_len] at h0; cases h0
      · exfalso
        rw [fixi, rng_len] at hsz
        omega
  · rename_i one two _
    obtain ⟨h1, h2, hz, hq⟩ := h
    unfold w_law_same
    walk_at "w"
    refine ⟨by decide, by decide, fun p hp => ⟨by decide, I_same one two (one = two) (szD two) μ p, ⟨[(one, two)], _, _, _, _, _, rfl, rfl, ?_, ?_, ?_⟩, fun _ _ _ _ => trivial, fun i d ρ μ' hd hI => same_step A hp hz hq i d ρ μ' hI (fun ρ μ' h => h), ?_⟩⟩
    · simp [h1, h2]
    · simp
    · simp
    · rintro ρ μ' ⟨st, r3, r4, r5, r6, r7, rfl, rfl, hp1, hiff, hsz⟩
      exfalso
      rw [fixi, rng_len] at hsz
      omega
  · exact h.elim
theorem len_law_same (A : Ad) : ∀ ds μ Q E, c_law_same A ds μ Q E → ds.length = 2 := by
  intro ds μ Q E h
  unfold c_law_same at h
  first | (split at h) | (split at h)
  all_goals first | rfl | exact h.elim
theorem ok_law_same {P : Program} {w : World} {K : PySem.W.Frag} {mg : Str → Option Value} {base : Heap} {A : Ad} (D : Dfn K mg "_law_same" "_law_same" s_law_same ["told", "wanted"]) (T : Tx P base K mg A) (G_law_number : DfOk P w K mg base "_law_number" 1 ["told"] (c_law_number A)) : DfOk P w K mg base "_law_same" 2 ["told", "wanted"] (c_law_same A) := by
  obtain ⟨f, fd, F, hm, hb⟩ := D
  refine ⟨f, fd, okD F sc_law_same (by decide) (len_law_same A) ?_, hm, F.kp, hb⟩
  intro X W E cdv B outer s H Ex hX tk hp hr
  subst hX
  exact ⟨_, w_law_same A E, (scons (sset (i := 2) (elst (acons (etup (acons (ev 0) (acons (ev 1) anil))) anil)) sc_law_same.nd)
  (scons (sfor hp (ir1 T.b_range (acons ei anil)) (gnm 3 sc_law_same.nd) (scons (sif (tc' op_eq do_eq (ecb call_len_seq dc_len T.b_len (acons (ev 2) anil)) ei) (sone (sret eb)) snil)
  (scons (sasg (epop (ev 2)) (gtp (n := 2) (gcn (gnm 4 sc_law_same.nd) (gcn (gnm 5 sc_law_same.nd) gnl))))
  (sone (sif (tbo (tor (tc' op_isN do_isN (ev 5) en) (tor1 (tval (eisi .bl T.b_isinstance T.b_bool (by decide +kernel) (ev 5)))))) (sone (sif (tnot (tbo (tor (tbo (tand (tc' op_isN do_isN (ev 4) en) (tand1 (tc' op_isN do_isN (ev 5) en)))) (tor1 (tbo (tand (tval (eisi .bl T.b_isinstance T.b_bool (by decide +kernel) (ev 4))) (tand (tval (eisi .bl T.b_isinstance T.b_bool (by decide +kernel) (ev 5))) (tand1 (tc' op_eq do_eq (ev 4) (ev 5)))))))))) (sone (sret eb)) snil)) (sone (sif (tval (eisi .int T.b_isinstance T.b_int (by decide +kernel) (ev 5))) (sone (sif (tbo (tor (tnot (tval (ecall2 tk G_law_number (hr.mono (by decide)) (acons (ev 4) anil)))) (tor1 (tc' op_ne do_ne (ev 4) (ev 5))))) (sone (sret eb)) snil)) (sone (sif (tval (eisi .str T.b_isinstance T.b_str (by decide +kernel) (ev 5))) (sone (sif (tbo (tor (tnot (tval (eisi .str T.b_isinstance T.b_str (by decide +kernel) (ev 4)))) (tor1 (tc' op_ne do_ne (ev 4) (ev 5))))) (sone (sret eb)) snil)) (sone (sif (tval (eisi .dic T.b_isinstance T.b_dict (by decide +kernel) (ev 5))) snever (scons (sif (tbo (tor (tc' op_ne do_ne (eisi .tup T.b_isinstance T.b_tuple (by decide +kernel) (ev 5)) (eisi .tup T.b_isinstance T.b_tuple (by decide +kernel) (ev 4))) (tor1 (tc' op_ne do_ne (eisi .lst T.b_isinstance T.b_list (by decide +kernel) (ev 5)) (eisi .lst T.b_isinstance T.b_list (by decide +kernel) (ev 4)))))) (sone (sret eb)) snil)
  (scons (sif (tbo (tor (tbo (tand (tnot (tval (eisi .tup T.b_isinstance T.b_tuple (by decide +kernel) (ev 4)))) (tand1 (tnot (tval (eisi .lst T.b_isinstance T.b_list (by decide +kernel) (ev 4))))))) (tor1 (tc' op_ne do_ne (ecb call_len_seq dc_len T.b_len (acons (ev 4) anil)) (ecb call_len_seq dc_len T.b_len (acons (ev 5) anil)))))) (sone (sret eb)) snil)
  (sone (sfor hp (ir1 T.b_range (acons (ecb call_len_seq dc_len T.b_len (acons (ev 5) anil)) anil)) (gnm 7 sc_law_same.nd) (sone (sexpr (eapp (ev 2) (acons (etup (acons (eix (ev 4) (ev 7)) (acons (eix (ev 5) (ev 7)) anil))) anil)))))))))))))))))))
  (sone (sret eb)))), fun ds μ Q E0 hc hE => by subst hE; exact pure_law_same A ds μ Q E0 hc⟩
end K01
set_option maxHeartbeats 800000
namespace K01
open PySem L2 DL
local macro_rules | `(tactic| walk_at "w") => `(tactic| simp only [wSeq, wNext, wIf, wRet, wRetN, wDrop, wAsg, gN, wVar, wC, wOp, wUn, wNil, wCons, wCB, wTup, wLst, wLstF, wTe, tB0, wAnd, wOr, wNot, wAndV, wOrV, wNotV, wIfE, wCall, wCallG, wRaise, wFrz, fFrz, rets, fI, fI0, fAdd, fSub, fMul, fLt, fLe, fGt, fGe, fMod, fModN, fPow, fDiv, fDivG, fNeg, fEq, fNe, eqF_int, eqF_bl, eqF_str, scal_int, scal_bl, scal_str, fLen, sv, fIx, fAbs, fInt, fList, wSl, fSlL, oNo, oSo, lvr, lv, fCat, wMeL, fApp, fPop, fSetL, gSb, iLs, iTp, iR1, iR2, wFor, gTp, gCn, gNl, wPar, wBrk, wCnt, fIsi, wIsx, wLc, wYes, wip, wTr, truD, wTry, clrD, wFld, fieldsD, wSetF, wMeth, wMake, fStrI, fFmt, wJoin, wJs, wChain, fAddS, fIsN, fNotN, um_same, um_um, st0, List.map_cons, List.map_nil, List.length_cons, List.length_nil, List.getElem?_cons_zero, List.getElem?_cons_succ, List.set_cons_zero, List.set_cons_succ, List.cons_append, List.nil_append, List.replicate, atI_c0, atI_c1, atI_c2, atI_c3, atI_c4, atI_c5, atI_c6, ixN_70, ixN_71, ixN_72, ixN_73, ixN_74, ixN_75, ixN_76, Nat.reduceAdd, ite_T, ite_F, if_dec, if_ndec, if_nb, true_and, if_true, Bool.false_eq_true, if_false])
/-- the classes by their names -/
structure Nx (K : PySem.W.Frag) (mg : Str → Option Value) (A : Ad) : Prop where
  ex : ExcC K A.BadNumber
  yard : ∃ Y, mg "YardError" = some (.ref Y) ∧ PySem.W.exmOne K (.ref A.BadNumber) (.ref Y) = some true
  b_ValueError : mg "ValueError" = none
  n_ValueError : PySem.W.kitOne K (.ref A.BadNumber) (.type "ValueError") = some true
  n_BadText : ∃ Y, mg "BadText" = some (.ref Y) ∧ PySem.W.kitOne K (.ref A.BadNumber) (.ref Y) = some false
  n_BadNumber : ∃ Y, mg "BadNumber" = some (.ref Y) ∧ PySem.W.kitOne K (.ref A.BadNumber) (.ref Y) = some true
  n_BadVector : ∃ Y, mg "BadVector" = some (.ref Y) ∧ PySem.W.kitOne K (.ref A.BadNumber) (.ref Y) = some false
  n_BadSize : ∃ Y, mg "BadSize" = some (.ref Y) ∧ PySem.W.kitOne K (.ref A.BadNumber) (.ref Y) = some false
  n_BadCatalogue : ∃ Y, mg "BadCatalogue" = some (.ref Y) ∧ PySem.W.kitOne K (.ref A.BadNumber) (.ref Y) = some false
  n_BadAxis : ∃ Y, mg "BadAxis" = some (.ref Y) ∧ PySem.W.kitOne K (.ref A.BadNumber) (.ref Y) = some false
  n_BadLook : ∃ Y, mg "BadLook" = some (.ref Y) ∧ PySem.W.kitOne K (.ref A.BadNumber) (.ref Y) = some false
  n_NoTag : ∃ Y, mg "NoTag" = some (.ref Y) ∧ PySem.W.kitOne K (.ref A.BadNumber) (.ref Y) = some false
  n_DoubleTag : ∃ Y, mg "DoubleTag" = some (.ref Y) ∧ PySem.W.kitOne K (.ref A.BadNumber) (.ref Y) = some false
  n_BadBox : ∃ Y, mg "BadBox" = some (.ref Y) ∧ PySem.W.kitOne K (.ref A.BadNumber) (.ref Y) = some false
  n_BadRow : ∃ Y, mg "BadRow" = some (.ref Y) ∧ PySem.W.kitOne K (.ref A.BadNumber) (.ref Y) = some false
  n_BadStops : ∃ Y, mg "BadStops" = some (.ref Y) ∧ PySem.W.kitOne K (.ref A.BadNumber) (.ref Y) = some false
  n_BadCut : ∃ Y, mg "BadCut" = some (.ref Y) ∧ PySem.W.kitOne K (.ref A.BadNumber) (.ref Y) = some false
  n_NoDeed : ∃ Y, mg "NoDeed" = some (.ref Y) ∧ PySem.W.kitOne K (.ref A.BadNumber) (.ref Y) = some false
  n_NotPlane : ∃ Y, mg "NotPlane" = some (.ref Y) ∧ PySem.W.kitOne K (.ref A.BadNumber) (.ref Y) = some false
  n_NotLevel : ∃ Y, mg "NotLevel" = some (.ref Y) ∧ PySem.W.kitOne K (.ref A.BadNumber) (.ref Y) = some false
  n_TooFewThick : ∃ Y, mg "TooFewThick" = some (.ref Y) ∧ PySem.W.kitOne K (.ref A.BadNumber) (.ref Y) = some false
  n_TooMany : ∃ Y, mg "TooMany" = some (.ref Y) ∧ PySem.W.kitOne K (.ref A.BadNumber) (.ref Y) = some false
  n_Overlap : ∃ Y, mg "Overlap" = some (.ref Y) ∧ PySem.W.kitOne K (.ref A.BadNumber) (.ref Y) = some false
  n_Hit : ∃ Y, mg "Hit" = some (.ref Y) ∧ PySem.W.kitOne K (.ref A.BadNumber) (.ref Y) = some false
  n_Unturnable : ∃ Y, mg "Unturnable" = some (.ref Y) ∧ PySem.W.kitOne K (.ref A.BadNumber) (.ref Y) = some false
  n_TooManyLoose : ∃ Y, mg "TooManyLoose" = some (.ref Y) ∧ PySem.W.kitOne K (.ref A.BadNumber) (.ref Y) = some false
  n_Blocked : ∃ Y, mg "Blocked" = some (.ref Y) ∧ PySem.W.kitOne K (.ref A.BadNumber) (.ref Y) = some false
  n_NoRow : ∃ Y, mg "NoRow" = some (.ref Y) ∧ PySem.W.kitOne K (.ref A.BadNumber) (.ref Y) = some false
  n_Locked : ∃ Y, mg "Locked" = some (.ref Y) ∧ PySem.W.kitOne K (.ref A.BadNumber) (.ref Y) = some false
  n_NoTree : ∃ Y, mg "NoTree" = some (.ref Y) ∧ PySem.W.kitOne K (.ref A.BadNumber) (.ref Y) = some false
  n_Jammed : ∃ Y, mg "Jammed" = some (.ref Y) ∧ PySem.W.kitOne K (.ref A.BadNumber) (.ref Y) = some false
theorem Nx.cat {K : PySem.W.Frag} {mg : Str → Option Value} {A : Ad} (N : Nx K mg A) : ∀ C, C = A.BadNumber → PySem.W.exmOne K (.ref C) (.ref N.yard.choose) = some true := fun C e => by rw [e]; exact N.yard.choose_spec.2
/-! ### the names of a caught error -/
def c_law_names (A : Ad) : CtH := fun a C ds μ Q _ => C = A.BadNumber ∧ match ds with
  | [d] => d = .mut a ∧ μ a = none ∧ Q (.lst [.str "BadNumber"]) μ
  | _ => False
theorem len_law_names (A : Ad) : ∀ a C ds μ Q E, c_law_names A a C ds μ Q E → ds.length = 1 := by
  rintro a C ds μ Q E ⟨_, h⟩
  split at h
  · rfl
  · exact h.elim
theorem cls_law_names (A : Ad) : ∀ a C ds μ Q E, c_law_names A a C ds μ Q E → C = A.BadNumber := fun a C ds μ Q E h => h.1
abbrev s_law_names : Stmt := top 59
theorem sc_law_names : FnScope ["e", "rows", "pair"] ["e"] (defScope s_law_names) := ⟨rfl, rfl, rfl, by decide +kernel, rfl, by decide +kernel, by decide +kernel⟩
def w_law_names_14 (A : Ad) (pa : Addr) (E : EX) : WS := (wRet (wFrz (wLc (iLs (wVar 1)) 2 [2] (wTr (wOp fIx (wVar 2) (wC (.int (0))))) (wOp fIx (wVar 2) (wC (.int (1)))))))
def w_law_names (A : Ad) (pa : Addr) (E : EX) : WS := (wSeq (wAsg (wLstF (wCons (wTup (wCons (wIsx false pa (wVar 0)) (wCons (wC (.str "BadText")) wNil))) (wCons (wTup (wCons (wIsx true pa (wVar 0)) (wCons (wC (.str "BadNumber")) wNil))) wNil))) (gN 1))
  (wSeq (wAsg (wOp fCat (wVar 1) (wLstF (wCons (wTup (wCons (wIsx false pa (wVar 0)) (wCons (wC (.str "BadVector")) wNil))) (wCons (wTup (wCons (wIsx false pa (wVar 0)) (wCons (wC (.str "BadSize")) wNil))) wNil)))) (gN 1))
  (wSeq (wAsg (wOp fCat (wVar 1) (wLstF (wCons (wTup (wCons (wIsx false pa (wVar 0)) (wCons (wC (.str "BadCatalogue")) wNil))) (wCons (wTup (wCons (wIsx false pa (wVar 0)) (wCons (wC (.str "BadAxis")) wNil))) wNil)))) (gN 1))
  (wSeq (wAsg (wOp fCat (wVar 1) (wLstF (wCons (wTup (wCons (wIsx false pa (wVar 0)) (wCons (wC (.str "BadLook")) wNil))) (wCons (wTup (wCons (wIsx false pa (wVar 0)) (wCons (wC (.str "NoTag")) wNil))) wNil)))) (gN 1))
  (wSeq (wAsg (wOp fCat (wVar 1) (wLstF (wCons (wTup (wCons (wIsx false pa (wVar 0)) (wCons (wC (.str "DoubleTag")) wNil))) (wCons (wTup (wCons (wIsx false pa (wVar 0)) (wCons (wC (.str "BadBox")) wNil))) wNil)))) (gN 1))
  (wSeq (wAsg (wOp fCat (wVar 1) (wLstF (wCons (wTup (wCons (wIsx false pa (wVar 0)) (wCons (wC (.str "BadRow")) wNil))) (wCons (wTup (wCons (wIsx false pa (wVar 0)) (wCons (wC (.str "BadStops")) wNil))) wNil)))) (gN 1))
  (wSeq (wAsg (wOp fCat (wVar 1) (wLstF (wCons (wTup (wCons (wIsx false pa (wVar 0)) (wCons (wC (.str "BadCut")) wNil))) (wCons (wTup (wCons (wIsx false pa (wVar 0)) (wCons (wC (.str "NoDeed")) wNil))) wNil)))) (gN 1))
  (wSeq (wAsg (wOp fCat (wVar 1) (wLstF (wCons (wTup (wCons (wIsx false pa (wVar 0)) (wCons (wC (.str "NotPlane")) wNil))) (wCons (wTup (wCons (wIsx false pa (wVar 0)) (wCons (wC (.str "NotLevel")) wNil))) wNil)))) (gN 1))
  (wSeq (wAsg (wOp fCat (wVar 1) (wLstF (wCons (wTup (wCons (wIsx false pa (wVar 0)) (wCons (wC (.str "TooFewThick")) wNil))) (wCons (wTup (wCons (wIsx false pa (wVar 0)) (wCons (wC (.str "TooMany")) wNil))) wNil)))) (gN 1))
  (wSeq (wAsg (wOp fCat (wVar 1) (wLstF (wCons (wTup (wCons (wIsx false pa (wVar 0)) (wCons (wC (.str "Overlap")) wNil))) (wCons (wTup (wCons (wIsx false pa (wVar 0)) (wCons (wC (.str "Hit")) wNil))) wNil)))) (gN 1))
  (wSeq (wAsg (wOp fCat (wVar 1) (wLstF (wCons (wTup (wCons (wIsx false pa (wVar 0)) (wCons (wC (.str "Unturnable")) wNil))) (wCons (wTup (wCons (wIsx false pa (wVar 0)) (wCons (wC (.str "TooManyLoose")) wNil))) wNil)))) (gN 1))
  (wSeq (wAsg (wOp fCat (wVar 1) (wLstF (wCons (wTup (wCons (wIsx false pa (wVar 0)) (wCons (wC (.str "Blocked")) wNil))) (wCons (wTup (wCons (wIsx false pa (wVar 0)) (wCons (wC (.str "NoRow")) wNil))) wNil)))) (gN 1))
  (wSeq (wAsg (wOp fCat (wVar 1) (wLstF (wCons (wTup (wCons (wIsx false pa (wVar 0)) (wCons (wC (.str "Locked")) wNil))) (wCons (wTup (wCons (wIsx false pa (wVar 0)) (wCons (wC (.str "NoTree")) wNil))) wNil)))) (gN 1))
  (wSeq (wAsg (wOp fCat (wVar 1) (wLstF (wCons (wTup (wCons (wIsx false pa (wVar 0)) (wCons (wC (.str "Jammed")) wNil))) (wCons (wTup (wCons (wNotV (wIsx true pa (wVar 0))) (wCons (wC (.str "no ValueError")) wNil))) wNil)))) (gN 1))
  (w_law_names_14 A pa E)))))))))))))))
theorem names_end (A : Ad) (pa : Addr) (rows : List (Bool × Str)) (hl : rows.length ≤ 1000) {μ Q E} {r0 : Option D} (h : Q (.lst ((rows.filter (·.1)).map fun q => .str q.2)) μ) : w_law_names_14 A pa E (rets Q) [r0, some (.lst (rows.map fun q => .tup [.bl q.1, .str q.2])), none] μ := by
  unfold w_law_names_14
  walk_at "w"
  intro p hp
  refine ⟨fun j μ' => μ' = um μ p (.lst (((rows.take j).filter (·.1)).map fun q => .str q.2)), rfl, fun _ _ _ => trivial, ?_, ?_⟩
  · rintro j d μ' hd rfl
    rw [fixi, List.getElem?_map] at hd
    cases e : rows[j]? with
    | none => rw [e] at hd; cases hd
    | some q =>
      rw [e] at hd
      cases hd
      have tk : rows.take (j + 1) = rows.take j ++ [q] := by rw [List.take_succ, e]; rfl
      walk_at "w"
      cases c : q.1 with
      | false =>
        rw [if_neg Bool.false_ne_true, tk, List.filter_append, List.filter_cons_of_neg (by rw [c]; exact Bool.false_ne_true), List.filter_nil, List.append_nil]
      | true =>
        rw [if_pos rfl]
        refine ⟨_, rfl, ?_, ?_⟩
        · rw [List.length_map]
          have := List.length_filter_le (fun q : Bool × Str => q.1) (rows.take j)
          rw [List.length_take] at this
          omega
        · rw [tk, List.filter_append, List.filter_cons_of_pos c, List.filter_nil, List.map_append]; rfl
  · rintro μ' rfl
    rw [fixi, List.length_map, List.take_length]
    walk_at "w"
    rw [rm_um hp]
    exact dwn.of h
theorem pure_law_names (A : Ad) (pa : Addr) (ds μ Q E0) (h : c_law_names A pa A.BadNumber ds μ Q E0) : w_law_names A pa (fun C fs _ μ => dwx E0 C fs μ) (rets Q) (st0 3 ds) μ := by
  obtain ⟨_, h⟩ := h
  split at h
  · obtain ⟨rfl, hm, h⟩ := h
    unfold w_law_names
    walk_at "w"
    repeat (refine ⟨by decide, ?_⟩)
    exact names_end A pa [(false, "BadText"), (true, "BadNumber"), (false, "BadVector"), (false, "BadSize"), (false, "BadCatalogue"), (false, "BadAxis"), (false, "BadLook"), (false, "NoTag"), (false, "DoubleTag"), (false, "BadBox"), (false, "BadRow"), (false, "BadStops"), (false, "BadCut"), (false, "NoDeed"), (false, "NotPlane"), (false, "NotLevel"), (false, "TooFewThick"), (false, "TooMany"), (false, "Overlap"), (false, "Hit"), (false, "Unturnable"), (false, "TooManyLoose"), (false, "Blocked"), (false, "NoRow"), (false, "Locked"), (false, "NoTree"), (false, "Jammed"), (false, "no ValueError")] (by decide) h
  · exact h.elim
theorem okh_law_names {P : Program} {w : World} {K : PySem.W.Frag} {mg : Str → Option Value} {base : Heap} {A : Ad} (D : Dfn K mg "_law_names" "_law_names" s_law_names ["e"]) (T : Tx P base K mg A) (Nn : Nx K mg A) : DfH P w K mg base "_law_names" 1 ["e"] (c_law_names A) := by
  obtain ⟨f, fd, F, hm, hb⟩ := D
  refine ⟨f, fd, okH F sc_law_names (by decide) (len_law_names A) (fun C => C = A.BadNumber) (cls_law_names A) ?_, hm, F.kp, hb⟩
  intro X W E cdv B outer s H Ex p C hX hC hx tk hp hr
  subst hX
  subst hC
  exact ⟨_, w_law_names A p.1 E, (scons (sset (i := 1) (elstF (acons (etup (acons (eisxN hx Nn.ex T.b_isinstance Nn.n_BadText (ev 0)) (acons es' anil))) (acons (etup (acons (eisxN hx Nn.ex T.b_isinstance Nn.n_BadNumber (ev 0)) (acons es' anil))) anil))) sc_law_names.nd)
  (scons (sset (i := 1) (ecat (ev 1) (elstF (acons (etup (acons (eisxN hx Nn.ex T.b_isinstance Nn.n_BadVector (ev 0)) (acons es' anil))) (acons (etup (acons (eisxN hx Nn.ex T.b_isinstance Nn.n_BadSize (ev 0)) (acons es' anil))) anil)))) sc_law_names.nd)
  (scons (sset (i := 1) (ecat (ev 1) (elstF (acons (etup (acons (eisxN hx Nn.ex T.b_isinstance Nn.n_BadCatalogue (ev 0)) (acons es' anil))) (acons (etup (acons (eisxN hx Nn.ex T.b_isinstance Nn.n_BadAxis (ev 0)) (acons es' anil))) anil)))) sc_law_names.nd)
  (scons (sset (i := 1) (ecat (ev 1) (elstF (acons (etup (acons (eisxN hx Nn.ex T.b_isinstance Nn.n_BadLook (ev 0)) (acons es' anil))) (acons (etup (acons (eisxN hx Nn.ex T.b_isinstance Nn.n_NoTag (ev 0)) (acons es' anil))) anil)))) sc_law_names.nd)
  (scons (sset (i := 1) (ecat (ev 1) (elstF (acons (etup (acons (eisxN hx Nn.ex T.b_isinstance Nn.n_DoubleTag (ev 0)) (acons es' anil))) (acons (etup (acons (eisxN hx Nn.ex T.b_isinstance Nn.n_BadBox (ev 0)) (acons es' anil))) anil)))) sc_law_names.nd)
  (scons (sset (i := 1) (ecat (ev 1) (elstF (acons (etup (acons (eisxN hx Nn.ex T.b_isinstance Nn.n_BadRow (ev 0)) (acons es' anil))) (acons (etup (acons (eisxN hx Nn.ex T.b_isinstance Nn.n_BadStops (ev 0)) (acons es' anil))) anil)))) sc_law_names.nd)
  (scons (sset (i := 1) (ecat (ev 1) (elstF (acons (etup (acons (eisxN hx Nn.ex T.b_isinstance Nn.n_BadCut (ev 0)) (acons es' anil))) (acons (etup (acons (eisxN hx Nn.ex T.b_isinstance Nn.n_NoDeed (ev 0)) (acons es' anil))) anil)))) sc_law_names.nd)
  (scons (sset (i := 1) (ecat (ev 1) (elstF (acons (etup (acons (eisxN hx Nn.ex T.b_isinstance Nn.n_NotPlane (ev 0)) (acons es' anil))) (acons (etup (acons (eisxN hx Nn.ex T.b_isinstance Nn.n_NotLevel (ev 0)) (acons es' anil))) anil)))) sc_law_names.nd)
  (scons (sset (i := 1) (ecat (ev 1) (elstF (acons (etup (acons (eisxN hx Nn.ex T.b_isinstance Nn.n_TooFewThick (ev 0)) (acons es' anil))) (acons (etup (acons (eisxN hx Nn.ex T.b_isinstance Nn.n_TooMany (ev 0)) (acons es' anil))) anil)))) sc_law_names.nd)
  (scons (sset (i := 1) (ecat (ev 1) (elstF (acons (etup (acons (eisxN hx Nn.ex T.b_isinstance Nn.n_Overlap (ev 0)) (acons es' anil))) (acons (etup (acons (eisxN hx Nn.ex T.b_isinstance Nn.n_Hit (ev 0)) (acons es' anil))) anil)))) sc_law_names.nd)
  (scons (sset (i := 1) (ecat (ev 1) (elstF (acons (etup (acons (eisxN hx Nn.ex T.b_isinstance Nn.n_Unturnable (ev 0)) (acons es' anil))) (acons (etup (acons (eisxN hx Nn.ex T.b_isinstance Nn.n_TooManyLoose (ev 0)) (acons es' anil))) anil)))) sc_law_names.nd)
  (scons (sset (i := 1) (ecat (ev 1) (elstF (acons (etup (acons (eisxN hx Nn.ex T.b_isinstance Nn.n_Blocked (ev 0)) (acons es' anil))) (acons (etup (acons (eisxN hx Nn.ex T.b_isinstance Nn.n_NoRow (ev 0)) (acons es' anil))) anil)))) sc_law_names.nd)
  (scons (sset (i := 1) (ecat (ev 1) (elstF (acons (etup (acons (eisxN hx Nn.ex T.b_isinstance Nn.n_Locked (ev 0)) (acons es' anil))) (acons (etup (acons (eisxN hx Nn.ex T.b_isinstance Nn.n_NoTree (ev 0)) (acons es' anil))) anil)))) sc_law_names.nd)
  (scons (sset (i := 1) (ecat (ev 1) (elstF (acons (etup (acons (eisxN hx Nn.ex T.b_isinstance Nn.n_Jammed (ev 0)) (acons es' anil))) (acons (etup (acons (enot (eisxB hx Nn.ex "ValueError" T.b_isinstance Nn.b_ValueError (by decide +kernel) Nn.n_ValueError (ev 0))) (acons es' anil))) anil)))) sc_law_names.nd)
  (sone (sret (efrz (elcH hx.c sc_law_names.nd [("pair", 2)] 2 (ev 1) (fun _ _ _ _ _ => gnmP 2 sc_law_names.nd) (fun _ _ _ _ _ => ⟨_, (tsone (ttru (eix (ev 2) ei)))⟩) (fun _ _ _ _ _ => ⟨_, (eix (ev 2) ei)⟩))))))))))))))))))), fun ds μ Q E0 hc hE => by subst hE; exact pure_law_names A p.1 ds μ Q E0 hc⟩
end K01
set_option maxHeartbeats 800000
namespace K01
open PySem L2 DL PyProof.Rows
local macro_rules | `(tactic| walk_at "w") => `(tactic| simp only [wSeq, wNext, wIf, wRet, wRetN, wDrop, wAsg, gN, wVar, wC, wOp, wUn, wNil, wCons, wCB, wTup, wLst, wLstF, wTe, tB0, wAnd, wOr, wNot, wAndV, wOrV, wNotV, wIfE, wCall, wCallG, wRaise, wFrz, fFrz, rets, fI, fI0, fAdd, fSub, fMul, fLt, fLe, fGt, fGe, fMod, fModN, fPow, fDiv, fDivG, fNeg, fEq, fNe, eqF_int, eqF_bl, eqF_str, scal_int, scal_bl, scal_str, fLen, sv, fIx, fAbs, fInt, fList, wSl, fSlL, oNo, oSo, lvr, lv, fCat, wMeL, fApp, fPop, fSetL, gSb, iLs, iTp, iR1, iR2, wFor, gTp, gCn, gNl, wPar, wBrk, wCnt, fIsi, wIsx, wLc, wYes, wip, wTr, truD, wTry, clrD, wFld, fieldsD, wSetF, wMeth, wMake, fStrI, fFmt, wJoin, wJs, wChain, fAddS, fIsN, fNotN, um_same, um_um, st0, List.map_cons, List.map_nil, List.length_cons, List.length_nil, List.getElem?_cons_zero, List.getElem?_cons_succ, List.set_cons_zero, List.set_cons_succ, List.cons_append, List.nil_append, List.replicate, atI_c0, atI_c1, atI_c2, atI_c3, atI_c4, atI_c5, atI_c6, ixN_70, ixN_71, ixN_72, ixN_73, ixN_74, ixN_75, ixN_76, Nat.reduceAdd, ite_T, ite_F, if_dec, if_ndec, if_nb, true_and, if_true, Bool.false_eq_true, if_false])
/-- of one tuple of ints; E for what is no ratio -/
def cUn (A : Ad) (f : Int → Int → Mu → (D → Mu → Prop) → Prop) : Ct := fun ds μ Q E => match ds with
  | [.tup l] => ∃ ns : List Int, l = ns.map D.int ∧ if formB ns = true then ∀ a b, ns = [a, b] → 1 ≤ b → f a b μ Q else E A.BadNumber [] μ
  | _ => False
theorem un_start {A : Ad} {f} {ds : List D} {μ : Mu} {Q E0} {P : List D → Prop} (h : cUn A f ds μ Q E0)
    (hb : ∀ ns : List Int, formB ns = false → E0 A.BadNumber [] μ → P [.tup (ns.map D.int)]) (hg : ∀ a b, formB [a, b] = true → 1 ≤ b → f a b μ Q → P [.tup [.int a, .int b]]) : P ds := by
  unfold cUn at h
  split at h
  · obtain ⟨ns, rfl, h⟩ := h
    cases c : formB ns with
    | true =>
      rw [c, if_pos rfl] at h
      obtain ⟨a, b, rfl, hb1, _⟩ := formB_cases c
      exact hg a b c hb1 (h a b rfl hb1)
    | false =>
      rw [c, if_neg Bool.false_ne_true] at h
      exact hb ns c h
  · exact h.elim
theorem one_bad {A : Ad} {ns : List Int} {μ : Mu} {E0} {N : D → Mu → Prop} (c : formB ns = false) (h : E0 A.BadNumber [] μ) : c_must_be_ratio A [.tup (ns.map D.int)] μ N fun C fs μ2 => dwx E0 C fs μ2 := by
  refine ⟨ns, rfl, ?_⟩
  rw [c]
  exact dwx.of h
theorem one_good {A : Ad} {a b : Int} {μ : Mu} {E1} {N : D → Mu → Prop} (h1 : formB [a, b] = true) (h : N .non μ) : c_must_be_ratio A [.tup [.int a, .int b]] μ N E1 := by
  refine ⟨[a, b], rfl, ?_⟩
  rw [if_pos h1]
  exact h
def c_floor_of (A : Ad) : Ct := cUn A fun a b μ Q => Q (.int (a / b)) μ
def c_ceil_of (A : Ad) : Ct := cUn A fun a b μ Q => Q (.int (-((-a) / b))) μ
/-- at most 4000 digits -/
def D4 (a : Int) : Prop := a.natAbs < 10 ^ 4000
def tI (a : Int) : Str := Str.ofString (toString a)
def txt (a b : Int) : Str := if b = 1 then tI a else tI a ++ Str.ofString "/" ++ tI b
theorem D4.lt {a : Int} (h : D4 a) : a.natAbs < 10 ^ 4300 := Nat.lt_of_lt_of_le h (Nat.pow_le_pow_right (by decide) (by decide))
theorem tI_len {a : Int} (h : D4 a) : (tI a).length ≤ 4001 := by
  unfold tI
  rw [PySem.ofString_length]
  exact int_text_length_le10 (k := 4000) (by decide) h
theorem slash_len : (Str.ofString "/").length = 1 := by decide
theorem szL : sizeLine = 16777216 := sizeLine_eq
def c_text_of (A : Ad) : Ct := cUn A fun a b μ Q => (D4 a ∧ D4 b) ∧ Q (.str (txt a b)) μ
abbrev s_floor_of : Stmt := top 35
theorem sc_floor_of : FnScope ["a"] ["a"] (defScope s_floor_of) := ⟨rfl, rfl, rfl, by decide +kernel, rfl, by decide +kernel, by decide +kernel⟩
def w_floor_of (A : Ad) (E : EX) : WS := (wSeq (wDrop (wCall (c_must_be_ratio A) E (wCons (wVar 0) wNil)))
  (wRet (wOp fDivG (wOp fIx (wVar 0) (wC (.int (0)))) (wOp fIx (wVar 0) (wC (.int (1)))))))
abbrev s_ceil_of : Stmt := top 36
theorem sc_ceil_of : FnScope ["a"] ["a"] (defScope s_ceil_of) := ⟨rfl, rfl, rfl, by decide +kernel, rfl, by decide +kernel, by decide +kernel⟩
def w_ceil_of (A : Ad) (E : EX) : WS := (wSeq (wDrop (wCall (c_must_be_ratio A) E (wCons (wVar 0) wNil)))
  (wRet (wUn fNeg (wOp fDivG (wUn fNeg (wOp fIx (wVar 0) (wC (.int (0))))) (wOp fIx (wVar 0) (wC (.int (1))))))))
abbrev s_text_of : Stmt := top 40
theorem sc_text_of : FnScope ["a"] ["a"] (defScope s_text_of) := ⟨rfl, rfl, rfl, by decide +kernel, rfl, by decide +kernel, by decide +kernel⟩
def w_text_of (A : Ad) (E : EX) : WS := (wSeq (wDrop (wCall (c_must_be_ratio A) E (wCons (wVar 0) wNil)))
  (wSeq (wIf (wTe (wOp fEq (wOp fIx (wVar 0) (wC (.int (1)))) (wC (.int (1))))) (wRet (wCB fStrI (wCons (wOp fIx (wVar 0) (wC (.int (0)))) wNil))) wNext)
  (wRet (wJoin [(wUn fFmt (wOp fIx (wVar 0) (wC (.int (0))))), (wC (.str "/")), (wUn fFmt (wOp fIx (wVar 0) (wC (.int (1)))))]))))
theorem fdiv_pos {a b : Int} (h : 1 ≤ b) : a.fdiv b = a / b := Int.fdiv_eq_ediv_of_nonneg a (by omega)
theorem pure_floor_of (A : Ad) (ds μ Q E0) (h : c_floor_of A ds μ Q E0) : w_floor_of A (fun C fs _ μ => dwx E0 C fs μ) (rets Q) (st0 1 ds) μ := by
  refine un_start (P := fun ds => w_floor_of A (fun C fs _ μ => dwx E0 C fs μ) (rets Q) (st0 1 ds) μ) h (fun ns c h => ?_) (fun a b f1 h1 h => ?_)
  · unfold w_floor_of; walk_at "w"; exact one_bad c h
  · unfold w_floor_of; walk_at "w"
    exact one_good f1 ⟨by omega, by rw [fdiv_pos h1]; exact dwn.of h⟩
theorem len_floor_of (A : Ad) : ∀ ds μ Q E, c_floor_of A ds μ Q E → ds.length = 1 := by
  intro ds μ Q E h
  unfold c_floor_of at h
  first | (split at h) | (unfold cUn at h; split at h)
  all_goals first | rfl | exact h.elim
theorem ok_floor_of {P : Program} {w : World} {K : PySem.W.Frag} {mg : Str → Option Value} {base : Heap} {A : Ad} (D : Dfn K mg "floor_of" "floor_of" s_floor_of ["a"]) (T : Tx P base K mg A) (G_must_be_ratio : DfOk P w K mg base "must_be_ratio" 4 ["pair"] (c_must_be_ratio A)) : DfOk P w K mg base "floor_of" 37 ["a"] (c_floor_of A) := by
  obtain ⟨f, fd, F, hm, hb⟩ := D
  refine ⟨f, fd, okD F sc_floor_of (by decide) (len_floor_of A) ?_, hm, F.kp, hb⟩
  intro X W E cdv B outer s H Ex hX tk hp hr
  subst hX
  exact ⟨_, w_floor_of A E, (scons (sexpr (ecall2 tk G_must_be_ratio (hr.mono (by decide)) (acons (ev 0) anil)))
  (sone (sret (edivG (pyroom T.seer T.tree rfl rfl rfl (hr.mono (by decide))) (eix (ev 0) ei) (eix (ev 0) ei))))), fun ds μ Q E0 hc hE => by subst hE; exact pure_floor_of A ds μ Q E0 hc⟩
theorem pure_ceil_of (A : Ad) (ds μ Q E0) (h : c_ceil_of A ds μ Q E0) : w_ceil_of A (fun C fs _ μ => dwx E0 C fs μ) (rets Q) (st0 1 ds) μ := by
  refine un_start (P := fun ds => w_ceil_of A (fun C fs _ μ => dwx E0 C fs μ) (rets Q) (st0 1 ds) μ) h (fun ns c h => ?_) (fun a b f1 h1 h => ?_)
  · unfold w_ceil_of; walk_at "w"; exact one_bad c h
  · unfold w_ceil_of; walk_at "w"
    exact one_good f1 ⟨by omega, by rw [fdiv_pos h1]; exact dwn.of h⟩
theorem len_ceil_of (A : Ad) : ∀ ds μ Q E, c_ceil_of A ds μ Q E → ds.length = 1 := by
  intro ds μ Q E h
  unfold c_ceil_of at h
  first | (split at h) | (unfold cUn at h; split at h)
  all_goals first | rfl | exact h.elim
theorem ok_ceil_of {P : Program} {w : World} {K : PySem.W.Frag} {mg : Str → Option Value} {base : Heap} {A : Ad} (D : Dfn K mg "ceil_of" "ceil_of" s_ceil_of ["a"]) (T : Tx P base K mg A) (G_must_be_ratio : DfOk P w K mg base "must_be_ratio" 4 ["pair"] (c_must_be_ratio A)) : DfOk P w K mg base "ceil_of" 37 ["a"] (c_ceil_of A) := by
  obtain ⟨f, fd, F, hm, hb⟩ := D
  refine ⟨f, fd, okD F sc_ceil_of (by decide) (len_ceil_of A) ?_, hm, F.kp, hb⟩
  intro X W E cdv B outer s H Ex hX tk hp hr
  subst hX
  exact ⟨_, w_ceil_of A E, (scons (sexpr (ecall2 tk G_must_be_ratio (hr.mono (by decide)) (acons (ev 0) anil)))
  (sone (sret (eneg (edivG (pyroom T.seer T.tree rfl rfl rfl (hr.mono (by decide))) (eneg (eix (ev 0) ei)) (eix (ev 0) ei)))))), fun ds μ Q E0 hc hE => by subst hE; exact pure_ceil_of A ds μ Q E0 hc⟩
theorem pure_text_of (A : Ad) (ds μ Q E0) (h : c_text_of A ds μ Q E0) : w_text_of A (fun C fs _ μ => dwx E0 C fs μ) (rets Q) (st0 1 ds) μ := by
  refine un_start (P := fun ds => w_text_of A (fun C fs _ μ => dwx E0 C fs μ) (rets Q) (st0 1 ds) μ) h (fun ns c h => ?_) (fun a b f1 h1 h => ?_)
  · unfold w_text_of; walk_at "w"; exact one_bad c h
  · unfold w_text_of; walk_at "w"
    obtain ⟨⟨da, db⟩, h⟩ := h
    unfold txt at h
    have la := tI_len da
    have lb := tI_len db
    refine one_good f1 (ite2 (fun c => ?_) (fun c => ?_))
    · rw [if_pos c] at h
      exact ⟨da.lt, dwn.of h⟩
    · rw [if_neg c] at h
      refine ⟨da.lt, tI a, rfl, ?_, _, rfl, ?_, db.lt, tI b, rfl, ?_, ?_⟩
      · rw [Str.empty_append, szL]; omega
      · rw [Str.empty_append, Str.length_append, slash_len, szL]; omega
      · rw [Str.empty_append, Str.length_append, Str.length_append, slash_len, szL]; omega
      · rw [Str.empty_append]
        exact dwn.of h
theorem len_text_of (A : Ad) : ∀ ds μ Q E, c_text_of A ds μ Q E → ds.length = 1 := by
  intro ds μ Q E h
  unfold c_text_of at h
  first | (split at h) | (unfold cUn at h; split at h)
  all_goals first | rfl | exact h.elim
theorem ok_text_of {P : Program} {w : World} {K : PySem.W.Frag} {mg : Str → Option Value} {base : Heap} {A : Ad} (D : Dfn K mg "text_of" "text_of" s_text_of ["a"]) (T : Tx P base K mg A) (G_must_be_ratio : DfOk P w K mg base "must_be_ratio" 4 ["pair"] (c_must_be_ratio A)) : DfOk P w K mg base "text_of" 5 ["a"] (c_text_of A) := by
  obtain ⟨f, fd, F, hm, hb⟩ := D
  refine ⟨f, fd, okD F sc_text_of (by decide) (len_text_of A) ?_, hm, F.kp, hb⟩
  intro X W E cdv B outer s H Ex hX tk hp hr
  subst hX
  exact ⟨_, w_text_of A E, (scons (sexpr (ecall2 tk G_must_be_ratio (hr.mono (by decide)) (acons (ev 0) anil)))
  (scons (sif (tc' op_eq do_eq (eix (ev 0) ei) ei) (sone (sret (ecty (call_strI rfl T.dig) dc_strI T.b_str (acons (eix (ev 0) ei) anil)))) snil)
  (sone (sret (ejoin (DJ.cons (efmt T.dig (eix (ev 0) ei)) (DJ.cons es' (DJ.cons (efmt T.dig (eix (ev 0) ei)) DJ.nil)))))))), fun ds μ Q E0 hc hE => by subst hE; exact pure_text_of A ds μ Q E0 hc⟩
/-! ### lists of ratios -/
/-- the list that d is here, of tuples of ints -/
def RatL (μ : Mu) (d : D) (nss : List (List Int)) : Prop := lv μ d = some (nss.map fun ns => D.tup (ns.map D.int))
def c_must_be_ratios (A : Ad) : Ct := fun ds μ Q E => match ds with
  | [d] => ∃ nss, RatL μ d nss ∧ nss.length ≤ 1000 ∧ if nss ≠ [] ∧ ∀ ns ∈ nss, formB ns = true then Q .non μ else E A.BadNumber [] μ
  | _ => False
abbrev s_must_be_ratios : Stmt := top 37
theorem sc_must_be_ratios : FnScope ["many", "pair"] ["many"] (defScope s_must_be_ratios) := ⟨rfl, rfl, rfl, by decide +kernel, rfl, by decide +kernel, by decide +kernel⟩
def w_must_be_ratios_b1 (A : Ad) (E : EX) : WS := (wDrop (wCall (c_must_be_ratio A) E (wCons (wVar 1) wNil)))
def w_must_be_ratios_1 (A : Ad) (E : EX) : WS := (wFor (iLs (wVar 0)) (gN 1) (w_must_be_ratios_b1 A E))
def w_must_be_ratios (A : Ad) (E : EX) : WS := (wSeq (wIf (wTe (wOp fEq (wCB fLen (wCons (wVar 0) wNil)) (wC (.int (0))))) (wRaise A.BadNumber E) wNext)
  (w_must_be_ratios_1 A E))
theorem pure_must_be_ratios (A : Ad) (ds μ Q E0) (h : c_must_be_ratios A ds μ Q E0) : w_must_be_ratios A (fun C fs _ μ => dwx E0 C fs μ) (rets Q) (st0 2 ds) μ := by
  unfold c_must_be_ratios at h
  split at h
  · rename_i d
    obtain ⟨nss, hl, hn, h⟩ := h
    unfold w_must_be_ratios
    have el : lv μ d = some (nss.map fun ns => D.tup (ns.map D.int)) := hl
    have es : sv μ d = some (nss.map fun ns => D.tup (ns.map D.int)) := by
      cases d <;> first | exact el | cases el
    have go : (if ∀ ns ∈ nss, formB ns = true then Q .non μ else E0 A.BadNumber [] μ) → w_must_be_ratios_1 A (fun C fs x μ => dwx E0 C fs μ) (rets Q) [some d, none] μ := by
      intro h
      unfold w_must_be_ratios_1
      have step : ∀ (k : Wk), k.items = nss.map (fun ns => D.tup (ns.map D.int)) → k.ok μ → ∃ I : Nat → En → Mu → Prop, I 0 [some d, none] μ ∧ (∀ i ρ μ, I i ρ μ → k.ok μ) ∧
          (∀ i e ρ μ, k.items[i]? = some e → I i ρ μ → w_must_be_ratios_b1 A (fun C fs x μ => dwx E0 C fs μ) { nx := wk (I (i + 1)), rt := (rets Q).rt, ct := wk (I (i + 1)), bk := (rets Q).nx } (ρ.set 1 (some e)) μ) ∧ ∀ ρ μ, I k.items.length ρ μ → (rets Q).nx ρ μ := by
        intro k hk hok
        refine ⟨fun i ρ μ' => μ' = μ ∧ (∃ r, ρ = [some d, r]) ∧ ∀ ns ∈ nss.take i, formB ns = true, ⟨rfl, ⟨_, rfl⟩, fun ns hn => by rw [List.take_zero] at hn; cases hn⟩, fun i ρ μ' hI => by rw [hI.1]; exact hok, ?_, ?_⟩
        · rintro i e ρ μ' he ⟨rfl, ⟨r, rfl⟩, hI⟩
          rw [hk, List.getElem?_map] at he
          cases q : nss[i]? with
          | none => rw [q] at he; cases he
          | some ns =>
            rw [q] at he
            cases he
            unfold w_must_be_ratios_b1
            walk_at "w"
            have hm : ns ∈ nss := List.mem_of_getElem? q
            cases c : formB ns with
            | true =>
              refine ⟨ns, rfl, ?_⟩
              rw [c, if_pos rfl]
              refine wk.of ⟨rfl, ⟨_, rfl⟩, fun x hx => ?_⟩
              rw [List.take_succ, q] at hx
              rcases List.mem_append.mp hx with hx | hx
              · exact hI x hx
              · have : x = ns := by simpa using hx
                rw [this]; exact c
            | false =>
              rw [if_neg (fun z => by rw [z ns hm] at c; cases c)] at h
              exact one_bad c h
        · rintro ρ μ' ⟨rfl, ⟨r, rfl⟩, hI⟩
          rw [hk, List.length_map, List.take_length] at hI
          rw [if_pos hI] at h
          exact dwn.of h
      show iLs (wVar 0) [some d, none] μ _
      unfold iLs wVar
      simp only [List.getElem?_cons_zero]
      unfold lv at el
      split at el
      · cases el
        exact step (.fix _) rfl trivial
      · rename_i a
        split at el
        · rename_i l' em
          cases el
          exact step (.cell a _) rfl em
        · cases el
      · cases el
    walk_at "w"
    unfold sv at es
    rw [es]
    show if _ then _ else _
    rw [List.length_map]
    cases nss with
    | nil =>
      rw [if_pos (show ((([] : List (List Int)).length : Nat) : Int) = 0 from rfl)]
      rw [if_neg (fun z => z.1 rfl)] at h
      exact dwx.of h
    | cons x xs =>
      rw [if_neg (by rw [List.length_cons]; omega)]
      refine go ?_
      by_cases c : ∀ ns ∈ x :: xs, formB ns = true
      · rw [if_pos ⟨fun z => (nomatch z), c⟩] at h
        rw [if_pos c]; exact h
      · rw [if_neg (fun z => c z.2)] at h
        rw [if_neg c]; exact h
  · exact h.elim
theorem len_must_be_ratios (A : Ad) : ∀ ds μ Q E, c_must_be_ratios A ds μ Q E → ds.length = 1 := by
  intro ds μ Q E h
  unfold c_must_be_ratios at h
  first | (split at h) | (unfold cUn at h; split at h)
  all_goals first | rfl | exact h.elim
theorem ok_must_be_ratios {P : Program} {w : World} {K : PySem.W.Frag} {mg : Str → Option Value} {base : Heap} {A : Ad} (D : Dfn K mg "must_be_ratios" "must_be_ratios" s_must_be_ratios ["many"]) (T : Tx P base K mg A) (G_must_be_ratio : DfOk P w K mg base "must_be_ratio" 4 ["pair"] (c_must_be_ratio A)) : DfOk P w K mg base "must_be_ratios" 5 ["many"] (c_must_be_ratios A) := by
  obtain ⟨f, fd, F, hm, hb⟩ := D
  refine ⟨f, fd, okD F sc_must_be_ratios (by decide) (len_must_be_ratios A) ?_, hm, F.kp, hb⟩
  intro X W E cdv B outer s H Ex hX tk hp hr
  subst hX
  exact ⟨_, w_must_be_ratios A E, (scons (sif (tc' op_eq do_eq (ecb call_len_seq dc_len T.b_len (acons (ev 0) anil)) ei) (sone (sraise0 tk (pmk_own0 T.x_BadNumber))) snil)
  (sone (sfor hp (il (ev 0)) (gnm 1 sc_must_be_ratios.nd) (sone (sexpr (ecall2 tk G_must_be_ratio (hr.mono (by decide)) (acons (ev 1) anil))))))), fun ds μ Q E0 hc hE => by subst hE; exact pure_must_be_ratios A ds μ Q E0 hc⟩
end K01
set_option maxHeartbeats 800000
namespace K01
open PySem L2 DL PyProof.Rows
local macro_rules | `(tactic| walk_at "w") => `(tactic| simp only [wSeq, wNext, wIf, wRet, wRetN, wDrop, wAsg, gN, wVar, wC, wOp, wUn, wNil, wCons, wCB, wTup, wLst, wLstF, wTe, tB0, wAnd, wOr, wNot, wAndV, wOrV, wNotV, wIfE, wCall, wCallG, wRaise, wFrz, fFrz, rets, fI, fI0, fAdd, fSub, fMul, fLt, fLe, fGt, fGe, fMod, fModN, fPow, fDiv, fDivG, fNeg, fEq, fNe, eqF_int, eqF_bl, eqF_str, scal_int, scal_bl, scal_str, fLen, sv, fIx, fAbs, fInt, fList, wSl, fSlL, oNo, oSo, lvr, lv, fCat, wMeL, fApp, fPop, fSetL, gSb, iLs, iTp, iR1, iR2, wFor, gTp, gCn, gNl, wPar, wBrk, wCnt, fIsi, wIsx, wLc, wYes, wip, wTr, truD, wTry, clrD, wFld, fieldsD, wSetF, wMeth, wMake, fStrI, fFmt, wJoin, wJs, wChain, fAddS, fIsN, fNotN, um_same, um_um, st0, List.map_cons, List.map_nil, List.length_cons, List.length_nil, List.getElem?_cons_zero, List.getElem?_cons_succ, List.set_cons_zero, List.set_cons_succ, List.cons_append, List.nil_append, List.replicate, atI_c0, atI_c1, atI_c2, atI_c3, atI_c4, atI_c5, atI_c6, ixN_70, ixN_71, ixN_72, ixN_73, ixN_74, ixN_75, ixN_76, Nat.reduceAdd, ite_T, ite_F, if_dec, if_ndec, if_nb, true_and, if_true, Bool.false_eq_true, if_false])
/-- a below b, by cross products -/
def lt2 (p q : Int × Int) : Prop := p.1 * q.2 < q.1 * p.2
instance (p q : Int × Int) : Decidable (lt2 p q) := inferInstanceAs (Decidable (_ < _))
def dP (q : Int × Int) : D := .tup [.int q.1, .int q.2]
/-- the first of the least (lt2), or of the greatest -/
def leastP (r : Int × Int) (l : List (Int × Int)) : Int × Int := l.foldl (fun f p => if lt2 p f then p else f) r
def mostP (r : Int × Int) (l : List (Int × Int)) : Int × Int := l.foldl (fun f p => if lt2 f p then p else f) r
def c_least_of (A : Ad) : Ct := fun ds μ Q E => match ds with
  | [d] => ∃ nss, RatL μ d nss ∧ nss.length ≤ 1000 ∧ if nss ≠ [] ∧ ∀ ns ∈ nss, formB ns = true then ∀ r l, nss = (r :: l).map (fun q : Int × Int => [q.1, q.2]) → (∀ q ∈ r :: l, BB q.1 ∧ BB q.2) ∧ Q (dP (leastP r (r :: l))) μ else E A.BadNumber [] μ
  | _ => False
def c_greatest_of (A : Ad) : Ct := fun ds μ Q E => match ds with
  | [d] => ∃ nss, RatL μ d nss ∧ nss.length ≤ 1000 ∧ if nss ≠ [] ∧ ∀ ns ∈ nss, formB ns = true then ∀ r l, nss = (r :: l).map (fun q : Int × Int => [q.1, q.2]) → (∀ q ∈ r :: l, BB q.1 ∧ BB q.2) ∧ Q (dP (mostP r (r :: l))) μ else E A.BadNumber [] μ
  | _ => False
abbrev s_least_of : Stmt := top 38
theorem sc_least_of : FnScope ["many", "found", "pair"] ["many"] (defScope s_least_of) := ⟨rfl, rfl, rfl, by decide +kernel, rfl, by decide +kernel, by decide +kernel⟩
def w_least_of_b1 (A : Ad) (E : EX) : WS := (wIf (wTe (wOp fLt (wOp fMul (wOp fIx (wVar 2) (wC (.int (0)))) (wOp fIx (wVar 1) (wC (.int (1))))) (wOp fMul (wOp fIx (wVar 1) (wC (.int (0)))) (wOp fIx (wVar 2) (wC (.int (1))))))) (wAsg (wVar 2) (gN 1)) wNext)
def w_least_of_2 (A : Ad) (E : EX) : WS := (wSeq (wFor (iLs (wVar 0)) (gN 2) (w_least_of_b1 A E))
  (wRet (wVar 1)))
def w_least_of_1 (A : Ad) (E : EX) : WS := (wSeq (wAsg (wOp fIx (wVar 0) (wC (.int (0)))) (gN 1))
  (w_least_of_2 A E))
def w_least_of (A : Ad) (E : EX) : WS := (wSeq (wDrop (wCall (c_must_be_ratios A) E (wCons (wVar 0) wNil)))
  (w_least_of_1 A E))
abbrev s_greatest_of : Stmt := top 39
theorem sc_greatest_of : FnScope ["many", "found", "pair"] ["many"] (defScope s_greatest_of) := ⟨rfl, rfl, rfl, by decide +kernel, rfl, by decide +kernel, by decide +kernel⟩
def w_greatest_of_b1 (A : Ad) (E : EX) : WS := (wIf (wTe (wOp fLt (wOp fMul (wOp fIx (wVar 1) (wC (.int (0)))) (wOp fIx (wVar 2) (wC (.int (1))))) (wOp fMul (wOp fIx (wVar 2) (wC (.int (0)))) (wOp fIx (wVar 1) (wC (.int (1))))))) (wAsg (wVar 2) (gN 1)) wNext)
def w_greatest_of_2 (A : Ad) (E : EX) : WS := (wSeq (wFor (iLs (wVar 0)) (gN 2) (w_greatest_of_b1 A E))
  (wRet (wVar 1)))
def w_greatest_of_1 (A : Ad) (E : EX) : WS := (wSeq (wAsg (wOp fIx (wVar 0) (wC (.int (0)))) (gN 1))
  (w_greatest_of_2 A E))
def w_greatest_of (A : Ad) (E : EX) : WS := (wSeq (wDrop (wCall (c_must_be_ratios A) E (wCons (wVar 0) wNil)))
  (w_greatest_of_1 A E))
theorem pairs_of : ∀ {nss : List (List Int)}, (∀ ns ∈ nss, formB ns = true) → ∃ l : List (Int × Int), nss = l.map fun q => [q.1, q.2]
  | [], _ => ⟨[], rfl⟩
  | ns :: nss, h => by
    obtain ⟨a, b, e, _, _⟩ := formB_cases (h ns List.mem_cons_self)
    obtain ⟨l, e2⟩ := pairs_of fun x hx => h x (List.mem_cons_of_mem _ hx)
    exact ⟨(a, b) :: l, by rw [e, e2]; rfl⟩
theorem leastP_take {r : Int × Int} {l : List (Int × Int)} {i : Nat} {p : Int × Int} (h : l[i]? = some p) : leastP r (l.take (i + 1)) = if lt2 p (leastP r (l.take i)) then p else leastP r (l.take i) := by
  rw [List.take_succ, h]
  unfold leastP
  rw [Option.toList_some, List.foldl_append]
  rfl
theorem pure_least_of (A : Ad) (ds μ Q E0) (h : c_least_of A ds μ Q E0) : w_least_of A (fun C fs _ μ => dwx E0 C fs μ) (rets Q) (st0 3 ds) μ := by
  unfold c_least_of at h
  split at h
  · rename_i d
    obtain ⟨nss, hl, hn, h⟩ := h
    unfold w_least_of
    walk_at "w"
    refine ⟨nss, hl, hn, ?_⟩
    by_cases c : nss ≠ [] ∧ ∀ ns ∈ nss, formB ns = true
    · rw [if_pos c] at h ⊢
      obtain ⟨l, rfl⟩ := pairs_of c.2
      cases l with
      | nil => exact absurd rfl c.1
      | cons r l =>
        obtain ⟨hb, h⟩ := h r l rfl
        have el : lv μ d = some ((r :: l).map dP) := by rw [show lv μ d = _ from hl, List.map_map]; rfl
        have es := sv_lv el
        unfold w_least_of_1
        walk_at "w"
        unfold sv at es
        rw [es]
        walk_at "w"
        unfold w_least_of_2 wSeq
        refine for_lv el rfl (fun i ρ μ' => μ' = μ ∧ ∃ (q : Int × Int) (r2 : Option D), q ∈ r :: l ∧ q = leastP r ((r :: l).take i) ∧ ρ = [some d, some (dP q), r2]) ⟨rfl, r, none, List.mem_cons_self, rfl, rfl⟩ (fun i ρ' μ' hI => by rw [hI.1]; exact le.refl) ?_ ?_
        · rintro i e ρ' μ' he ⟨rfl, q, r2, hq, eq, rfl⟩
          rw [List.getElem?_map] at he
          cases hp : (r :: l)[i]? with
          | none => rw [hp] at he; cases he
          | some p =>
            rw [hp] at he
            obtain rfl : dP p = e := Option.some.inj he
            have hpm := List.mem_of_getElem? hp
            have bp := hb p hpm
            have bq := hb q hq
            have tk := leastP_take (r := r) hp
            rw [← eq] at tk
            unfold w_least_of_b1 dP
            walk_at "w"
            refine ⟨mok bp.1 bq.2, mok bq.1 bp.2, ite2 (fun c => ?_) (fun c => ?_)⟩
            · rw [if_pos (show lt2 p (q) from c)] at tk
              exact wk.of ⟨rfl, p, _, hpm, tk.symm, rfl⟩
            · rw [if_neg (show ¬ lt2 p (q) from c)] at tk
              exact wk.of ⟨rfl, q, _, hq, tk.symm, rfl⟩
        · rintro ρ' μ' ⟨rfl, q, r2, hq, eq, rfl⟩
          rw [List.length_map, List.take_length] at eq
          walk_at "w"
          rw [eq]
          exact dwn.of h
    · rw [if_neg c] at h ⊢
      exact dwx.of h
  · exact h.elim
theorem len_least_of (A : Ad) : ∀ ds μ Q E, c_least_of A ds μ Q E → ds.length = 1 := by
  intro ds μ Q E h
  unfold c_least_of at h
  first | (split at h) | (split at h)
  all_goals first | rfl | exact h.elim
theorem ok_least_of {P : Program} {w : World} {K : PySem.W.Frag} {mg : Str → Option Value} {base : Heap} {A : Ad} (D : Dfn K mg "least_of" "least_of" s_least_of ["many"]) (T : Tx P base K mg A) (G_must_be_ratios : DfOk P w K mg base "must_be_ratios" 5 ["many"] (c_must_be_ratios A)) : DfOk P w K mg base "least_of" 6 ["many"] (c_least_of A) := by
  obtain ⟨f, fd, F, hm, hb⟩ := D
  refine ⟨f, fd, okD F sc_least_of (by decide) (len_least_of A) ?_, hm, F.kp, hb⟩
  intro X W E cdv B outer s H Ex hX tk hp hr
  subst hX
  exact ⟨_, w_least_of A E, (scons (sexpr (ecall2 tk G_must_be_ratios (hr.mono (by decide)) (acons (ev 0) anil)))
  (scons (sset (i := 1) (eix (ev 0) ei) sc_least_of.nd)
  (scons (sfor hp (il (ev 0)) (gnm 2 sc_least_of.nd) (sone (sif (tc' op_lt do_lt (emul (eix (ev 2) ei) (eix (ev 1) ei)) (emul (eix (ev 1) ei) (eix (ev 2) ei))) (sone (sset (i := 1) (ev 2) sc_least_of.nd)) snil)))
  (sone (sret (ev 1)))))), fun ds μ Q E0 hc hE => by subst hE; exact pure_least_of A ds μ Q E0 hc⟩
theorem mostP_take {r : Int × Int} {l : List (Int × Int)} {i : Nat} {p : Int × Int} (h : l[i]? = some p) : mostP r (l.take (i + 1)) = if lt2 (mostP r (l.take i)) p then p else mostP r (l.take i) := by
  rw [List.take_succ, h]
  unfold mostP
  rw [Option.toList_some, List.foldl_append]
  rfl
theorem pure_greatest_of (A : Ad) (ds μ Q E0) (h : c_greatest_of A ds μ Q E0) : w_greatest_of A (fun C fs _ μ => dwx E0 C fs μ) (rets Q) (st0 3 ds) μ := by
  unfold c_greatest_of at h
  split at h
  · rename_i d
    obtain ⟨nss, hl, hn, h⟩ := h
    unfold w_greatest_of
    walk_at "w"
    refine ⟨nss, hl, hn, ?_⟩
    by_cases c : nss ≠ [] ∧ ∀ ns ∈ nss, formB ns = true
    · rw [if_pos c] at h ⊢
      obtain ⟨l, rfl⟩ := pairs_of c.2
      cases l with
      | nil => exact absurd rfl c.1
      | cons r l =>
        obtain ⟨hb, h⟩ := h r l rfl
        have el : lv μ d = some ((r :: l).map dP) := by rw [show lv μ d = _ from hl, List.map_map]; rfl
        have es := sv_lv el
        unfold w_greatest_of_1
        walk_at "w"
        unfold sv at es
        rw [es]
        walk_at "w"
        unfold w_greatest_of_2 wSeq
        refine for_lv el rfl (fun i ρ μ' => μ' = μ ∧ ∃ (q : Int × Int) (r2 : Option D), q ∈ r :: l ∧ q = mostP r ((r :: l).take i) ∧ ρ = [some d, some (dP q), r2]) ⟨rfl, r, none, List.mem_cons_self, rfl, rfl⟩ (fun i ρ' μ' hI => by rw [hI.1]; exact le.refl) ?_ ?_
        · rintro i e ρ' μ' he ⟨rfl, q, r2, hq, eq, rfl⟩
          rw [List.getElem?_map] at he
          cases hp : (r :: l)[i]? with
          | none => rw [hp] at he; cases he
          | some p =>
            rw [hp] at he
            obtain rfl : dP p = e := Option.some.inj he
            have hpm := List.mem_of_getElem? hp
            have bp := hb p hpm
            have bq := hb q hq
            have tk := mostP_take (r := r) hp
            rw [← eq] at tk
            unfold w_greatest_of_b1 dP
            walk_at "w"
            refine ⟨mok bq.1 bp.2, mok bp.1 bq.2, ite2 (fun c => ?_) (fun c => ?_)⟩
            · rw [if_pos (show lt2 (q) p from c)] at tk
              exact wk.of ⟨rfl, p, _, hpm, tk.symm, rfl⟩
            · rw [if_neg (show ¬ lt2 (q) p from c)] at tk
              exact wk.of ⟨rfl, q, _, hq, tk.symm, rfl⟩
        · rintro ρ' μ' ⟨rfl, q, r2, hq, eq, rfl⟩
          rw [List.length_map, List.take_length] at eq
          walk_at "w"
          rw [eq]
          exact dwn.of h
    · rw [if_neg c] at h ⊢
      exact dwx.of h
  · exact h.elim
theorem len_greatest_of (A : Ad) : ∀ ds μ Q E, c_greatest_of A ds μ Q E → ds.length = 1 := by
  intro ds μ Q E h
  unfold c_greatest_of at h
  first | (split at h) | (split at h)
  all_goals first | rfl | exact h.elim
theorem ok_greatest_of {P : Program} {w : World} {K : PySem.W.Frag} {mg : Str → Option Value} {base : Heap} {A : Ad} (D : Dfn K mg "greatest_of" "greatest_of" s_greatest_of ["many"]) (T : Tx P base K mg A) (G_must_be_ratios : DfOk P w K mg base "must_be_ratios" 5 ["many"] (c_must_be_ratios A)) : DfOk P w K mg base "greatest_of" 6 ["many"] (c_greatest_of A) := by
  obtain ⟨f, fd, F, hm, hb⟩ := D
  refine ⟨f, fd, okD F sc_greatest_of (by decide) (len_greatest_of A) ?_, hm, F.kp, hb⟩
  intro X W E cdv B outer s H Ex hX tk hp hr
  subst hX
  exact ⟨_, w_greatest_of A E, (scons (sexpr (ecall2 tk G_must_be_ratios (hr.mono (by decide)) (acons (ev 0) anil)))
  (scons (sset (i := 1) (eix (ev 0) ei) sc_greatest_of.nd)
  (scons (sfor hp (il (ev 0)) (gnm 2 sc_greatest_of.nd) (sone (sif (tc' op_lt do_lt (emul (eix (ev 1) ei) (eix (ev 2) ei)) (emul (eix (ev 2) ei) (eix (ev 1) ei))) (sone (sset (i := 1) (ev 2) sc_greatest_of.nd)) snil)))
  (sone (sret (ev 1)))))), fun ds μ Q E0 hc hE => by subst hE; exact pure_greatest_of A ds μ Q E0 hc⟩
/-! ### the form of any value -/
/-- two ints in a tuple -/
def twoI : D → Option (Int × Int)
  | .tup [.int a, .int b] => some (a, b)
  | _ => none
def isRat (d : D) : Bool := match twoI d with
  | some (a, b) => formB [a, b]
  | none => false
end K01
set_option maxHeartbeats 800000
namespace K01
open PySem L2 DL PyProof.Rows
local macro_rules | `(tactic| walk_at "w") => `(tactic| simp only [wSeq, wNext, wIf, wRet, wRetN, wDrop, wAsg, gN, wVar, wC, wOp, wUn, wNil, wCons, wCB, wTup, wLst, wLstF, wTe, tB0, wAnd, wOr, wNot, wAndV, wOrV, wNotV, wIfE, wCall, wCallG, wRaise, wFrz, fFrz, rets, fI, fI0, fAdd, fSub, fMul, fLt, fLe, fGt, fGe, fMod, fModN, fPow, fDiv, fDivG, fNeg, fEq, fNe, eqF_int, eqF_bl, eqF_str, scal_int, scal_bl, scal_str, fLen, sv, fIx, fAbs, fInt, fList, wSl, fSlL, oNo, oSo, lvr, lv, fCat, wMeL, fApp, fPop, fSetL, gSb, iLs, iTp, iR1, iR2, wFor, gTp, gCn, gNl, wPar, wBrk, wCnt, fIsi, wIsx, wLc, wYes, wip, wTr, truD, wTry, clrD, wFld, fieldsD, wSetF, wMeth, wMake, fStrI, fFmt, wJoin, wJs, wChain, fAddS, fIsN, fNotN, um_same, um_um, st0, List.map_cons, List.map_nil, List.length_cons, List.length_nil, List.getElem?_cons_zero, List.getElem?_cons_succ, List.set_cons_zero, List.set_cons_succ, List.cons_append, List.nil_append, List.replicate, atI_c0, atI_c1, atI_c2, atI_c3, atI_c4, atI_c5, atI_c6, ixN_70, ixN_71, ixN_72, ixN_73, ixN_74, ixN_75, ixN_76, Nat.reduceAdd, ite_T, ite_F, if_dec, if_ndec, if_nb, true_and, if_true, Bool.false_eq_true, if_false])
/-- a value whose kind is known, a tuple's parts too; no part is a bool -/
def okV (μ : Mu) (d : D) : Prop := (∃ t, tyD μ d = some t) ∧ ∀ l, d = .tup l → ∀ x ∈ l, (∃ t, tyD μ x = some t) ∧ ∀ b, x ≠ .bl b
def c_is_ratio (A : Ad) : Ct := fun ds μ Q _ => match ds with
  | [d] => okV μ d ∧ Q (.bl (isRat d)) μ
  | _ => False
abbrev s_is_ratio : Stmt := top 41
theorem sc_is_ratio : FnScope ["value"] ["value"] (defScope s_is_ratio) := ⟨rfl, rfl, rfl, by decide +kernel, rfl, by decide +kernel, by decide +kernel⟩
def w_is_ratio_2 (A : Ad) (E : EX) : WS := (wRet (wCall (c_has_form A) E (wCons (wVar 0) wNil)))
def w_is_ratio_1 (A : Ad) (E : EX) : WS := (wSeq (wIf (wOr (wNot (wTe (wUn (fIsi .int) (wOp fIx (wVar 0) (wC (.int (0))))))) (wNot (wTe (wUn (fIsi .int) (wOp fIx (wVar 0) (wC (.int (1)))))))) (wRet (wC (.bl false))) wNext)
  (w_is_ratio_2 A E))
def w_is_ratio (A : Ad) (E : EX) : WS := (wSeq (wIf (wOr (wNot (wTe (wUn (fIsi .tup) (wVar 0)))) (wTe (wOp fNe (wCB fLen (wCons (wVar 0) wNil)) (wC (.int (2)))))) (wRet (wC (.bl false))) wNext)
  (w_is_ratio_1 A E))
theorem isT_ty {μ : Mu} {d : D} {t : Ty} (h : tyD μ d = some t) : isB t .tup = true → ∃ l, d = .tup l := by
  intro e
  cases d with
  | tup l => exact ⟨l, rfl⟩
  | «mut» a =>
    have h : (match μ a with
      | some (.lst _) => some Ty.lst
      | some (.dK _) => some Ty.dic
      | some (.dT _) => some Ty.dic
      | _ => none) = some t := h
    split at h <;> first | (cases h; cases e) | cases h
  | _ => first | (cases h; cases e) | cases h
theorem isI_int {μ : Mu} {d : D} {t : Ty} (h : tyD μ d = some t) (nb : ∀ b, d ≠ .bl b) : isB t .int = true → ∃ i, d = .int i := by
  intro e
  cases d with
  | int i => exact ⟨i, rfl⟩
  | bl b => exact absurd rfl (nb b)
  | «mut» a =>
    have h : (match μ a with
      | some (.lst _) => some Ty.lst
      | some (.dK _) => some Ty.dic
      | some (.dT _) => some Ty.dic
      | _ => none) = some t := h
    split at h <;> first | (cases h; cases e) | cases h
  | _ => first | (cases h; cases e) | cases h
theorem pure_is_ratio (A : Ad) (ds μ Q E0) (h : c_is_ratio A ds μ Q E0) : w_is_ratio A (fun C fs _ μ => dwx E0 C fs μ) (rets Q) (st0 1 ds) μ := by
  unfold c_is_ratio at h
  split at h
  · rename_i d
    obtain ⟨⟨⟨t, ht⟩, hp⟩, h⟩ := h
    unfold w_is_ratio
    walk_at "w"
    rw [ht]
    refine ⟨by decide, ?_⟩
    show if isB t .tup = true then _ else _
    cases e : isB t .tup with
    | false =>
      rw [if_neg Bool.false_ne_true]
      have nr : isRat d = false := by
        unfold isRat twoI
        split
        · rename_i a b e2
          split at e2
          · cases ht; cases e
          · cases e2
        · rfl
      rw [nr] at h
      exact dwn.of h
    | true =>
      rw [if_pos rfl]
      obtain ⟨l, rfl⟩ := isT_ty ht e
      show if _ then _ else _
      by_cases hl : l.length = 2
      · rw [if_pos (by omega)]
        obtain ⟨x, y, rfl⟩ : ∃ x y, l = [x, y] := by
          match l, hl with
          | [x, y], _ => exact ⟨x, y, rfl⟩
        obtain ⟨⟨tx, htx⟩, nx⟩ := hp _ rfl x (by simp)
        obtain ⟨⟨ty, hty⟩, ny⟩ := hp _ rfl y (by simp)
        have no : ((∃ i j, x = .int i ∧ y = .int j) → False) → Q (.bl false) μ := fun z => by
          have nr : isRat (.tup [x, y]) = false := by
            unfold isRat twoI
            split
            · rename_i a b e2
              split at e2
              · rename_i a2 b2 e3
                cases e3
                exact (z ⟨_, _, rfl, rfl⟩).elim
              · cases e2
            · rfl
          rw [nr] at h
          exact h
        have r2 : ∀ i j, x = .int i → y = .int j → w_is_ratio_2 A (fun C fs x μ => dwx E0 C fs μ) (rets Q) [some (.tup [x, y])] μ := by
          rintro i j rfl rfl
          unfold w_is_ratio_2
          walk_at "w"
          exact ⟨[i, j], rfl, dwn.of h⟩
        unfold w_is_ratio_1
        walk_at "w"
        rw [htx]
        refine ⟨by decide, ?_⟩
        show if isB tx .int = true then _ else _
        cases ex : isB tx .int with
        | false =>
          rw [if_neg Bool.false_ne_true]
          refine dwn.of (no ?_)
          rintro ⟨i, j, rfl, rfl⟩
          cases htx; cases ex
        | true =>
          rw [if_pos rfl]
          obtain ⟨i, ei⟩ := isI_int htx nx ex
          rw [hty]
          refine ⟨by decide, ?_⟩
          show if isB ty .int = true then _ else _
          cases ey : isB ty .int with
          | false =>
            rw [if_neg Bool.false_ne_true]
            refine dwn.of (no ?_)
            rintro ⟨i, j, rfl, rfl⟩
            cases hty; cases ey
          | true =>
            rw [if_pos rfl]
            obtain ⟨j, ej⟩ := isI_int hty ny ey
            exact r2 i j ei ej
      · rw [if_neg (by omega)]
        have nr : isRat (.tup l) = false := by
          unfold isRat twoI
          split
          · rename_i a b e2
            split at e2
            · rename_i a2 b2 e3
              cases e3
              exact absurd rfl hl
            · cases e2
          · rfl
        rw [nr] at h
        exact dwn.of h
  · exact h.elim
theorem len_is_ratio (A : Ad) : ∀ ds μ Q E, c_is_ratio A ds μ Q E → ds.length = 1 := by
  intro ds μ Q E h
  unfold c_is_ratio at h
  first | (split at h) | (split at h)
  all_goals first | rfl | exact h.elim
theorem ok_is_ratio {P : Program} {w : World} {K : PySem.W.Frag} {mg : Str → Option Value} {base : Heap} {A : Ad} (D : Dfn K mg "is_ratio" "is_ratio" s_is_ratio ["value"]) (T : Tx P base K mg A) (G_has_form : DfOk P w K mg base "has_form" 2 ["pair"] (c_has_form A)) : DfOk P w K mg base "is_ratio" 3 ["value"] (c_is_ratio A) := by
  obtain ⟨f, fd, F, hm, hb⟩ := D
  refine ⟨f, fd, okD F sc_is_ratio (by decide) (len_is_ratio A) ?_, hm, F.kp, hb⟩
  intro X W E cdv B outer s H Ex hX tk hp hr
  subst hX
  exact ⟨_, w_is_ratio A E, (scons (sif (tbo (tor (tnot (tval (eisi .tup T.b_isinstance T.b_tuple (by decide +kernel) (ev 0)))) (tor1 (tc' op_ne do_ne (ecb call_len_seq dc_len T.b_len (acons (ev 0) anil)) ei)))) (sone (sret eb)) snil)
  (scons (sif (tbo (tor (tnot (tval (eisi .int T.b_isinstance T.b_int (by decide +kernel) (eix (ev 0) ei)))) (tor1 (tnot (tval (eisi .int T.b_isinstance T.b_int (by decide +kernel) (eix (ev 0) ei))))))) (sone (sret eb)) snil)
  (sone (sret (ecall2 tk G_has_form (hr.mono (by decide)) (acons (ev 0) anil)))))), fun ds μ Q E0 hc hE => by subst hE; exact pure_is_ratio A ds μ Q E0 hc⟩
end K01
set_option maxHeartbeats 800000
namespace K01
open PySem L2 DL PyProof.Rows
local macro_rules | `(tactic| walk_at "w") => `(tactic| simp only [wSeq, wNext, wIf, wRet, wRetN, wDrop, wAsg, gN, wVar, wC, wOp, wUn, wNil, wCons, wCB, wTup, wLst, wLstF, wTe, tB0, wAnd, wOr, wNot, wAndV, wOrV, wNotV, wIfE, wCall, wCallG, wRaise, wFrz, fFrz, rets, fI, fI0, fAdd, fSub, fMul, fLt, fLe, fGt, fGe, fMod, fModN, fPow, fDiv, fDivG, fNeg, fEq, fNe, eqF_int, eqF_bl, eqF_str, scal_int, scal_bl, scal_str, fLen, sv, fIx, fAbs, fInt, fList, wSl, fSlL, oNo, oSo, lvr, lv, fCat, wMeL, fApp, fPop, fSetL, gSb, iLs, iTp, iR1, iR2, wFor, gTp, gCn, gNl, wPar, wBrk, wCnt, fIsi, wIsx, wLc, wYes, wip, wTr, truD, wTry, clrD, wFld, fieldsD, wSetF, wMeth, wMake, fStrI, fFmt, wJoin, wJs, wChain, fAddS, fIsN, fNotN, um_same, um_um, st0, List.map_cons, List.map_nil, List.length_cons, List.length_nil, List.getElem?_cons_zero, List.getElem?_cons_succ, List.set_cons_zero, List.set_cons_succ, List.cons_append, List.nil_append, List.replicate, atI_c0, atI_c1, atI_c2, atI_c3, atI_c4, atI_c5, atI_c6, ixN_70, ixN_71, ixN_72, ixN_73, ixN_74, ixN_75, ixN_76, Nat.reduceAdd, Int.reduceToNat, Int.reducePow, ite_T, ite_F, if_dec, if_ndec, if_nb, true_and, if_true, Bool.false_eq_true, if_false])
def c_law_low (A : Ad) : Ct := fun ds μ Q _ => match ds with
  | [.int a, .int b] => b ≠ 0 ∧ Bd 13000 b ∧ ∀ n m, isR a b n m → Q (.tup [.int n, .int m]) μ
  | _ => False
abbrev s_law_low : Stmt := top 50
theorem sc_law_low : FnScope ["top", "bottom", "by"] ["top", "bottom"] (defScope s_law_low) := ⟨rfl, rfl, rfl, by decide +kernel, rfl, by decide +kernel, by decide +kernel⟩
def w_law_low (A : Ad) (E : EX) : WS := (wSeq (wIf (wTe (wOp fEq (wVar 1) (wC (.int (0))))) (wRet (wTup (wCons (wC (.int (0))) (wCons (wC (.int (0))) wNil)))) wNext)
  (wSeq (wAsg (wCall (c_law_gcd A) E (wCons (wVar 0) (wCons (wVar 1) wNil))) (gN 2))
  (wSeq (wIf (wTe (wOp fLt (wVar 1) (wC (.int (0))))) (wAsg (wOp fSub (wC (.int (0))) (wVar 2)) (gN 2)) wNext)
  (wRet (wTup (wCons (wOp fDivG (wVar 0) (wVar 2)) (wCons (wOp fDivG (wVar 1) (wVar 2)) wNil)))))))
theorem pure_law_low (A : Ad) (ds μ Q E0) (h : c_law_low A ds μ Q E0) : w_law_low A (fun C fs _ μ => dwx E0 C fs μ) (rets Q) (st0 3 ds) μ := by
  unfold c_law_low at h
  split at h
  · rename_i a b
    obtain ⟨hb, hbd, h⟩ := h
    unfold w_law_low
    walk_at "w"
    refine ite2 (fun z => absurd z hb) (fun _ => ⟨hbd.mono (by decide), ?_⟩)
    walk_at "w"
    refine ite2 (fun c => ?_) (fun c => ?_)
    · obtain ⟨p0, h1, h2, h3, h4, h5⟩ := lowest_law (a := a) (p := 0 - (Int.gcd a b : Nat)) hb (.inr ⟨by omega, c⟩)
      exact ⟨p0, p0, by decide, dwn.of (h _ _ ⟨h1, h2, h3, h4, h5⟩)⟩
    · obtain ⟨p0, h1, h2, h3, h4, h5⟩ := lowest_law (a := a) hb (.inl ⟨rfl, by omega⟩)
      exact ⟨p0, p0, by decide, dwn.of (h _ _ ⟨h1, h2, h3, h4, h5⟩)⟩
  · exact h.elim
theorem len_law_low (A : Ad) : ∀ ds μ Q E, c_law_low A ds μ Q E → ds.length = 2 := by
  intro ds μ Q E h
  unfold c_law_low at h
  first | (split at h) | (split at h)
  all_goals first | rfl | exact h.elim
theorem ok_law_low {P : Program} {w : World} {K : PySem.W.Frag} {mg : Str → Option Value} {base : Heap} {A : Ad} (D : Dfn K mg "_law_low" "_law_low" s_law_low ["top", "bottom"]) (T : Tx P base K mg A) (G_law_gcd : DfOk P w K mg base "_law_gcd" 1 ["one", "two"] (c_law_gcd A)) : DfOk P w K mg base "_law_low" 37 ["top", "bottom"] (c_law_low A) := by
  obtain ⟨f, fd, F, hm, hb⟩ := D
  refine ⟨f, fd, okD F sc_law_low (by decide) (len_law_low A) ?_, hm, F.kp, hb⟩
  intro X W E cdv B outer s H Ex hX tk hp hr
  subst hX
  exact ⟨_, w_law_low A E, (scons (sif (tc' op_eq do_eq (ev 1) ei) (sone (sret (etup (acons ei (acons ei anil))))) snil)
  (scons (sset (i := 2) (ecall2 tk G_law_gcd (hr.mono (by decide)) (acons (ev 0) (acons (ev 1) anil))) sc_law_low.nd)
  (scons (sif (tc' op_lt do_lt (ev 1) ei) (sone (sset (i := 2) (esub ei (ev 2)) sc_law_low.nd)) snil)
  (sone (sret (etup (acons (edivG (pyroom T.seer T.tree rfl rfl rfl (hr.mono (by decide))) (ev 0) (ev 2)) (acons (edivG (pyroom T.seer T.tree rfl rfl rfl (hr.mono (by decide))) (ev 1) (ev 2)) anil)))))))), fun ds μ Q E0 hc hE => by subst hE; exact pure_law_low A ds μ Q E0 hc⟩
def c_law_below (A : Ad) : Ct := fun ds μ Q _ => match ds with
  | [.tup [.int a, .int b], .tup [.int c, .int d]] => (BB a ∧ BB b ∧ BB c ∧ BB d) ∧ Q (.bl (decide (a * d < c * b))) μ
  | _ => False
abbrev s_law_below : Stmt := top 51
theorem sc_law_below : FnScope ["a", "b"] ["a", "b"] (defScope s_law_below) := ⟨rfl, rfl, rfl, by decide +kernel, rfl, by decide +kernel, by decide +kernel⟩
def w_law_below (A : Ad) (E : EX) : WS := (wRet (wOp fLt (wOp fMul (wOp fIx (wVar 0) (wC (.int (0)))) (wOp fIx (wVar 1) (wC (.int (1))))) (wOp fMul (wOp fIx (wVar 1) (wC (.int (0)))) (wOp fIx (wVar 0) (wC (.int (1)))))))
theorem pure_law_below (A : Ad) (ds μ Q E0) (h : c_law_below A ds μ Q E0) : w_law_below A (fun C fs _ μ => dwx E0 C fs μ) (rets Q) (st0 2 ds) μ := by
  unfold c_law_below at h
  split at h
  · rename_i a b c d
    obtain ⟨⟨ha, hb, hc, hd⟩, h⟩ := h
    unfold w_law_below
    walk_at "w"
    exact ⟨mok ha hd, mok hc hb, dwn.of h⟩
  · exact h.elim
theorem len_law_below (A : Ad) : ∀ ds μ Q E, c_law_below A ds μ Q E → ds.length = 2 := by
  intro ds μ Q E h
  unfold c_law_below at h
  first | (split at h) | (split at h)
  all_goals first | rfl | exact h.elim
theorem ok_law_below {P : Program} {w : World} {K : PySem.W.Frag} {mg : Str → Option Value} {base : Heap} {A : Ad} (D : Dfn K mg "_law_below" "_law_below" s_law_below ["a", "b"]) (T : Tx P base K mg A)  : DfOk P w K mg base "_law_below" 1 ["a", "b"] (c_law_below A) := by
  obtain ⟨f, fd, F, hm, hb⟩ := D
  refine ⟨f, fd, okD F sc_law_below (by decide) (len_law_below A) ?_, hm, F.kp, hb⟩
  intro X W E cdv B outer s H Ex hX tk hp hr
  subst hX
  exact ⟨_, w_law_below A E, (sone (sret (ec op_lt do_lt (emul (eix (ev 0) ei) (eix (ev 1) ei)) (emul (eix (ev 1) ei) (eix (ev 0) ei))))), fun ds μ Q E0 hc hE => by subst hE; exact pure_law_below A ds μ Q E0 hc⟩
/-- a good ratio of parts of at most 61 digits -/
def Rat61 (n m : Int) : Prop := formB [n, m] = true ∧ D61 n ∧ D61 m
theorem form_of {n m : Int} (h : 1 ≤ m) (g : Int.gcd n m = 1) : formB [n, m] = true := by
  show (decide (1 ≤ m) && decide (Int.gcd n m = 1)) = true
  rw [decide_eq_true h, decide_eq_true g]; rfl
theorem rat_of {a b n m : Int} (h : isR a b n m) (ha : D61 a) (hb : D61 b) : Rat61 n m := by
  obtain ⟨h1, h2, h3, h4, h5⟩ := h
  refine ⟨form_of h1 h2, ?_, ?_⟩ <;> (unfold D61 at *; omega)
theorem D61.bd {x : Int} (h : D61 x) : Bd 204 x := by
  obtain ⟨h1, h2⟩ := h
  refine Nat.lt_of_lt_of_le (show x.natAbs < 10 ^ 61 by omega) (by decide)
def c_law_ratio (A : Ad) : Ct := fun ds μ Q _ => match ds with
  | [.mut p] => ∃ st, μ p = some (.lst st) ∧ StOk st ∧ ∀ (n m : Int) (st' : List D), Rat61 n m → StOk st' → Q (.tup [.int n, .int m]) (um μ p (.lst st'))
  | _ => False
abbrev s_law_ratio : Stmt := top 52
theorem sc_law_ratio : FnScope ["store", "way"] ["store"] (defScope s_law_ratio) := ⟨rfl, rfl, rfl, by decide +kernel, rfl, by decide +kernel, by decide +kernel⟩
def w_law_ratio_4 (A : Ad) (E : EX) : WS := (wRet (wCall (c_law_low A) E (wCons (wOp fSub (wCall (c_law_take A) E (wCons (wVar 0) (wCons (wC (.int (61))) wNil))) (wC (.int (30)))) (wCons (wOp fAdd (wC (.int (1))) (wCall (c_law_take A) E (wCons (wVar 0) (wCons (wC (.int (12))) wNil)))) wNil))))
def w_law_ratio_3 (A : Ad) (E : EX) : WS := (wSeq (wIf (wTe (wOp fEq (wVar 1) (wC (.int (3))))) (wRet (wTup (wCons (wOp fSub (wCall (c_law_take A) E (wCons (wVar 0) (wCons (wC (.int (19))) wNil))) (wC (.int (9)))) (wCons (wC (.int (1))) wNil)))) wNext)
  (w_law_ratio_4 A E))
def w_law_ratio_2 (A : Ad) (E : EX) : WS := (wSeq (wIf (wTe (wOp fEq (wVar 1) (wC (.int (2))))) (wRet (wCall (c_law_low A) E (wCons (wCall (c_law_whole A) E (wCons (wVar 0) wNil)) (wCons (wOp fAdd (wC (.int (1))) (wCall (c_law_take A) E (wCons (wVar 0) (wCons (wOp fPow (wC (.int (10))) (wC (.int (60)))) wNil)))) wNil)))) wNext)
  (w_law_ratio_3 A E))
def w_law_ratio (A : Ad) (E : EX) : WS := (wSeq (wAsg (wCall (c_law_take A) E (wCons (wVar 0) (wCons (wC (.int (8))) wNil))) (gN 1))
  (wSeq (wIf (wTe (wOp fLt (wVar 1) (wC (.int (2))))) (wRet (wCall (c_law_pick A) E (wCons (wVar 0) (wCons (wLstF (wCons (wTup (wCons (wC (.int (0))) (wCons (wC (.int (1))) wNil))) (wCons (wTup (wCons (wC (.int (1))) (wCons (wC (.int (1))) wNil))) (wCons (wTup (wCons (wUn fNeg (wC (.int (1)))) (wCons (wC (.int (1))) wNil))) (wCons (wTup (wCons (wC (.int (1))) (wCons (wC (.int (2))) wNil))) (wCons (wTup (wCons (wUn fNeg (wC (.int (1)))) (wCons (wC (.int (2))) wNil))) (wCons (wTup (wCons (wC (.int (2))) (wCons (wC (.int (1))) wNil))) (wCons (wTup (wCons (wC (.int (3))) (wCons (wC (.int (2))) wNil))) wNil)))))))) wNil)))) wNext)
  (w_law_ratio_2 A E)))
theorem pure_law_ratio (A : Ad) (ds μ Q E0) (h : c_law_ratio A ds μ Q E0) : w_law_ratio A (fun C fs _ μ => dwx E0 C fs μ) (rets Q) (st0 2 ds) μ := by
  unfold c_law_ratio at h
  split at h
  · rename_i p
    obtain ⟨st, hp, hst, h⟩ := h
    unfold w_law_ratio
    walk_at "w"
    refine ⟨st, hp, hst, bd_small (n := 2990) (by decide) (by decide), fun k st1 hs1 k0 k1 _ => ?_⟩
    walk_at "w"
    have fin : ∀ n m st', Rat61 n m → StOk st' → dwn Q (.tup [.int n, .int m]) (um μ p (.lst st')) := fun n m st' hr hs => dwn.of (h n m st' hr hs)
    refine ite2 (fun _ => ?_) (fun _ => ?_)
    · refine ⟨by decide, by decide, by decide, by decide, by decide, by decide, by decide, by decide, st1, um_same, hs1, by decide, by decide, fun d st2 hd hs2 => ?_⟩
      have : ∃ n m : Int, d = .tup [.int n, .int m] ∧ Rat61 n m := by
        simp only [List.mem_cons, List.not_mem_nil, or_false] at hd
        unfold Rat61 D61
        rcases hd with rfl | rfl | rfl | rfl | rfl | rfl | rfl <;> exact ⟨_, _, rfl, by decide, by decide, by decide⟩
      obtain ⟨n, m, rfl, hr⟩ := this
      rw [um_um]
      exact fin n m st2 hr hs2
    · unfold w_law_ratio_2
      walk_at "w"
      have low : ∀ (a b : Int) (st' : List D) E, 1 ≤ b → D61 a → D61 b → StOk st' → c_law_low A [.int a, .int b] (um μ p (.lst st')) (fun d μ => dwn Q d μ) E := fun a b st' E hb ha hb2 hs => ⟨by omega, hb2.bd.mono (by decide), fun n m hr => fin n m st' (rat_of hr ha hb2) hs⟩
      refine ite2 (fun _ => ?_) (fun _ => ?_)
      · refine ⟨st1, um_same, hs1, fun a st2 ha hs2 => ?_⟩
        walk_at "w"
        refine ⟨pw (by decide), st2, um_same, hs2, bd_le (n := 2750) (by decide), fun e st3 hs3 e0 e1 _ => ?_⟩
        walk_at "w"
        have e1 := e1 (by decide)
        exact low a (1 + e) st3 _ (by omega) ha (by unfold D61; omega) hs3
      · unfold w_law_ratio_3
        walk_at "w"
        refine ite2 (fun _ => ?_) (fun _ => ?_)
        · refine ⟨st1, um_same, hs1, bd_small (n := 2990) (by decide) (by decide), fun e st2 hs2 e0 e1 _ => ?_⟩
          walk_at "w"
          have e1 := e1 (by decide)
          exact ⟨by decide, fin _ _ st2 ⟨form_of (by decide) (by rw [Int.gcd_one]), by unfold D61; omega, by unfold D61; decide⟩ hs2⟩
        · unfold w_law_ratio_4
          walk_at "w"
          refine ⟨st1, um_same, hs1, bd_small (n := 2990) (by decide) (by decide), fun a st2 hs2 a0 a1 _ => ?_⟩
          walk_at "w"
          have a1 := a1 (by decide)
          refine ⟨st2, um_same, hs2, bd_small (n := 2990) (by decide) (by decide), fun e st3 hs3 e0 e1 _ => ?_⟩
          walk_at "w"
          have e1 := e1 (by decide)
          exact low _ (1 + e) st3 _ (by omega) (by unfold D61; omega) (by unfold D61; omega) hs3
  · exact h.elim
theorem len_law_ratio (A : Ad) : ∀ ds μ Q E, c_law_ratio A ds μ Q E → ds.length = 1 := by
  intro ds μ Q E h
  unfold c_law_ratio at h
  first | (split at h) | (split at h)
  all_goals first | rfl | exact h.elim
theorem ok_law_ratio {P : Program} {w : World} {K : PySem.W.Frag} {mg : Str → Option Value} {base : Heap} {A : Ad} (D : Dfn K mg "_law_ratio" "_law_ratio" s_law_ratio ["store"]) (T : Tx P base K mg A) (G_law_low : DfOk P w K mg base "_law_low" 37 ["top", "bottom"] (c_law_low A)) (G_law_take : DfOk P w K mg base "_law_take" 2 ["store", "many"] (c_law_take A)) (G_law_whole : DfOk P w K mg base "_law_whole" 4 ["store"] (c_law_whole A)) (G_law_pick : DfOk P w K mg base "_law_pick" 3 ["store", "things"] (c_law_pick A)) : DfOk P w K mg base "_law_ratio" 38 ["store"] (c_law_ratio A) := by
  obtain ⟨f, fd, F, hm, hb⟩ := D
  refine ⟨f, fd, okD F sc_law_ratio (by decide) (len_law_ratio A) ?_, hm, F.kp, hb⟩
  intro X W E cdv B outer s H Ex hX tk hp hr
  subst hX
  exact ⟨_, w_law_ratio A E, (scons (sset (i := 1) (ecall2 tk G_law_take (hr.mono (by decide)) (acons (ev 0) (acons ei anil))) sc_law_ratio.nd)
  (scons (sif (tc' op_lt do_lt (ev 1) ei) (sone (sret (ecall2 tk G_law_pick (hr.mono (by decide)) (acons (ev 0) (acons (elstF (acons (etup (acons ei (acons ei anil))) (acons (etup (acons ei (acons ei anil))) (acons (etup (acons (eneg ei) (acons ei anil))) (acons (etup (acons ei (acons ei anil))) (acons (etup (acons (eneg ei) (acons ei anil))) (acons (etup (acons ei (acons ei anil))) (acons (etup (acons ei (acons ei anil))) anil)))))))) anil))))) snil)
  (scons (sif (tc' op_eq do_eq (ev 1) ei) (sone (sret (ecall2 tk G_law_low (hr.mono (by decide)) (acons (ecall2 tk G_law_whole (hr.mono (by decide)) (acons (ev 0) anil)) (acons (eadd ei (ecall2 tk G_law_take (hr.mono (by decide)) (acons (ev 0) (acons (epow ei ei) anil)))) anil))))) snil)
  (scons (sif (tc' op_eq do_eq (ev 1) ei) (sone (sret (etup (acons (esub (ecall2 tk G_law_take (hr.mono (by decide)) (acons (ev 0) (acons ei anil))) ei) (acons ei anil))))) snil)
  (sone (sret (ecall2 tk G_law_low (hr.mono (by decide)) (acons (esub (ecall2 tk G_law_take (hr.mono (by decide)) (acons (ev 0) (acons ei anil))) ei) (acons (eadd ei (ecall2 tk G_law_take (hr.mono (by decide)) (acons (ev 0) (acons ei anil)))) anil))))))))), fun ds μ Q E0 hc hE => by subst hE; exact pure_law_ratio A ds μ Q E0 hc⟩
end K01
set_option maxHeartbeats 800000
namespace K01
open PySem L2 DL PyProof.Rows
local macro_rules | `(tactic| walk_at "w") => `(tactic| simp only [wSeq, wNext, wIf, wRet, wRetN, wDrop, wAsg, gN, wVar, wC, wOp, wUn, wNil, wCons, wCB, wTup, wLst, wLstF, wTe, tB0, wAnd, wOr, wNot, wAndV, wOrV, wNotV, wIfE, wCall, wCallG, wRaise, wFrz, fFrz, rets, fI, fI0, fAdd, fSub, fMul, fLt, fLe, fGt, fGe, fMod, fModN, fPow, fDiv, fDivG, fNeg, fEq, fNe, eqF_int, eqF_bl, eqF_str, scal_int, scal_bl, scal_str, fLen, sv, fIx, fAbs, fInt, fList, wSl, fSlL, oNo, oSo, lvr, lv, fCat, wMeL, fApp, fPop, fSetL, gSb, iLs, iTp, iR1, iR2, wFor, gTp, gCn, gNl, wPar, wBrk, wCnt, fIsi, wIsx, wLc, wYes, wip, wTr, truD, wTry, clrD, wFld, fieldsD, wSetF, wMeth, wMake, fStrI, fFmt, wJoin, wJs, wChain, fAddS, fIsN, fNotN, um_same, um_um, st0, List.map_cons, List.map_nil, List.length_cons, List.length_nil, List.getElem?_cons_zero, List.getElem?_cons_succ, List.set_cons_zero, List.set_cons_succ, List.cons_append, List.nil_append, List.replicate, atI_c0, atI_c1, atI_c2, atI_c3, atI_c4, atI_c5, atI_c6, ixN_70, ixN_71, ixN_72, ixN_73, ixN_74, ixN_75, ixN_76, Nat.reduceAdd, Int.reduceToNat, Int.reducePow, ite_T, ite_F, if_dec, if_ndec, if_nb, true_and, if_true, Bool.false_eq_true, if_false])
def c_law_bad_ratio (A : Ad) : Ct := fun ds μ Q _ => match ds with
  | [.mut p] => ∃ st, μ p = some (.lst st) ∧ StOk st ∧ ∀ (ns : List Int) (st' : List D), formB ns = false → (∀ n ∈ ns, D61 n) → StOk st' → Q (.tup (ns.map D.int)) (um μ p (.lst st'))
  | _ => False
abbrev s_law_bad_ratio : Stmt := top 53
theorem sc_law_bad_ratio : FnScope ["store", "good", "way", "times_two"] ["store"] (defScope s_law_bad_ratio) := ⟨rfl, rfl, rfl, by decide +kernel, rfl, by decide +kernel, by decide +kernel⟩
def w_law_bad_ratio_4 (A : Ad) (E : EX) : WS := (wSeq (wIf (wTe (wOp fLt (wVar 2) (wC (.int (2))))) (wRet (wTup (wCons (wOp fMul (wOp fIx (wVar 1) (wC (.int (0)))) (wVar 3)) (wCons (wOp fMul (wOp fIx (wVar 1) (wC (.int (1)))) (wVar 3)) wNil)))) wNext)
  (wSeq (wIf (wTe (wOp fEq (wVar 2) (wC (.int (2))))) (wRet (wTup (wCons (wOp fIx (wVar 1) (wC (.int (0)))) (wCons (wC (.int (0))) wNil)))) wNext)
  (wSeq (wIf (wTe (wOp fEq (wVar 2) (wC (.int (3))))) (wRet (wTup (wCons (wOp fSub (wC (.int (0))) (wOp fIx (wVar 1) (wC (.int (0))))) (wCons (wOp fSub (wC (.int (0))) (wOp fIx (wVar 1) (wC (.int (1))))) wNil)))) wNext)
  (wSeq (wIf (wTe (wOp fEq (wVar 2) (wC (.int (4))))) (wRet (wTup (wCons (wC (.int (0))) (wCons (wVar 3) wNil)))) wNext)
  (wSeq (wIf (wTe (wOp fEq (wVar 2) (wC (.int (5))))) (wRet (wTup (wCons (wOp fIx (wVar 1) (wC (.int (0)))) wNil))) wNext)
  (wSeq (wIf (wTe (wOp fEq (wVar 2) (wC (.int (6))))) (wRet (wTup (wCons (wOp fIx (wVar 1) (wC (.int (0)))) (wCons (wOp fIx (wVar 1) (wC (.int (1)))) (wCons (wC (.int (1))) wNil))))) wNext)
  (wRet (wTup wNil))))))))
def w_law_bad_ratio_2 (A : Ad) (E : EX) : WS := (wSeq (wAsg (wCall (c_law_take A) E (wCons (wVar 0) (wCons (wC (.int (8))) wNil))) (gN 2))
  (wSeq (wAsg (wOp fAdd (wC (.int (2))) (wCall (c_law_take A) E (wCons (wVar 0) (wCons (wC (.int (3))) wNil)))) (gN 3))
  (w_law_bad_ratio_4 A E)))
def w_law_bad_ratio (A : Ad) (E : EX) : WS := (wSeq (wAsg (wTup (wCons (wOp fSub (wCall (c_law_take A) E (wCons (wVar 0) (wCons (wC (.int (41))) wNil))) (wC (.int (20)))) (wCons (wOp fAdd (wC (.int (1))) (wCall (c_law_take A) E (wCons (wVar 0) (wCons (wC (.int (9))) wNil)))) wNil))) (gN 1))
  (wSeq (wAsg (wCall (c_law_low A) E (wCons (wOp fIx (wVar 1) (wC (.int (0)))) (wCons (wOp fIx (wVar 1) (wC (.int (1)))) wNil))) (gN 1))
  (w_law_bad_ratio_2 A E)))
theorem nof {x y : Int} (c : ¬ (1 ≤ y ∧ Int.gcd x y = 1)) : formB [x, y] = false := by
  show (decide (1 ≤ y) && decide (Int.gcd x y = 1)) = false
  by_cases c1 : 1 ≤ y
  · rw [decide_eq_false (p := Int.gcd x y = 1) fun z => c ⟨c1, z⟩, Bool.and_false]
  · rw [decide_eq_false c1, Bool.false_and]
theorem pure_law_bad_ratio (A : Ad) (ds μ Q E0) (h : c_law_bad_ratio A ds μ Q E0) : w_law_bad_ratio A (fun C fs _ μ => dwx E0 C fs μ) (rets Q) (st0 4 ds) μ := by
  unfold c_law_bad_ratio at h
  split at h
  · rename_i p
    obtain ⟨st, hp, hst, h⟩ := h
    unfold w_law_bad_ratio
    walk_at "w"
    refine ⟨st, hp, hst, bd_small (n := 2990) (by decide) (by decide), fun k st1 hs1 k0 k1 _ => ?_⟩
    walk_at "w"
    have k1 := k1 (by decide)
    refine ⟨st1, um_same, hs1, bd_small (n := 2990) (by decide) (by decide), fun e st2 hs2 e0 e1 _ => ?_⟩
    walk_at "w"
    have e1 := e1 (by decide)
    refine ⟨by decide, by omega, (bd_small (n := 12990) (by omega) (by omega)), fun n m hr => ?_⟩
    obtain ⟨m1, hg, _, hn, hm⟩ := id hr
    have bn : -100 < n ∧ n < 100 := by omega
    have bm : m < 100 := by omega
    unfold w_law_bad_ratio_2
    walk_at "w"
    refine ⟨st2, um_same, hs2, bd_small (n := 2990) (by decide) (by decide), fun way st3 hs3 w0 w1 _ => ?_⟩
    walk_at "w"
    refine ⟨st3, um_same, hs3, bd_small (n := 2990) (by decide) (by decide), fun t st4 hs4 t0 t1 _ => ?_⟩
    walk_at "w"
    have t1 := t1 (by decide)
    have fin : ∀ ns : List Int, formB ns = false → (∀ n ∈ ns, D61 n) → dwn Q (.tup (ns.map D.int)) (um μ p (.lst st4)) := fun ns h1 h2 => dwn.of (h ns st4 h1 h2 hs4)
    have two : ∀ x y : Int, ¬ (1 ≤ y ∧ Int.gcd x y = 1) → (-1000 < x ∧ x < 1000) → (-1000 < y ∧ y < 1000) → dwn Q (.tup [.int x, .int y]) (um μ p (.lst st4)) := fun x y c bx by' => fin [x, y] (nof c) (fun z hz => by
      simp only [List.mem_cons, List.not_mem_nil, or_false] at hz
      unfold D61
      rcases hz with rfl | rfl <;> omega)
    have small : ∀ ns : List Int, formB ns = false → (∀ z ∈ ns, -1000 < z ∧ z < 1000) → dwn Q (.tup (ns.map D.int)) (um μ p (.lst st4)) := fun ns h1 h2 => fin ns h1 fun z hz => by have := h2 z hz; unfold D61; omega
    unfold w_law_bad_ratio_4
    walk_at "w"
    have tb : 2 ≤ 2 + t ∧ 2 + t ≤ 4 := by omega
    refine ite2 (fun _ => ?_) (fun _ => ite2 (fun _ => ⟨by decide, two _ _ (fun z => by omega) (by omega) (by omega)⟩) (fun _ => ite2 (fun _ => ⟨by decide, two _ _ (fun z => by omega) (by omega) (by omega)⟩) (fun _ => ite2 (fun _ => ?_) (fun _ => ite2 (fun _ => ⟨by decide, small [n] rfl (fun z hz => by rw [List.mem_singleton.mp hz]; omega)⟩) (fun _ => ite2 (fun _ => ⟨by decide, small [n, m, 1] rfl (fun z hz => ?_)⟩) (fun _ => ⟨by decide, small [] rfl (fun z hz => nomatch hz)⟩))))))
    · have b1 : -1000 < n * (2 + t) ∧ n * (2 + t) < 1000 := by
        have : (n * (2 + t)).natAbs ≤ 100 * 4 := by rw [Int.natAbs_mul]; exact Nat.mul_le_mul (by omega) (by omega)
        omega
      have b2 : -1000 < m * (2 + t) ∧ m * (2 + t) < 1000 := by
        have : (m * (2 + t)).natAbs ≤ 100 * 4 := by rw [Int.natAbs_mul]; exact Nat.mul_le_mul (by omega) (by omega)
        omega
      refine ⟨mulR (by omega), mulR (by omega), by decide, two _ _ (fun z => ?_) b1 b2⟩
      have e := z.2
      rw [Int.gcd_mul_right, hg] at e
      omega
    · refine ⟨by decide, two _ _ (fun z => ?_) (by omega) (by omega)⟩
      have := z.2
      rw [Int.gcd_zero_left] at this
      omega
    · simp only [List.mem_cons, List.not_mem_nil, or_false] at hz
      rcases hz with rfl | rfl | rfl <;> omega
  · exact h.elim
theorem len_law_bad_ratio (A : Ad) : ∀ ds μ Q E, c_law_bad_ratio A ds μ Q E → ds.length = 1 := by
  intro ds μ Q E h
  unfold c_law_bad_ratio at h
  first | (split at h) | (split at h)
  all_goals first | rfl | exact h.elim
theorem ok_law_bad_ratio {P : Program} {w : World} {K : PySem.W.Frag} {mg : Str → Option Value} {base : Heap} {A : Ad} (D : Dfn K mg "_law_bad_ratio" "_law_bad_ratio" s_law_bad_ratio ["store"]) (T : Tx P base K mg A) (G_law_take : DfOk P w K mg base "_law_take" 2 ["store", "many"] (c_law_take A)) (G_law_low : DfOk P w K mg base "_law_low" 37 ["top", "bottom"] (c_law_low A)) : DfOk P w K mg base "_law_bad_ratio" 38 ["store"] (c_law_bad_ratio A) := by
  obtain ⟨f, fd, F, hm, hb⟩ := D
  refine ⟨f, fd, okD F sc_law_bad_ratio (by decide) (len_law_bad_ratio A) ?_, hm, F.kp, hb⟩
  intro X W E cdv B outer s H Ex hX tk hp hr
  subst hX
  exact ⟨_, w_law_bad_ratio A E, (scons (sset (i := 1) (etup (acons (esub (ecall2 tk G_law_take (hr.mono (by decide)) (acons (ev 0) (acons ei anil))) ei) (acons (eadd ei (ecall2 tk G_law_take (hr.mono (by decide)) (acons (ev 0) (acons ei anil)))) anil))) sc_law_bad_ratio.nd)
  (scons (sset (i := 1) (ecall2 tk G_law_low (hr.mono (by decide)) (acons (eix (ev 1) ei) (acons (eix (ev 1) ei) anil))) sc_law_bad_ratio.nd)
  (scons (sset (i := 2) (ecall2 tk G_law_take (hr.mono (by decide)) (acons (ev 0) (acons ei anil))) sc_law_bad_ratio.nd)
  (scons (sset (i := 3) (eadd ei (ecall2 tk G_law_take (hr.mono (by decide)) (acons (ev 0) (acons ei anil)))) sc_law_bad_ratio.nd)
  (scons (sif (tc' op_lt do_lt (ev 2) ei) (sone (sret (etup (acons (emul (eix (ev 1) ei) (ev 3)) (acons (emul (eix (ev 1) ei) (ev 3)) anil))))) snil)
  (scons (sif (tc' op_eq do_eq (ev 2) ei) (sone (sret (etup (acons (eix (ev 1) ei) (acons ei anil))))) snil)
  (scons (sif (tc' op_eq do_eq (ev 2) ei) (sone (sret (etup (acons (esub ei (eix (ev 1) ei)) (acons (esub ei (eix (ev 1) ei)) anil))))) snil)
  (scons (sif (tc' op_eq do_eq (ev 2) ei) (sone (sret (etup (acons ei (acons (ev 3) anil))))) snil)
  (scons (sif (tc' op_eq do_eq (ev 2) ei) (sone (sret (etup (acons (eix (ev 1) ei) anil)))) snil)
  (scons (sif (tc' op_eq do_eq (ev 2) ei) (sone (sret (etup (acons (eix (ev 1) ei) (acons (eix (ev 1) ei) (acons ei anil)))))) snil)
  (sone (sret (etup anil))))))))))))), fun ds μ Q E0 hc hE => by subst hE; exact pure_law_bad_ratio A ds μ Q E0 hc⟩
end K01
set_option maxHeartbeats 800000
namespace K01
open PySem L2 DL
local macro_rules | `(tactic| walk_at "w") => `(tactic| simp only [wSeq, wNext, wIf, wRet, wRetN, wDrop, wAsg, gN, wVar, wC, wOp, wUn, wNil, wCons, wCB, wTup, wLst, wLstF, wTe, tB0, wAnd, wOr, wNot, wAndV, wOrV, wNotV, wIfE, wCall, wCallG, wRaise, wFrz, fFrz, rets, fI, fI0, fAdd, fSub, fMul, fLt, fLe, fGt, fGe, fMod, fModN, fPow, fDiv, fDivG, fNeg, fEq, fNe, eqF_int, eqF_bl, eqF_str, scal_int, scal_bl, scal_str, fLen, sv, fIx, fAbs, fInt, fList, wSl, fSlL, oNo, oSo, lvr, lv, fCat, wMeL, fApp, fPop, fSetL, gSb, iLs, iTp, iR1, iR2, wFor, gTp, gCn, gNl, wPar, wBrk, wCnt, fIsi, wIsx, wLc, wYes, wip, wTr, truD, wTry, clrD, wFld, fieldsD, wSetF, wMeth, wMake, fStrI, fFmt, wJoin, wJs, wChain, fAddS, fIsN, fNotN, um_same, um_um, st0, List.map_cons, List.map_nil, List.length_cons, List.length_nil, List.getElem?_cons_zero, List.getElem?_cons_succ, List.set_cons_zero, List.set_cons_succ, List.cons_append, List.nil_append, List.replicate, atI_c0, atI_c1, atI_c2, atI_c3, atI_c4, atI_c5, atI_c6, ixN_70, ixN_71, ixN_72, ixN_73, ixN_74, ixN_75, ixN_76, Nat.reduceAdd, ite_T, ite_F, if_dec, if_ndec, if_nb, true_and, if_true, Bool.false_eq_true, if_false])
/-! ### what is asked -/
def MonoC (c : Ct) : Prop := ∀ ds μ Q Q' E E', c ds μ Q E → (∀ d μ', Q d μ' → Q' d μ') → (∀ C fs μ', E C fs μ' → E' C fs μ') → c ds μ Q' E'
theorem mono_un {A : Ad} {f : Int → Int → Mu → (D → Mu → Prop) → Prop} (hf : ∀ a b μ Q Q', f a b μ Q → (∀ d μ', Q d μ' → Q' d μ') → f a b μ Q') : MonoC (cUn A f) := by
  intro ds μ Q Q' E E' h hQ hE
  unfold cUn at h ⊢
  split at h
  · obtain ⟨ns, e1, h⟩ := h
    refine ⟨ns, e1, ?_⟩
    split at h
    · rename_i c
      rw [if_pos c]
      exact fun a b e3 h1 => hf _ _ _ _ _ (h a b e3 h1) hQ
    · rename_i c
      rw [if_neg c]
      exact hE _ _ _ h
  · exact h.elim
theorem mono_floor (A : Ad) : MonoC (c_floor_of A) := mono_un fun a b μ Q Q' h hQ => hQ _ _ h
theorem mono_ceil (A : Ad) : MonoC (c_ceil_of A) := mono_un fun a b μ Q Q' h hQ => hQ _ _ h
theorem mono_text (A : Ad) : MonoC (c_text_of A) := mono_un fun a b μ Q Q' h hQ => ⟨h.1, hQ _ _ h.2⟩
theorem mono_least (A : Ad) : MonoC (c_least_of A) := by
  intro ds μ Q Q' E E' h hQ hE
  unfold c_least_of at h ⊢
  split at h
  · obtain ⟨nss, e1, e2, h⟩ := h
    refine ⟨nss, e1, e2, ?_⟩
    split at h
    · rename_i c
      rw [if_pos c]
      exact fun r l e => ⟨(h r l e).1, hQ _ _ (h r l e).2⟩
    · rename_i c
      rw [if_neg c]
      exact hE _ _ _ h
  · exact h.elim
theorem mono_most (A : Ad) : MonoC (c_greatest_of A) := by
  intro ds μ Q Q' E E' h hQ hE
  unfold c_greatest_of at h ⊢
  split at h
  · obtain ⟨nss, e1, e2, h⟩ := h
    refine ⟨nss, e1, e2, ?_⟩
    split at h
    · rename_i c
      rw [if_pos c]
      exact fun r l e => ⟨(h r l e).1, hQ _ _ (h r l e).2⟩
    · rename_i c
      rw [if_neg c]
      exact hE _ _ _ h
  · exact h.elim
theorem mono_isr (A : Ad) : MonoC (c_is_ratio A) := by
  intro ds μ Q Q' E E' h hQ hE
  unfold c_is_ratio at h ⊢
  split at h
  · exact ⟨h.1, hQ _ _ h.2⟩
  · exact h.elim
theorem mono_times (A : Ad) : MonoC (c_times A) := by
  intro ds μ Q Q' E E' h hQ hE
  unfold c_times cBin at h ⊢
  split at h
  · obtain ⟨ns, ms, e1, e2, h⟩ := h
    refine ⟨ns, ms, e1, e2, ?_⟩
    split at h
    · rename_i c
      rw [if_pos c]
      exact fun a b c d e3 e4 h1 h2 => ⟨(h a b c d e3 e4 h1 h2).1, fun n m r => hQ _ _ ((h a b c d e3 e4 h1 h2).2 n m r)⟩
    · rename_i c
      rw [if_neg c]
      exact hE _ _ _ h
  · exact h.elim
/-- the question op of x -/
def askC (A : Ad) (op : Int) (x : D) : Mu → (D → Mu → Prop) → (Addr → List (Str × D) → Mu → Prop) → Prop := fun μ Q E =>
  if op = 0 then c_floor_of A [x] μ Q E else if op = 1 then c_ceil_of A [x] μ Q E else if op = 2 then c_text_of A [x] μ Q E else if op = 3 then c_least_of A [x] μ Q E
  else if op = 4 then c_greatest_of A [x] μ Q E else if op = 5 then c_is_ratio A [x] μ Q E else c_times A [x, x] μ Q E
theorem ask_mono {A : Ad} {op : Int} {x : D} {μ : Mu} {Q Q' E E'} (h : askC A op x μ Q E) (hQ : ∀ d μ', Q d μ' → Q' d μ') (hE : ∀ C fs μ', E C fs μ' → E' C fs μ') : askC A op x μ Q' E' := by
  unfold askC at h ⊢
  repeat' split
  all_goals simp_all only [if_true, if_false]
  all_goals first | exact mono_floor A _ _ _ _ _ _ h hQ hE | exact mono_ceil A _ _ _ _ _ _ h hQ hE | exact mono_text A _ _ _ _ _ _ h hQ hE | exact mono_least A _ _ _ _ _ _ h hQ hE | exact mono_most A _ _ _ _ _ _ h hQ hE | exact mono_isr A _ _ _ _ _ _ h hQ hE | exact mono_times A _ _ _ _ _ _ h hQ hE
def dFault : D := .tup [.str "fault", .lst [.str "BadNumber"]]
def c_law_asked (A : Ad) : Ct := fun ds μ Q _ => match ds with
  | [.int op, x] => askC A op x μ (fun d μ' => Q (.tup [.str "value", d]) μ') (fun C fs μ' => fs = [] ∧ C = A.BadNumber ∧ Q dFault μ')
  | _ => False
abbrev s_law_asked : Stmt := top 60
theorem sc_law_asked : FnScope ["op", "thing", "e"] ["op", "thing"] (defScope s_law_asked) := ⟨rfl, rfl, rfl, by decide +kernel, rfl, by decide +kernel, by decide +kernel⟩
def w_law_asked (A : Ad) (E : EX) : WS := (wTry (fun C => C = A.BadNumber) 2 (fun E => (wSeq (wIf (wTe (wOp fEq (wVar 0) (wC (.int (0))))) (wRet (wTup (wCons (wC (.str "value")) (wCons (wCall (c_floor_of A) E (wCons (wVar 1) wNil)) wNil)))) wNext)
  (wSeq (wIf (wTe (wOp fEq (wVar 0) (wC (.int (1))))) (wRet (wTup (wCons (wC (.str "value")) (wCons (wCall (c_ceil_of A) E (wCons (wVar 1) wNil)) wNil)))) wNext)
  (wSeq (wIf (wTe (wOp fEq (wVar 0) (wC (.int (2))))) (wRet (wTup (wCons (wC (.str "value")) (wCons (wCall (c_text_of A) E (wCons (wVar 1) wNil)) wNil)))) wNext)
  (wSeq (wIf (wTe (wOp fEq (wVar 0) (wC (.int (3))))) (wRet (wTup (wCons (wC (.str "value")) (wCons (wCall (c_least_of A) E (wCons (wVar 1) wNil)) wNil)))) wNext)
  (wSeq (wIf (wTe (wOp fEq (wVar 0) (wC (.int (4))))) (wRet (wTup (wCons (wC (.str "value")) (wCons (wCall (c_greatest_of A) E (wCons (wVar 1) wNil)) wNil)))) wNext)
  (wSeq (wIf (wTe (wOp fEq (wVar 0) (wC (.int (5))))) (wRet (wTup (wCons (wC (.str "value")) (wCons (wCall (c_is_ratio A) E (wCons (wVar 1) wNil)) wNil)))) wNext)
  (wRet (wTup (wCons (wC (.str "value")) (wCons (wCall (c_times A) E (wCons (wVar 1) (wCons (wVar 1) wNil))) wNil)))))))))))
  (fun a C => (wRet (wTup (wCons (wC (.str "fault")) (wCons (wCall (c_law_names A a C) noE (wCons (wVar 2) wNil)) wNil))))))
theorem pure_law_asked (A : Ad) (ds μ Q E0) (h : c_law_asked A ds μ Q E0) : w_law_asked A (fun C fs _ μ => dwx E0 C fs μ) (rets Q) (st0 3 ds) μ := by
  unfold c_law_asked at h
  split at h
  · rename_i op x
    unfold w_law_asked
    walk_at "w"
    have hQ : ∀ d μ', Q (.tup [.str "value", d]) μ' → 2 ≤ 100000 ∧ dwn Q (.tup [.str "value", d]) μ' := fun d μ' q => ⟨by decide, dwn.of q⟩
    have hE : ∀ (C : Addr) (fs : List (Str × D)) (μ' : Mu), (fs = [] ∧ C = A.BadNumber ∧ Q dFault μ') → fs = [] ∧ C = A.BadNumber ∧ ∀ a, μ' a = none → c_law_names A a C [D.mut a] μ' (fun x μ1 => 2 ≤ 100000 ∧ dwn Q (.tup [.str "fault", x]) μ1) fun C fs μ2 => noE C fs [some (D.int op), some x, some (D.mut a)] μ2 :=
      fun C fs μ' z => ⟨z.1, z.2.1, fun a ha => ⟨z.2.1, rfl, ha, by decide, dwn.of z.2.2⟩⟩
    exact ask_mono h hQ hE
  · exact h.elim
theorem len_law_asked (A : Ad) : ∀ ds μ Q E, c_law_asked A ds μ Q E → ds.length = 2 := by
  intro ds μ Q E h
  unfold c_law_asked at h
  first | (split at h) | (split at h)
  all_goals first | rfl | exact h.elim
theorem ok_law_asked {P : Program} {w : World} {K : PySem.W.Frag} {mg : Str → Option Value} {base : Heap} {A : Ad} (D : Dfn K mg "_law_asked" "_law_asked" s_law_asked ["op", "thing"]) (T : Tx P base K mg A) (G_times : DfOk P w K mg base "times" 38 ["a", "b"] (c_times A)) (G_is_ratio : DfOk P w K mg base "is_ratio" 3 ["value"] (c_is_ratio A)) (G_greatest_of : DfOk P w K mg base "greatest_of" 6 ["many"] (c_greatest_of A)) (G_least_of : DfOk P w K mg base "least_of" 6 ["many"] (c_least_of A)) (G_text_of : DfOk P w K mg base "text_of" 5 ["a"] (c_text_of A)) (G_ceil_of : DfOk P w K mg base "ceil_of" 37 ["a"] (c_ceil_of A)) (G_floor_of : DfOk P w K mg base "floor_of" 37 ["a"] (c_floor_of A)) (Nn : Nx K mg A) (H_law_names : DfH P w K mg base "_law_names" 1 ["e"] (c_law_names A)) : DfOk P w K mg base "_law_asked" 39 ["op", "thing"] (c_law_asked A) := by
  obtain ⟨f, fd, F, hm, hb⟩ := D
  refine ⟨f, fd, okD F sc_law_asked (by decide) (len_law_asked A) ?_, hm, F.kp, hb⟩
  intro X W E cdv B outer s H Ex hX tk hp hr
  subst hX
  exact ⟨_, w_law_asked A E, (sone (stry tk Nn.cat ⟨rfl, by decide, .inl Nn.yard.choose_spec.1⟩ sc_law_asked.nd
  (fun W E pn xe tk => ⟨_, (scons (sif (tc' op_eq do_eq (ev 0) ei) (sone (sret (etup (acons es' (acons (ecall2 tk G_floor_of (hr.mono (by decide)) (acons (ev 1) anil)) anil))))) snil)
  (scons (sif (tc' op_eq do_eq (ev 0) ei) (sone (sret (etup (acons es' (acons (ecall2 tk G_ceil_of (hr.mono (by decide)) (acons (ev 1) anil)) anil))))) snil)
  (scons (sif (tc' op_eq do_eq (ev 0) ei) (sone (sret (etup (acons es' (acons (ecall2 tk G_text_of (hr.mono (by decide)) (acons (ev 1) anil)) anil))))) snil)
  (scons (sif (tc' op_eq do_eq (ev 0) ei) (sone (sret (etup (acons es' (acons (ecall2 tk G_least_of (hr.mono (by decide)) (acons (ev 1) anil)) anil))))) snil)
  (scons (sif (tc' op_eq do_eq (ev 0) ei) (sone (sret (etup (acons es' (acons (ecall2 tk G_greatest_of (hr.mono (by decide)) (acons (ev 1) anil)) anil))))) snil)
  (scons (sif (tc' op_eq do_eq (ev 0) ei) (sone (sret (etup (acons es' (acons (ecall2 tk G_is_ratio (hr.mono (by decide)) (acons (ev 1) anil)) anil))))) snil)
  (sone (sret (etup (acons es' (acons (ecall2 tk G_times (hr.mono (by decide)) (acons (ev 1) (acons (ev 1) anil))) anil)))))))))))⟩)
  (fun a C pn hx tk => ⟨_, (sone (sret (etup (acons es' (acons (ecallH tk H_law_names hx (room_mark (hr.mono (by decide))) (acons (ev 2) anil)) anil)))))⟩))), fun ds μ Q E0 hc hE => by subst hE; exact pure_law_asked A ds μ Q E0 hc⟩
def c_law_refused (A : Ad) : Ct := fun ds μ Q _ => match ds with
  | [.int op, x] => askC A op x μ (fun _ _ => False) (fun C fs μ' => fs = [] ∧ C = A.BadNumber ∧ Q (.bl true) μ')
  | _ => False
abbrev s_law_refused : Stmt := top 61
theorem sc_law_refused : FnScope ["op", "thing"] ["op", "thing"] (defScope s_law_refused) := ⟨rfl, rfl, rfl, by decide +kernel, rfl, by decide +kernel, by decide +kernel⟩
def w_law_refused (A : Ad) (E : EX) : WS := (wRet (wCall (c_law_same A) E (wCons (wCall (c_law_asked A) E (wCons (wVar 0) (wCons (wVar 1) wNil))) (wCons (wTup (wCons (wC (.str "fault")) (wCons (wLstF (wCons (wC (.str "BadNumber")) wNil)) wNil))) wNil))))
theorem pure_law_refused (A : Ad) (ds μ Q E0) (h : c_law_refused A ds μ Q E0) : w_law_refused A (fun C fs _ μ => dwx E0 C fs μ) (rets Q) (st0 2 ds) μ := by
  unfold c_law_refused at h
  split at h
  · rename_i op x
    unfold w_law_refused
    walk_at "w"
    refine ask_mono h (fun d μ' q => q.elim) (fun C fs μ' q => ?_)
    obtain ⟨e1, e2, q⟩ := q
    refine ⟨e1, e2, by decide, by decide, rfl, rfl, by decide, fun b hb => ?_⟩
    obtain rfl : b = true := hb.mpr rfl
    exact dwn.of q
  · exact h.elim
theorem len_law_refused (A : Ad) : ∀ ds μ Q E, c_law_refused A ds μ Q E → ds.length = 2 := by
  intro ds μ Q E h
  unfold c_law_refused at h
  first | (split at h) | (split at h)
  all_goals first | rfl | exact h.elim
theorem ok_law_refused {P : Program} {w : World} {K : PySem.W.Frag} {mg : Str → Option Value} {base : Heap} {A : Ad} (D : Dfn K mg "_law_refused" "_law_refused" s_law_refused ["op", "thing"]) (T : Tx P base K mg A) (G_law_same : DfOk P w K mg base "_law_same" 2 ["told", "wanted"] (c_law_same A)) (G_law_asked : DfOk P w K mg base "_law_asked" 39 ["op", "thing"] (c_law_asked A)) : DfOk P w K mg base "_law_refused" 40 ["op", "thing"] (c_law_refused A) := by
  obtain ⟨f, fd, F, hm, hb⟩ := D
  refine ⟨f, fd, okD F sc_law_refused (by decide) (len_law_refused A) ?_, hm, F.kp, hb⟩
  intro X W E cdv B outer s H Ex hX tk hp hr
  subst hX
  exact ⟨_, w_law_refused A E, (sone (sret (ecall2 tk G_law_same (hr.mono (by decide)) (acons (ecall2 tk G_law_asked (hr.mono (by decide)) (acons (ev 0) (acons (ev 1) anil))) (acons (etup (acons es' (acons (elstF (acons es' anil)) anil))) anil))))), fun ds μ Q E0 hc hE => by subst hE; exact pure_law_refused A ds μ Q E0 hc⟩
end K01
set_option maxHeartbeats 800000
namespace K01
open PySem L2 DL
local macro_rules | `(tactic| walk_at "w") => `(tactic| simp only [wSeq, wNext, wIf, wRet, wRetN, wDrop, wAsg, gN, wVar, wC, wOp, wUn, wNil, wCons, wCB, wTup, wLst, wLstF, wTe, tB0, wAnd, wOr, wNot, wAndV, wOrV, wNotV, wIfE, wCall, wCallG, wRaise, wFrz, fFrz, rets, fI, fI0, fAdd, fSub, fMul, fLt, fLe, fGt, fGe, fMod, fModN, fPow, fDiv, fDivG, fNeg, fEq, fNe, eqF_int, eqF_bl, eqF_str, scal_int, scal_bl, scal_str, fLen, sv, fIx, fAbs, fInt, fList, wSl, fSlL, oNo, oSo, lvr, lv, fCat, wMeL, fApp, fPop, fSetL, gSb, iLs, iTp, iR1, iR2, wFor, gTp, gCn, gNl, wPar, wBrk, wCnt, fIsi, wIsx, wLc, wYes, wip, wTr, truD, wTry, clrD, wFld, fieldsD, wSetF, wMeth, wMake, fStrI, fFmt, wJoin, wJs, wChain, fAddS, fIsN, fNotN, um_same, um_um, st0, List.map_cons, List.map_nil, List.length_cons, List.length_nil, List.getElem?_cons_zero, List.getElem?_cons_succ, List.set_cons_zero, List.set_cons_succ, List.cons_append, List.nil_append, List.replicate, atI_c0, atI_c1, atI_c2, atI_c3, atI_c4, atI_c5, atI_c6, ixN_70, ixN_71, ixN_72, ixN_73, ixN_74, ixN_75, ixN_76, Nat.reduceAdd, Int.reduceToNat, Int.reducePow, ite_T, ite_F, if_dec, if_ndec, if_nb, true_and, if_true, Bool.false_eq_true, if_false])
def c_law_one (A : Ad) : Ct := fun ds μ Q _ => match ds with
  | [.mut p] => ∃ st, μ p = some (.lst st) ∧ StOk st ∧ ∀ (n m : Int) (st' : List D), Rat61 n m → StOk st' → Q (.tup [.int n, .int m]) (um μ p (.lst st'))
  | _ => False
abbrev s_law_one : Stmt := top 62
theorem sc_law_one : FnScope ["store", "way", "below"] ["store"] (defScope s_law_one) := ⟨rfl, rfl, rfl, by decide +kernel, rfl, by decide +kernel, by decide +kernel⟩
def w_law_one_3 (A : Ad) (E : EX) : WS := (wRet (wCall (c_law_ratio A) E (wCons (wVar 0) wNil)))
def w_law_one_2 (A : Ad) (E : EX) : WS := (wSeq (wIf (wTe (wOp fEq (wVar 1) (wC (.int (1))))) (wSeq (wAsg (wOp fAdd (wC (.int (1))) (wCall (c_law_take A) E (wCons (wVar 0) (wCons (wOp fPow (wC (.int (10))) (wC (.int (30)))) wNil)))) (gN 2))
  (wRet (wCall (c_law_low A) E (wCons (wOp fSub (wOp fAdd (wOp fMul (wVar 2) (wOp fSub (wCall (c_law_take A) E (wCons (wVar 0) (wCons (wOp fMul (wC (.int (2))) (wOp fPow (wC (.int (10))) (wC (.int (30))))) wNil))) (wOp fPow (wC (.int (10))) (wC (.int (30)))))) (wCall (c_law_take A) E (wCons (wVar 0) (wCons (wC (.int (3))) wNil)))) (wC (.int (1)))) (wCons (wVar 2) wNil))))) wNext)
  (w_law_one_3 A E))
def w_law_one (A : Ad) (E : EX) : WS := (wSeq (wAsg (wCall (c_law_take A) E (wCons (wVar 0) (wCons (wC (.int (4))) wNil))) (gN 1))
  (wSeq (wIf (wTe (wOp fEq (wVar 1) (wC (.int (0))))) (wRet (wTup (wCons (wCall (c_law_whole A) E (wCons (wVar 0) wNil)) (wCons (wC (.int (1))) wNil)))) wNext)
  (w_law_one_2 A E)))
theorem pure_law_one (A : Ad) (ds μ Q E0) (h : c_law_one A ds μ Q E0) : w_law_one A (fun C fs _ μ => dwx E0 C fs μ) (rets Q) (st0 3 ds) μ := by
  unfold c_law_one at h
  split at h
  · rename_i p
    obtain ⟨st, hp, hst, h⟩ := h
    unfold w_law_one
    walk_at "w"
    refine ⟨st, hp, hst, bd_small (n := 2990) (by decide) (by decide), fun k st1 hs1 k0 k1 _ => ?_⟩
    walk_at "w"
    have fin : ∀ n m st', Rat61 n m → StOk st' → dwn Q (.tup [.int n, .int m]) (um μ p (.lst st')) := fun n m st' hr hs => dwn.of (h n m st' hr hs)
    refine ite2 (fun _ => ?_) (fun _ => ?_)
    · refine ⟨st1, um_same, hs1, fun a st2 ha hs2 => ⟨by decide, ?_⟩⟩
      rw [um_um]
      exact fin a 1 st2 ⟨form_of (by decide) (by rw [Int.gcd_one]), ha, by unfold D61; decide⟩ hs2
    · unfold w_law_one_2
      walk_at "w"
      refine ite2 (fun _ => ?_) (fun _ => ?_)
      · refine ⟨pw (by decide), st1, um_same, hs1, bd_le (n := 2750) (by decide), fun b st2 hs2 b0 b1 _ => ?_⟩
        walk_at "w"
        have b1 := b1 (by decide)
        refine ⟨pw (by decide), mulL (by decide), st2, um_same, hs2, bd_le (n := 2750) (by decide), fun e st3 hs3 e0 e1 _ => ?_⟩
        walk_at "w"
        have e1 := e1 (by decide)
        have pr : ((1 + b) * (e - 1000000000000000000000000000000)).natAbs ≤ 10 ^ 60 := by
          rw [Int.natAbs_mul]
          have := Nat.mul_le_mul (show (1 + b).natAbs ≤ 10 ^ 30 by omega) (show (e - 1000000000000000000000000000000).natAbs ≤ 10 ^ 30 by omega)
          simpa using this
        refine ⟨pw (by decide), mulOk (n := 101) (m := 101) ?_ ?_ (by decide), st3, um_same, hs3, bd_small (n := 2990) (by decide) (by decide), fun g st4 hs4 g0 g1 _ => ?_⟩
        · exact Nat.lt_of_le_of_lt (show (1 + b).natAbs ≤ 10 ^ 30 by omega) (by decide)
        · exact Nat.lt_of_le_of_lt (show (e - 1000000000000000000000000000000).natAbs ≤ 10 ^ 30 by omega) (by decide)
        walk_at "w"
        have g1 := g1 (by decide)
        generalize (1 + b) * (e - 1000000000000000000000000000000) = z at pr
        have d1 : D61 (z + g - 1) := by unfold D61; omega
        have d2 : D61 (1 + b) := by unfold D61; omega
        exact ⟨by omega, d2.bd.mono (by decide), fun n m hr => fin n m st4 (rat_of hr d1 d2) hs4⟩
      · unfold w_law_one_3
        walk_at "w"
        exact ⟨st1, um_same, hs1, fun n m st2 hr hs2 => by rw [um_um]; exact fin n m st2 hr hs2⟩
  · exact h.elim
theorem len_law_one (A : Ad) : ∀ ds μ Q E, c_law_one A ds μ Q E → ds.length = 1 := by
  intro ds μ Q E h
  unfold c_law_one at h
  first | (split at h) | (split at h)
  all_goals first | rfl | exact h.elim
theorem ok_law_one {P : Program} {w : World} {K : PySem.W.Frag} {mg : Str → Option Value} {base : Heap} {A : Ad} (D : Dfn K mg "_law_one" "_law_one" s_law_one ["store"]) (T : Tx P base K mg A) (G_law_ratio : DfOk P w K mg base "_law_ratio" 38 ["store"] (c_law_ratio A)) (G_law_low : DfOk P w K mg base "_law_low" 37 ["top", "bottom"] (c_law_low A)) (G_law_take : DfOk P w K mg base "_law_take" 2 ["store", "many"] (c_law_take A)) (G_law_whole : DfOk P w K mg base "_law_whole" 4 ["store"] (c_law_whole A)) : DfOk P w K mg base "_law_one" 39 ["store"] (c_law_one A) := by
  obtain ⟨f, fd, F, hm, hb⟩ := D
  refine ⟨f, fd, okD F sc_law_one (by decide) (len_law_one A) ?_, hm, F.kp, hb⟩
  intro X W E cdv B outer s H Ex hX tk hp hr
  subst hX
  exact ⟨_, w_law_one A E, (scons (sset (i := 1) (ecall2 tk G_law_take (hr.mono (by decide)) (acons (ev 0) (acons ei anil))) sc_law_one.nd)
  (scons (sif (tc' op_eq do_eq (ev 1) ei) (sone (sret (etup (acons (ecall2 tk G_law_whole (hr.mono (by decide)) (acons (ev 0) anil)) (acons ei anil))))) snil)
  (scons (sif (tc' op_eq do_eq (ev 1) ei) (scons (sset (i := 2) (eadd ei (ecall2 tk G_law_take (hr.mono (by decide)) (acons (ev 0) (acons (epow ei ei) anil)))) sc_law_one.nd)
  (sone (sret (ecall2 tk G_law_low (hr.mono (by decide)) (acons (esub (eadd (emul (ev 2) (esub (ecall2 tk G_law_take (hr.mono (by decide)) (acons (ev 0) (acons (emul ei (epow ei ei)) anil))) (epow ei ei))) (ecall2 tk G_law_take (hr.mono (by decide)) (acons (ev 0) (acons ei anil)))) ei) (acons (ev 2) anil)))))) snil)
  (sone (sret (ecall2 tk G_law_ratio (hr.mono (by decide)) (acons (ev 0) anil))))))), fun ds μ Q E0 hc hE => by subst hE; exact pure_law_one A ds μ Q E0 hc⟩
end K01
set_option maxHeartbeats 800000
namespace K01
open PySem L2 DL
local macro_rules | `(tactic| walk_at "w") => `(tactic| simp only [wSeq, wNext, wIf, wRet, wRetN, wDrop, wAsg, gN, wVar, wC, wOp, wUn, wNil, wCons, wCB, wTup, wLst, wLstF, wTe, tB0, wAnd, wOr, wNot, wAndV, wOrV, wNotV, wIfE, wCall, wCallG, wRaise, wFrz, fFrz, rets, fI, fI0, fAdd, fSub, fMul, fLt, fLe, fGt, fGe, fMod, fModN, fPow, fDiv, fDivG, fNeg, fEq, fNe, eqF_int, eqF_bl, eqF_str, scal_int, scal_bl, scal_str, fLen, sv, fIx, fAbs, fInt, fList, wSl, fSlL, oNo, oSo, lvr, lv, fCat, wMeL, fApp, fPop, fSetL, gSb, iLs, iTp, iR1, iR2, wFor, gTp, gCn, gNl, wPar, wBrk, wCnt, fIsi, wIsx, wLc, wYes, wip, wTr, truD, wTry, clrD, wFld, fieldsD, wSetF, wMeth, wMake, fStrI, fFmt, wJoin, wJs, wChain, fAddS, fIsN, fNotN, um_same, um_um, st0, List.map_cons, List.map_nil, List.length_cons, List.length_nil, List.getElem?_cons_zero, List.getElem?_cons_succ, List.set_cons_zero, List.set_cons_succ, List.cons_append, List.nil_append, List.replicate, atI_c0, atI_c1, atI_c2, atI_c3, atI_c4, atI_c5, atI_c6, ixN_70, ixN_71, ixN_72, ixN_73, ixN_74, ixN_75, ixN_76, Nat.reduceAdd, ite_T, ite_F, if_dec, if_ndec, if_nb, true_and, if_true, Bool.false_eq_true, if_false])
/-- below ten to the k -/
def T10 (k : Nat) (x : Int) : Prop := x.natAbs < 10 ^ k
theorem T10.mul {k j : Nat} {x y : Int} (h : T10 k x) (h' : T10 j y) : T10 (k + j) (x * y) := by
  unfold T10 at *
  rw [Int.natAbs_mul, Nat.pow_add]
  exact Nat.mul_lt_mul'' h h'
theorem T10.mono {k j : Nat} {x : Int} (h : T10 k x) (l : k ≤ j) : T10 j x := Nat.lt_of_lt_of_le h (Nat.pow_le_pow_right (by decide) l)
theorem big10 : (10 : Nat) ^ 3904 ≤ 2 ^ 13000 := by decide +kernel
theorem T10.bb {x : Int} (h : T10 3904 x) : BB x := Bd.mono (n := 13000) (Nat.lt_of_lt_of_le h big10) (by decide)
theorem T10.d4 {x : Int} (h : T10 3904 x) : D4 x := T10.mono (j := 4000) h (by decide)
theorem isR_eq {up down n m n0 m0 : Int} (hd : down ≠ 0) (h : isR up down n m) (h1 : 1 ≤ m0) (hg : Int.gcd n0 m0 = 1) (he : n0 * down = up * m0) : n = n0 ∧ m = m0 := by
  obtain ⟨k1, k2, k3, _, _⟩ := h
  have x : n * m0 = n0 * m := by
    refine Int.eq_of_mul_eq_mul_right hd ?_
    calc n * m0 * down = (n * down) * m0 := by ac_rfl
      _ = (up * m) * m0 := by rw [k3]
      _ = (up * m0) * m := by ac_rfl
      _ = (n0 * down) * m := by rw [he]
      _ = n0 * m * down := by ac_rfl
  have xn : n.natAbs * m0.natAbs = n0.natAbs * m.natAbs := by rw [← Int.natAbs_mul, ← Int.natAbs_mul, x]
  have c1 : Nat.Coprime m.natAbs n.natAbs := Nat.Coprime.symm k2
  have c2 : Nat.Coprime m0.natAbs n0.natAbs := Nat.Coprime.symm hg
  have d1 : m.natAbs ∣ m0.natAbs := c1.dvd_of_dvd_mul_left (by rw [xn]; exact Nat.dvd_mul_left _ _)
  have d2 : m0.natAbs ∣ m.natAbs := c2.dvd_of_dvd_mul_left (by rw [← xn]; exact Nat.dvd_mul_left _ _)
  have e : m.natAbs = m0.natAbs := Nat.dvd_antisymm d1 d2
  have em : m = m0 := by omega
  subst em
  exact ⟨Int.eq_of_mul_eq_mul_right (by omega) x, rfl⟩
theorem gcd_sq {n m : Int} (h : Int.gcd n m = 1) : Int.gcd (n * n) (m * m) = 1 := by
  have c : Nat.Coprime n.natAbs m.natAbs := h
  have c2 := Nat.Coprime.pow 2 2 c
  rw [Nat.pow_two, Nat.pow_two, ← Int.natAbs_mul, ← Int.natAbs_mul] at c2
  exact c2
theorem of_form {n m : Int} (h : formB [n, m] = true) : 1 ≤ m ∧ Int.gcd n m = 1 := by
  obtain ⟨a, b, e, h1, h2⟩ := formB_cases h
  cases e
  exact ⟨h1, h2⟩
theorem bin_ok {A : Ad} {f} {a b c d : Int} {μ : Mu} {Q E} (h1 : formB [a, b] = true) (h2 : formB [c, d] = true) (h : f a b c d μ Q E) : cBin A f [.tup [.int a, .int b], .tup [.int c, .int d]] μ Q E := by
  refine ⟨[a, b], [c, d], rfl, rfl, ?_⟩
  rw [if_pos ⟨h1, h2⟩]
  intro a' b' c' d' e1 e2 _ _
  cases e1
  cases e2
  exact h
theorem sz_vr {x : Str} {n m : Int} : szD (.tup [.str x, .tup [.int n, .int m]]) < 100000 := (show 1 + (1 + (1 + (1 + (1 + 0)) + 0)) < 100000 by decide)
def c_law_power (A : Ad) : Ct := fun ds μ Q _ => match ds with
  | [.tup [.int a, .int b], .int many] => formB [a, b] = true ∧ T10 61 a ∧ T10 61 b ∧ 0 ≤ many ∧ many ≤ 6 ∧ ∀ n m, formB [n, m] = true → T10 3904 n → T10 3904 m → Q (.lst [.tup [.int n, .int m]]) μ
  | _ => False
abbrev s_law_power : Stmt := top 67
theorem sc_law_power : FnScope ["x", "many", "held", "turn", "told"] ["x", "many"] (defScope s_law_power) := ⟨rfl, rfl, rfl, by decide +kernel, rfl, by decide +kernel, by decide +kernel⟩
def w_law_power_2 (A : Ad) (E : EX) : WS := (wRet (wLstF (wCons (wVar 2) wNil)))
def w_law_power_b1 (A : Ad) (E : EX) : WS := (wSeq (wAsg (wCall (c_law_asked A) E (wCons (wC (.int (6))) (wCons (wVar 2) wNil))) (gN 4))
  (wSeq (wIf (wNot (wTe (wCall (c_law_same A) E (wCons (wVar 4) (wCons (wTup (wCons (wC (.str "value")) (wCons (wTup (wCons (wOp fMul (wOp fIx (wVar 2) (wC (.int (0)))) (wOp fIx (wVar 2) (wC (.int (0))))) (wCons (wOp fMul (wOp fIx (wVar 2) (wC (.int (1)))) (wOp fIx (wVar 2) (wC (.int (1))))) wNil))) wNil))) wNil))))) (wRet (wLstF wNil)) wNext)
  (wAsg (wOp fIx (wVar 4) (wC (.int (1)))) (gN 2))))
def w_law_power_1 (A : Ad) (E : EX) : WS := (wSeq (wFor (iR1 (wCons (wVar 1) wNil)) (gN 3) (w_law_power_b1 A E))
  (w_law_power_2 A E))
def w_law_power (A : Ad) (E : EX) : WS := (wSeq (wAsg (wVar 0) (gN 2))
  (w_law_power_1 A E))
theorem pure_law_power (A : Ad) (ds μ Q E0) (h : c_law_power A ds μ Q E0) : w_law_power A (fun C fs _ μ => dwx E0 C fs μ) (rets Q) (st0 5 ds) μ := by
  unfold c_law_power at h
  split at h
  · rename_i a b many
    obtain ⟨hf, ha, hb, h0, h6, h⟩ := h
    unfold w_law_power
    walk_at "w"
    unfold w_law_power_1
    walk_at "w"
    refine ⟨⟨by omega, by omega⟩, fun i ρ μ' => μ' = μ ∧ ∃ (n m : Int) (r3 r4 : Option D), ρ = [some (.tup [.int a, .int b]), some (.int many), some (.tup [.int n, .int m]), r3, r4] ∧ formB [n, m] = true ∧ T10 (61 * 2 ^ i) n ∧ T10 (61 * 2 ^ i) m, ⟨rfl, a, b, _, _, rfl, hf, ha, hb⟩, fun _ _ _ _ => trivial, ?_, ?_⟩
    · rintro i d ρ μ' hd ⟨rfl, n, m, q3, q4, rfl, f, hn, hm⟩
      rw [fixi] at hd
      have hi := (rng_at hd).1
      have h2 : 2 ^ i ≤ 2 ^ 5 := Nat.pow_le_pow_right (by decide) (by omega)
      have bn : BB n := (hn.mono (by omega)).bb
      have bm : BB m := (hm.mono (by omega)).bb
      obtain ⟨m1, g⟩ := of_form f
      have m2 : 1 ≤ m * m := by
        have := Int.mul_le_mul m1 m1 (by decide) (by omega)
        omega
      unfold w_law_power_b1
      walk_at "w"
      unfold c_law_asked askC
      simp (decide := true) only [if_false]
      unfold c_times
      refine bin_ok f f ?_
      refine ⟨⟨bn, bm, bn, bm⟩, fun n' m' hr => ?_⟩
      obtain ⟨rfl, rfl⟩ : n' = n * n ∧ m' = m * m := isR_eq (by omega) hr m2 (gcd_sq g) rfl
      walk_at "w"
      refine ⟨mok bn bn, mok bm bm, rfl, rfl, sz_vr, fun b hb => ?_⟩
      obtain rfl : b = true := hb.mpr rfl
      try walk_at "w"
      have ee : 61 * 2 ^ (i + 1) = 61 * 2 ^ i + 61 * 2 ^ i := by rw [Nat.pow_succ]; omega
      exact wk.of ⟨rfl, _, _, _, _, rfl, form_of m2 (gcd_sq g), by rw [ee]; exact hn.mul hn, by rw [ee]; exact hm.mul hm⟩
    · rintro ρ μ' ⟨rfl, n, m, q3, q4, rfl, f, hn, hm⟩
      rw [fixi, rng_len] at hn hm
      have h2 : 2 ^ (Int.toNat many) ≤ 2 ^ 6 := Nat.pow_le_pow_right (by decide) (by omega)
      unfold w_law_power_2
      walk_at "w"
      exact ⟨by decide, dwn.of (h n m f (hn.mono (by omega)) (hm.mono (by omega)))⟩
  · exact h.elim
theorem len_law_power (A : Ad) : ∀ ds μ Q E, c_law_power A ds μ Q E → ds.length = 2 := by
  intro ds μ Q E h
  unfold c_law_power at h
  first | (split at h) | (split at h)
  all_goals first | rfl | exact h.elim
theorem ok_law_power {P : Program} {w : World} {K : PySem.W.Frag} {mg : Str → Option Value} {base : Heap} {A : Ad} (D : Dfn K mg "_law_power" "_law_power" s_law_power ["x", "many"]) (T : Tx P base K mg A) (G_law_same : DfOk P w K mg base "_law_same" 2 ["told", "wanted"] (c_law_same A)) (G_law_asked : DfOk P w K mg base "_law_asked" 39 ["op", "thing"] (c_law_asked A)) : DfOk P w K mg base "_law_power" 40 ["x", "many"] (c_law_power A) := by
  obtain ⟨f, fd, F, hm, hb⟩ := D
  refine ⟨f, fd, okD F sc_law_power (by decide) (len_law_power A) ?_, hm, F.kp, hb⟩
  intro X W E cdv B outer s H Ex hX tk hp hr
  subst hX
  exact ⟨_, w_law_power A E, (scons (sset (i := 2) (ev 0) sc_law_power.nd)
  (scons (sfor hp (ir1 T.b_range (acons (ev 1) anil)) (gnm 3 sc_law_power.nd) (scons (sset (i := 4) (ecall2 tk G_law_asked (hr.mono (by decide)) (acons ei (acons (ev 2) anil))) sc_law_power.nd)
  (scons (sif (tnot (tval (ecall2 tk G_law_same (hr.mono (by decide)) (acons (ev 4) (acons (etup (acons es' (acons (etup (acons (emul (eix (ev 2) ei) (eix (ev 2) ei)) (acons (emul (eix (ev 2) ei) (eix (ev 2) ei)) anil))) anil))) anil))))) (sone (sret (elstF anil))) snil)
  (sone (sset (i := 2) (eix (ev 4) ei) sc_law_power.nd)))))
  (sone (sret (elstF (acons (ev 2) anil)))))), fun ds μ Q E0 hc hE => by subst hE; exact pure_law_power A ds μ Q E0 hc⟩
end K01
set_option maxHeartbeats 800000
namespace K01
open PySem L2 DL
local macro_rules | `(tactic| walk_at "w") => `(tactic| simp only [wSeq, wNext, wIf, wRet, wRetN, wDrop, wAsg, gN, wVar, wC, wOp, wUn, wNil, wCons, wCB, wTup, wLst, wLstF, wTe, tB0, wAnd, wOr, wNot, wAndV, wOrV, wNotV, wIfE, wCall, wCallG, wRaise, wFrz, fFrz, rets, fI, fI0, fAdd, fSub, fMul, fLt, fLe, fGt, fGe, fMod, fModN, fPow, fDiv, fDivG, fNeg, fEq, fNe, eqF_int, eqF_bl, eqF_str, scal_int, scal_bl, scal_str, fLen, sv, fIx, fAbs, fInt, fList, wSl, fSlL, oNo, oSo, lvr, lv, fCat, wMeL, fApp, fPop, fSetL, gSb, iLs, iTp, iR1, iR2, wFor, gTp, gCn, gNl, wPar, wBrk, wCnt, fIsi, wIsx, wLc, wYes, wip, wTr, truD, wTry, clrD, wFld, fieldsD, wSetF, wMeth, wMake, fStrI, fFmt, wJoin, wJs, wChain, fAddS, fIsN, fNotN, um_same, um_um, st0, List.map_cons, List.map_nil, List.length_cons, List.length_nil, List.getElem?_cons_zero, List.getElem?_cons_succ, List.set_cons_zero, List.set_cons_succ, List.cons_append, List.nil_append, List.replicate, atI_c0, atI_c1, atI_c2, atI_c3, atI_c4, atI_c5, atI_c6, ixN_70, ixN_71, ixN_72, ixN_73, ixN_74, ixN_75, ixN_76, Nat.reduceAdd, ite_T, ite_F, if_dec, if_ndec, if_nb, true_and, if_true, Bool.false_eq_true, if_false])
/-- at most ten to the k -/
def L10 (k : Nat) (x : Int) : Prop := x.natAbs ≤ 10 ^ k
theorem L10.mul {k j : Nat} {x y : Int} (h : L10 k x) (h' : L10 j y) : L10 (k + j) (x * y) := by
  unfold L10 at *
  rw [Int.natAbs_mul, Nat.pow_add]
  exact Nat.mul_le_mul h h'
theorem L10.mono {k j : Nat} {x : Int} (h : L10 k x) (l : k ≤ j) : L10 j x := Nat.le_trans h (Nat.pow_le_pow_right (by decide) l)
theorem bigL : (10 : Nat) ^ 4000 < 2 ^ 13300 := by decide +kernel
theorem L10.bd {x : Int} (h : L10 4000 x) : Bd 13300 x := Nat.lt_of_le_of_lt h bigL
theorem l10_60 : L10 60 ((10 : Int) ^ (60 : Int).toNat) := by
  unfold L10
  rw [Int.natAbs_pow]
  exact Nat.le_refl _
def c_law_long_number (A : Ad) : Ct := fun ds μ Q _ => match ds with
  | [.mut p, .int g] => 1 ≤ g ∧ g ≤ 4000 ∧ ∃ st, μ p = some (.lst st) ∧ StOk st ∧ ∀ (n : Int) (st' : List D), T10 4001 n → StOk st' → Q (.int n) (um μ p (.lst st'))
  | _ => False
abbrev s_law_long_number : Stmt := top 54
theorem sc_law_long_number : FnScope ["store", "digits", "number", "k", "way"] ["store", "digits"] (defScope s_law_long_number) := ⟨rfl, rfl, rfl, by decide +kernel, rfl, by decide +kernel, by decide +kernel⟩
def w_law_long_number_3 (A : Ad) (E : EX) : WS := (wSeq (wAsg (wCall (c_law_take A) E (wCons (wVar 0) (wCons (wC (.int (3))) wNil))) (gN 4))
  (wSeq (wIf (wTe (wOp fEq (wVar 4) (wC (.int (1))))) (wAsg (wOp fSub (wOp fMul (wVar 2) (wC (.int (10)))) (wC (.int (1)))) (gN 2)) wNext)
  (wSeq (wIf (wAnd (wTe (wOp fEq (wVar 4) (wC (.int (2))))) (wTe (wOp fGt (wVar 1) (wC (.int (1)))))) (wAsg (wOp fAdd (wOp fMul (wVar 2) (wC (.int (9)))) (wC (.int (1)))) (gN 2)) wNext)
  (wSeq (wIf (wTe (wOp fEq (wCall (c_law_take A) E (wCons (wVar 0) (wCons (wC (.int (2))) wNil))) (wC (.int (0))))) (wRet (wOp fSub (wC (.int (0))) (wVar 2))) wNext)
  (wRet (wVar 2))))))
def w_law_long_number_b1 (A : Ad) (E : EX) : WS := (wAsg (wOp fMul (wVar 2) (wC (.int (10)))) (gN 2))
def w_law_long_number_2 (A : Ad) (E : EX) : WS := (wSeq (wFor (iR1 (wCons (wOp fMod (wCB fInt (wCons (wOp fSub (wVar 1) (wC (.int (1)))) wNil)) (wC (.int (60)))) wNil)) (gN 3) (w_law_long_number_b1 A E))
  (w_law_long_number_3 A E))
def w_law_long_number_b2 (A : Ad) (E : EX) : WS := (wAsg (wOp fMul (wVar 2) (wOp fPow (wC (.int (10))) (wC (.int (60))))) (gN 2))
def w_law_long_number (A : Ad) (E : EX) : WS := (wSeq (wAsg (wC (.int (1))) (gN 2))
  (wSeq (wFor (iR1 (wCons (wOp fDiv (wOp fSub (wVar 1) (wC (.int (1)))) (wC (.int (60)))) wNil)) (gN 3) (w_law_long_number_b2 A E))
  (w_law_long_number_2 A E)))
theorem pure_law_long_number (A : Ad) (ds μ Q E0) (h : c_law_long_number A ds μ Q E0) : w_law_long_number A (fun C fs _ μ => dwx E0 C fs μ) (rets Q) (st0 5 ds) μ := by
  unfold c_law_long_number at h
  split at h
  · rename_i p g
    obtain ⟨g1, g2, st, hp, hst, h⟩ := h
    unfold w_law_long_number
    walk_at "w"
    have r3 : ∀ (q : Int) (r3 r4 : Option D), L10 3999 q → w_law_long_number_3 A (fun C fs x μ => dwx E0 C fs μ) (rets Q) [some (.mut p), some (.int g), some (.int q), r3, r4] μ := by
      intro q r3 r4 hq
      have b0 : Bd 13300 q := (hq.mono (by decide)).bd
      unfold w_law_long_number_3
      walk_at "w"
      refine ⟨st, hp, hst, bd_small (n := 2990) (by decide) (by decide), fun w st1 hs1 w0 w1 _ => ?_⟩
      have fin : ∀ (z : Int), T10 4001 z → c_law_take A [.mut p, .int 2] (um μ p (.lst st1)) (fun d μ1 => scalD d (.int 0) = true ∧ if eqF d (.int 0) = true then dwn Q (.int (0 - z)) μ1 else dwn Q (.int z) μ1) (fun C fs μ2 => dwx E0 C fs μ2) := by
        intro z hz
        refine ⟨st1, um_same, hs1, bd_small (n := 2990) (by decide) (by decide), fun k st2 hs2 _ _ _ => ?_⟩
        rw [um_um]
        refine ⟨rfl, ?_⟩
        have hz2 : T10 4001 (0 - z) := by unfold T10 at *; omega
        split
        · exact dwn.of (h _ st2 hz2 hs2)
        · exact dwn.of (h _ st2 hz hs2)
      have e1 : (10 : Nat) ^ 4001 = 10 * 10 ^ 4000 := by rw [show 4001 = 1 + 4000 from rfl, Nat.pow_add]
      have e2 : (10 : Nat) ^ 4000 = 10 * 10 ^ 3999 := by rw [show 4000 = 1 + 3999 from rfl, Nat.pow_add]
      have p1 : 1 ≤ (10 : Nat) ^ 3999 := Nat.one_le_pow _ _ (by decide)
      have hq' : q.natAbs ≤ 10 ^ 3999 := hq
      generalize (10 : Nat) ^ 3999 = G at hq' e2 p1
      have t0 : T10 4001 q := by unfold T10; omega
      have t1 : T10 4001 (q * 10 - 1) := by unfold T10; omega
      have t2 : T10 4001 (q * 9 + 1) := by unfold T10; omega
      walk_at "w"
      refine ite2 (fun c => ⟨mulR (by decide), ite2 (fun c2 => absurd (c.symm.trans c2) (by decide)) (fun _ => fin _ t1)⟩) (fun _ => ite2 (fun _ => ite2 (fun _ => ⟨mulR (by decide), fin _ t2⟩) (fun _ => fin _ t0)) (fun _ => fin _ t0))
    have a0 : 0 ≤ (g - 1) / 60 := by omega
    have r2 : ∀ (q : Int) (r3 : Option D), L10 (60 * ((g - 1) / 60).toNat) q → w_law_long_number_2 A (fun C fs x μ => dwx E0 C fs μ) (rets Q) [some (.mut p), some (.int g), some (.int q), r3, none] μ := by
      intro q r3' hq
      unfold w_law_long_number_2
      walk_at "w"
      refine ⟨by decide, ⟨by omega, by omega⟩, fun i ρ μ' => μ' = μ ∧ ∃ (q : Int) (r3 : Option D), ρ = [some (.mut p), some (.int g), some (.int q), r3, none] ∧ L10 (60 * ((g - 1) / 60).toNat + i) q, ⟨rfl, q, _, rfl, hq⟩, fun _ _ _ _ => trivial, ?_, ?_⟩
      · rintro i d ρ μ' hd ⟨rfl, q, r3, rfl, hq⟩
        unfold w_law_long_number_b1
        walk_at "w"
        exact ⟨mulR (by decide), wk.of ⟨rfl, _, _, rfl, hq.mul (j := 1) (show (10 : Int).natAbs ≤ 10 ^ 1 by decide)⟩⟩
      · rintro ρ μ' ⟨rfl, q, r3', rfl, hq⟩
        rw [fixi, rng_len] at hq
        exact r3 q _ _ (hq.mono (by omega))
    refine ⟨⟨by decide, by decide⟩, ⟨by omega, by omega⟩, fun i ρ μ' => μ' = μ ∧ ∃ (q : Int) (r3 : Option D), ρ = [some (.mut p), some (.int g), some (.int q), r3, none] ∧ L10 (60 * i) q, ⟨rfl, 1, _, rfl, show (1 : Int).natAbs ≤ 10 ^ 0 by decide⟩, fun _ _ _ _ => trivial, ?_, ?_⟩
    · rintro i d ρ μ' hd ⟨rfl, q, r3', rfl, hq⟩
      rw [fixi] at hd
      have hi := (rng_at hd).1
      have bq : Bd 13300 q := (hq.mono (by omega)).bd
      have b6 : Bd 13300 ((10 : Int) ^ (60 : Int).toNat) := (l10_60.mono (by decide)).bd
      unfold w_law_long_number_b2
      walk_at "w"
      refine ⟨pw (by decide), mulOk bq b6 (by decide), wk.of ⟨rfl, _, _, rfl, ?_⟩⟩
      have := hq.mul l10_60
      rw [show 60 * (i + 1) = 60 * i + 60 by omega]
      exact this
    · rintro ρ μ' ⟨rfl, q, r3', rfl, hq⟩
      rw [fixi, rng_len] at hq
      exact r2 q _ hq
  · exact h.elim
theorem len_law_long_number (A : Ad) : ∀ ds μ Q E, c_law_long_number A ds μ Q E → ds.length = 2 := by
  intro ds μ Q E h
  unfold c_law_long_number at h
  first | (split at h) | (split at h)
  all_goals first | rfl | exact h.elim
theorem ok_law_long_number {P : Program} {w : World} {K : PySem.W.Frag} {mg : Str → Option Value} {base : Heap} {A : Ad} (D : Dfn K mg "_law_long_number" "_law_long_number" s_law_long_number ["store", "digits"]) (T : Tx P base K mg A) (G_law_take : DfOk P w K mg base "_law_take" 2 ["store", "many"] (c_law_take A)) : DfOk P w K mg base "_law_long_number" 3 ["store", "digits"] (c_law_long_number A) := by
  obtain ⟨f, fd, F, hm, hb⟩ := D
  refine ⟨f, fd, okD F sc_law_long_number (by decide) (len_law_long_number A) ?_, hm, F.kp, hb⟩
  intro X W E cdv B outer s H Ex hX tk hp hr
  subst hX
  exact ⟨_, w_law_long_number A E, (scons (sset (i := 2) ei sc_law_long_number.nd)
  (scons (sfor hp (ir1 T.b_range (acons (ediv (esub (ev 1) ei) ei) anil)) (gnm 3 sc_law_long_number.nd) (sone (sset (i := 2) (emul (ev 2) (epow ei ei)) sc_law_long_number.nd)))
  (scons (sfor hp (ir1 T.b_range (acons (emod (ecty call_int1 dc_int T.b_int (acons (esub (ev 1) ei) anil)) ei) anil)) (gnm 3 sc_law_long_number.nd) (sone (sset (i := 2) (emul (ev 2) ei) sc_law_long_number.nd)))
  (scons (sset (i := 4) (ecall2 tk G_law_take (hr.mono (by decide)) (acons (ev 0) (acons ei anil))) sc_law_long_number.nd)
  (scons (sif (tc' op_eq do_eq (ev 4) ei) (sone (sset (i := 2) (esub (emul (ev 2) ei) ei) sc_law_long_number.nd)) snil)
  (scons (sif (tbo (tand (tc' op_eq do_eq (ev 4) ei) (tand1 (tc' op_gt do_gt (ev 1) ei)))) (sone (sset (i := 2) (eadd (emul (ev 2) ei) ei) sc_law_long_number.nd)) snil)
  (scons (sif (tc' op_eq do_eq (ecall2 tk G_law_take (hr.mono (by decide)) (acons (ev 0) (acons ei anil))) ei) (sone (sret (esub ei (ev 2)))) snil)
  (sone (sret (ev 2)))))))))), fun ds μ Q E0 hc hE => by subst hE; exact pure_law_long_number A ds μ Q E0 hc⟩
end K01
set_option maxHeartbeats 800000
namespace K01
open PySem L2 DL
local macro_rules | `(tactic| walk_at "w") => `(tactic| simp only [wSeq, wNext, wIf, wRet, wRetN, wDrop, wAsg, gN, wVar, wC, wOp, wUn, wNil, wCons, wCB, wTup, wLst, wLstF, wTe, tB0, wAnd, wOr, wNot, wAndV, wOrV, wNotV, wIfE, wCall, wCallG, wRaise, wFrz, fFrz, rets, fI, fI0, fAdd, fSub, fMul, fLt, fLe, fGt, fGe, fMod, fModN, fPow, fDiv, fDivG, fNeg, fEq, fNe, eqF_int, eqF_bl, eqF_str, scal_int, scal_bl, scal_str, fLen, sv, fIx, fAbs, fInt, fList, wSl, fSlL, oNo, oSo, lvr, lv, fCat, wMeL, fApp, fPop, fSetL, gSb, iLs, iTp, iR1, iR2, wFor, gTp, gCn, gNl, wPar, wBrk, wCnt, fIsi, wIsx, wLc, wYes, wip, wTr, truD, wTry, clrD, wFld, fieldsD, wSetF, wMeth, wMake, fStrI, fFmt, wJoin, wJs, wChain, fAddS, fIsN, fNotN, um_same, um_um, st0, List.map_cons, List.map_nil, List.length_cons, List.length_nil, List.getElem?_cons_zero, List.getElem?_cons_succ, List.set_cons_zero, List.set_cons_succ, List.cons_append, List.nil_append, List.replicate, atI_c0, atI_c1, atI_c2, atI_c3, atI_c4, atI_c5, atI_c6, ixN_70, ixN_71, ixN_72, ixN_73, ixN_74, ixN_75, ixN_76, Nat.reduceAdd, ite_T, ite_F, if_dec, if_ndec, if_nb, true_and, if_true, Bool.false_eq_true, if_false])
def c_law_ends (A : Ad) : Ct := fun ds μ Q _ => match ds with
  | [d] => ∃ (r : Int × Int) (l : List (Int × Int)), lv μ d = some ((r :: l).map dP) ∧ (∀ q ∈ r :: l, BB q.1 ∧ BB q.2) ∧ Q (.lst [dP (leastP r (r :: l)), dP (mostP r (r :: l))]) μ
  | _ => False
abbrev s_law_ends : Stmt := top 65
theorem sc_law_ends : FnScope ["rows", "least", "most", "x"] ["rows"] (defScope s_law_ends) := ⟨rfl, rfl, rfl, by decide +kernel, rfl, by decide +kernel, by decide +kernel⟩
def w_law_ends_b1 (A : Ad) (E : EX) : WS := (wSeq (wIf (wTe (wCall (c_law_below A) E (wCons (wVar 3) (wCons (wVar 1) wNil)))) (wAsg (wVar 3) (gN 1)) wNext)
  (wIf (wTe (wCall (c_law_below A) E (wCons (wVar 2) (wCons (wVar 3) wNil)))) (wAsg (wVar 3) (gN 2)) wNext))
def w_law_ends_2 (A : Ad) (E : EX) : WS := (wSeq (wFor (iLs (wVar 0)) (gN 3) (w_law_ends_b1 A E))
  (wRet (wLstF (wCons (wVar 1) (wCons (wVar 2) wNil)))))
def w_law_ends (A : Ad) (E : EX) : WS := (wSeq (wAsg (wOp fIx (wVar 0) (wC (.int (0)))) (gN 1))
  (wSeq (wAsg (wOp fIx (wVar 0) (wC (.int (0)))) (gN 2))
  (w_law_ends_2 A E)))
theorem pure_law_ends (A : Ad) (ds μ Q E0) (h : c_law_ends A ds μ Q E0) : w_law_ends A (fun C fs _ μ => dwx E0 C fs μ) (rets Q) (st0 4 ds) μ := by
  unfold c_law_ends at h
  split at h
  · rename_i d
    obtain ⟨r, l, el, hb, h⟩ := h
    have es := sv_lv el
    unfold w_law_ends
    walk_at "w"
    unfold sv at es
    rw [es]
    walk_at "w"
    unfold w_law_ends_2 wSeq
    refine for_lv el rfl (fun i ρ μ' => μ' = μ ∧ ∃ (q s : Int × Int) (r3 : Option D), q ∈ r :: l ∧ s ∈ r :: l ∧ q = leastP r ((r :: l).take i) ∧ s = mostP r ((r :: l).take i) ∧ ρ = [some d, some (dP q), some (dP s), r3]) ⟨rfl, r, r, none, List.mem_cons_self, List.mem_cons_self, rfl, rfl, rfl⟩ (fun i ρ' μ' hI => by rw [hI.1]; exact le.refl) ?_ ?_
    · rintro i e ρ' μ' he ⟨rfl, q, s, r3, hq, hs, eq, eqs, rfl⟩
      rw [List.getElem?_map] at he
      cases hp : (r :: l)[i]? with
      | none => rw [hp] at he; cases he
      | some p =>
        rw [hp] at he
        obtain rfl : dP p = e := Option.some.inj he
        have hpm := List.mem_of_getElem? hp
        have bp := hb p hpm
        have bq := hb q hq
        have bs := hb s hs
        have tk := leastP_take (r := r) hp
        have tm := mostP_take (r := r) hp
        rw [← eq] at tk
        rw [← eqs] at tm
        have second : ∀ (z : Int × Int), z ∈ r :: l → z = leastP r ((r :: l).take (i + 1)) → c_law_below A [dP s, dP p] μ' (fun d2 μ1 => match d2 with
            | .bl b => if b = true then wk (fun ρ μ'' => μ'' = μ' ∧ ∃ (q s : Int × Int) (r3 : Option D), q ∈ r :: l ∧ s ∈ r :: l ∧ q = leastP r ((r :: l).take (i + 1)) ∧ s = mostP r ((r :: l).take (i + 1)) ∧ ρ = [some d, some (dP q), some (dP s), r3]) [some d, some (dP z), some (dP p), some (dP p)] μ1
              else wk (fun ρ μ'' => μ'' = μ' ∧ ∃ (q s : Int × Int) (r3 : Option D), q ∈ r :: l ∧ s ∈ r :: l ∧ q = leastP r ((r :: l).take (i + 1)) ∧ s = mostP r ((r :: l).take (i + 1)) ∧ ρ = [some d, some (dP q), some (dP s), r3]) [some d, some (dP z), some (dP s), some (dP p)] μ1
            | _ => False) (fun C fs μ2 => dwx E0 C fs μ2) := by
          intro z hz ez
          refine ⟨⟨bs.1, bs.2, bp.1, bp.2⟩, ?_⟩
          by_cases c : lt2 s p
          · rw [if_pos c] at tm
            rw [decide_eq_true (show s.1 * p.2 < p.1 * s.2 from c)]
            exact wk.of ⟨rfl, z, p, _, hz, hpm, ez, tm.symm, rfl⟩
          · rw [if_neg c] at tm
            rw [decide_eq_false (show ¬ s.1 * p.2 < p.1 * s.2 from c)]
            exact wk.of ⟨rfl, z, s, _, hz, hs, ez, tm.symm, rfl⟩
        unfold w_law_ends_b1
        walk_at "w"
        refine ⟨⟨bp.1, bp.2, bq.1, bq.2⟩, ?_⟩
        by_cases c : lt2 p q
        · rw [if_pos c] at tk
          rw [decide_eq_true (show p.1 * q.2 < q.1 * p.2 from c)]
          exact second p hpm tk.symm
        · rw [if_neg c] at tk
          rw [decide_eq_false (show ¬ p.1 * q.2 < q.1 * p.2 from c)]
          exact second q hq tk.symm
    · rintro ρ' μ' ⟨rfl, q, s, r3, hq, hs, eq, eqs, rfl⟩
      rw [List.length_map, List.take_length] at eq eqs
      walk_at "w"
      rw [eq, eqs]
      exact ⟨by decide, dwn.of h⟩
  · exact h.elim
theorem len_law_ends (A : Ad) : ∀ ds μ Q E, c_law_ends A ds μ Q E → ds.length = 1 := by
  intro ds μ Q E h
  unfold c_law_ends at h
  first | (split at h) | (split at h)
  all_goals first | rfl | exact h.elim
theorem ok_law_ends {P : Program} {w : World} {K : PySem.W.Frag} {mg : Str → Option Value} {base : Heap} {A : Ad} (D : Dfn K mg "_law_ends" "_law_ends" s_law_ends ["rows"]) (T : Tx P base K mg A) (G_law_below : DfOk P w K mg base "_law_below" 1 ["a", "b"] (c_law_below A)) : DfOk P w K mg base "_law_ends" 2 ["rows"] (c_law_ends A) := by
  obtain ⟨f, fd, F, hm, hb⟩ := D
  refine ⟨f, fd, okD F sc_law_ends (by decide) (len_law_ends A) ?_, hm, F.kp, hb⟩
  intro X W E cdv B outer s H Ex hX tk hp hr
  subst hX
  exact ⟨_, w_law_ends A E, (scons (sset (i := 1) (eix (ev 0) ei) sc_law_ends.nd)
  (scons (sset (i := 2) (eix (ev 0) ei) sc_law_ends.nd)
  (scons (sfor hp (il (ev 0)) (gnm 3 sc_law_ends.nd) (scons (sif (tval (ecall2 tk G_law_below (hr.mono (by decide)) (acons (ev 3) (acons (ev 1) anil)))) (sone (sset (i := 1) (ev 3) sc_law_ends.nd)) snil)
  (sone (sif (tval (ecall2 tk G_law_below (hr.mono (by decide)) (acons (ev 2) (acons (ev 3) anil)))) (sone (sset (i := 2) (ev 3) sc_law_ends.nd)) snil))))
  (sone (sret (elstF (acons (ev 1) (acons (ev 2) anil)))))))), fun ds μ Q E0 hc hE => by subst hE; exact pure_law_ends A ds μ Q E0 hc⟩
end K01
set_option maxHeartbeats 800000
namespace K01
open PySem L2 DL PyProof.Rows
local macro_rules | `(tactic| walk_at "w") => `(tactic| simp only [wSeq, wNext, wIf, wRet, wRetN, wDrop, wAsg, gN, wVar, wC, wOp, wUn, wNil, wCons, wCB, wTup, wLst, wLstF, wTe, tB0, wAnd, wOr, wNot, wAndV, wOrV, wNotV, wIfE, wCall, wCallG, wRaise, wFrz, fFrz, rets, fI, fI0, fAdd, fSub, fMul, fLt, fLe, fGt, fGe, fMod, fModN, fPow, fDiv, fDivG, fNeg, fEq, fNe, eqF_int, eqF_bl, eqF_str, scal_int, scal_bl, scal_str, fLen, sv, fIx, fAbs, fInt, fList, wSl, fSlL, oNo, oSo, lvr, lv, fCat, wMeL, fApp, fPop, fSetL, gSb, iLs, iTp, iR1, iR2, wFor, gTp, gCn, gNl, wPar, wBrk, wCnt, fIsi, wIsx, wLc, wYes, wip, wTr, truD, wTry, clrD, wFld, fieldsD, wSetF, wMeth, wMake, fStrI, fFmt, wJoin, wJs, wChain, wRev, fRev, wDNew, wDNewF, wDsp1, wDsp1F, fAddS, fIsN, fNotN, um_same, um_um, st0, List.map_cons, List.map_nil, List.length_cons, List.length_nil, List.getElem?_cons_zero, List.getElem?_cons_succ, List.set_cons_zero, List.set_cons_succ, List.cons_append, List.nil_append, List.replicate, atI_c0, atI_c1, atI_c2, atI_c3, atI_c4, atI_c5, atI_c6, ixN_70, ixN_71, ixN_72, ixN_73, ixN_74, ixN_75, ixN_76, Nat.reduceAdd, ite_T, ite_F, if_dec, if_ndec, if_nb, true_and, if_true, Bool.false_eq_true, if_false])
theorem un_ok {A : Ad} {f : Int → Int → Mu → (D → Mu → Prop) → Prop} {a b : Int} {μ : Mu} {Q : D → Mu → Prop} {E : Addr → List (Str × D) → Mu → Prop} (hf : formB [a, b] = true) (h : f a b μ Q) : cUn A f [.tup [.int a, .int b]] μ Q E := by
  refine ⟨[a, b], rfl, ?_⟩
  rw [if_pos hf]
  intro a' b' e _
  cases e
  exact h
section
variable {A : Ad} {x : D} {μ : Mu} {Q : D → Mu → Prop} {E : Addr → List (Str × D) → Mu → Prop}
/-- where the answer is a value -/
def vQ (Q : D → Mu → Prop) : D → Mu → Prop := fun d μ' => Q (.tup [.str "value", d]) μ'
def fQ (A : Ad) (Q : D → Mu → Prop) : Addr → List (Str × D) → Mu → Prop := fun C fs μ' => fs = [] ∧ C = A.BadNumber ∧ Q dFault μ'
theorem ask_0 (h : c_floor_of A [x] μ (vQ Q) (fQ A Q)) : c_law_asked A [.int 0, x] μ Q E := by
  show askC _ _ _ _ _ _
  unfold askC
  rw [if_pos rfl]; exact h
theorem ask_1 (h : c_ceil_of A [x] μ (vQ Q) (fQ A Q)) : c_law_asked A [.int 1, x] μ Q E := by
  show askC _ _ _ _ _ _
  unfold askC
  rw [if_neg (by decide), if_pos rfl]; exact h
theorem ask_2 (h : c_text_of A [x] μ (vQ Q) (fQ A Q)) : c_law_asked A [.int 2, x] μ Q E := by
  show askC _ _ _ _ _ _
  unfold askC
  rw [if_neg (by decide), if_neg (by decide), if_pos rfl]; exact h
theorem ask_3 (h : c_least_of A [x] μ (vQ Q) (fQ A Q)) : c_law_asked A [.int 3, x] μ Q E := by
  show askC _ _ _ _ _ _
  unfold askC
  rw [if_neg (by decide), if_neg (by decide), if_neg (by decide), if_pos rfl]; exact h
theorem ask_4 (h : c_greatest_of A [x] μ (vQ Q) (fQ A Q)) : c_law_asked A [.int 4, x] μ Q E := by
  show askC _ _ _ _ _ _
  unfold askC
  rw [if_neg (by decide), if_neg (by decide), if_neg (by decide), if_neg (by decide), if_pos rfl]; exact h
theorem ask_5 (h : c_is_ratio A [x] μ (vQ Q) (fQ A Q)) : c_law_asked A [.int 5, x] μ Q E := by
  show askC _ _ _ _ _ _
  unfold askC
  rw [if_neg (by decide), if_neg (by decide), if_neg (by decide), if_neg (by decide), if_neg (by decide), if_pos rfl]; exact h
end
theorem div_at {x b k : Int} (hb : 0 < b) (h1 : k * b ≤ x) (h2 : x < (k + 1) * b) : x / b = k := Int.le_antisymm (Int.lt_add_one_iff.mp (Int.ediv_lt_of_lt_mul hb h2)) (Int.le_ediv_of_mul_le hb h1)
theorem floor_lo {a b : Int} (hb : 1 ≤ b) : a / b * b ≤ a := Int.ediv_mul_le a (by omega)
theorem floor_hi {a b : Int} (hb : 1 ≤ b) : a < (a / b + 1) * b := Int.lt_ediv_add_one_mul_self a (by omega)
theorem floor_abs {a b : Int} (hb : 1 ≤ b) : (a / b).natAbs ≤ a.natAbs := by
  by_cases h : 0 ≤ a
  · have h1 := Int.ediv_le_self b h
    have h2 := Int.ediv_nonneg h (show 0 ≤ b by omega)
    omega
  · have h1 : a ≤ a / b := Int.le_ediv_of_mul_le (by omega) (by
      have := Int.mul_le_mul_of_nonpos_left (show a ≤ 0 by omega) hb
      omega)
    have h2 := Int.ediv_neg_of_neg_of_pos (show a < 0 by omega) (show 0 < b by omega)
    omega
theorem ceil_same {a b : Int} (hb : 1 ≤ b) (e : a / b * b = a) : -((-a) / b) = a / b := by
  have : (-a) / b = -(a / b) := div_at (by omega) (by rw [Int.neg_mul]; omega) (by rw [Int.add_mul, Int.neg_mul]; omega)
  omega
theorem ceil_more {a b : Int} (hb : 1 ≤ b) (e : a / b * b ≠ a) : -((-a) / b) = a / b + 1 := by
  have h1 := floor_lo (a := a) hb
  have h2 := floor_hi (a := a) hb
  rw [Int.add_mul] at h2
  have : (-a) / b = -(a / b + 1) := div_at (by omega) (by rw [Int.neg_mul, Int.add_mul]; omega) (by rw [Int.add_mul, Int.neg_mul, Int.add_mul]; omega)
  omega
theorem bb_add1 {a q : Int} (h : T10 3904 a) (l : q.natAbs ≤ a.natAbs) : BB (q + 1) :=
  Bd.mono (n := 13001) (Bd.add (n := 13000) (Nat.lt_of_le_of_lt l (Nat.lt_of_lt_of_le h big10)) (Nat.one_lt_two_pow (by decide))) (by decide)
theorem sz_vi {x : Str} {n : Int} : szD (.tup [.str x, .int n]) < 100000 := (show 1 + (1 + (1 + 0)) < 100000 by decide)
theorem sz_vs {x y : Str} : szD (.tup [.str x, .str y]) < 100000 := (show 1 + (1 + (1 + 0)) < 100000 by decide)
def c_law_rounded (A : Ad) : Ct := fun ds μ Q _ => match ds with
  | [.tup [.int a, .int b]] => formB [a, b] = true ∧ T10 3904 a ∧ T10 3904 b ∧ Q (.bl true) μ
  | _ => False
abbrev s_law_rounded : Stmt := top 64
theorem sc_law_rounded : FnScope ["x", "told", "low", "high", "text"] ["x"] (defScope s_law_rounded) := ⟨rfl, rfl, rfl, by decide +kernel, rfl, by decide +kernel, by decide +kernel⟩
def w_law_rounded_8 (A : Ad) (E : EX) : WS := (wRet (wAndV (wCall (c_law_same A) E (wCons (wCall (c_law_asked A) E (wCons (wC (.int (1))) (wCons (wVar 0) wNil))) (wCons (wTup (wCons (wC (.str "value")) (wCons (wVar 3) wNil))) wNil))) (wCall (c_law_same A) E (wCons (wCall (c_law_asked A) E (wCons (wC (.int (2))) (wCons (wVar 0) wNil))) (wCons (wTup (wCons (wC (.str "value")) (wCons (wVar 4) wNil))) wNil)))))
def w_law_rounded_6 (A : Ad) (E : EX) : WS := (wSeq (wAsg (wCB fStrI (wCons (wOp fIx (wVar 0) (wC (.int (0)))) wNil)) (gN 4))
  (wSeq (wIf (wTe (wOp fNe (wOp fIx (wVar 0) (wC (.int (1)))) (wC (.int (1))))) (wAsg (wOp fAddS (wOp fAddS (wVar 4) (wC (.str "/"))) (wCB fStrI (wCons (wOp fIx (wVar 0) (wC (.int (1)))) wNil))) (gN 4)) wNext)
  (w_law_rounded_8 A E)))
def w_law_rounded_5 (A : Ad) (E : EX) : WS := (wSeq (wIf (wTe (wOp fNe (wOp fMul (wVar 2) (wOp fIx (wVar 0) (wC (.int (1))))) (wOp fIx (wVar 0) (wC (.int (0)))))) (wAsg (wOp fAdd (wVar 2) (wC (.int (1)))) (gN 3)) wNext)
  (w_law_rounded_6 A E))
def w_law_rounded_4 (A : Ad) (E : EX) : WS := (wSeq (wAsg (wVar 2) (gN 3))
  (w_law_rounded_5 A E))
def w_law_rounded_3 (A : Ad) (E : EX) : WS := (wSeq (wIf (wNot (wTe (wChain fLe fLt (wOp fMul (wVar 2) (wOp fIx (wVar 0) (wC (.int (1))))) (wOp fIx (wVar 0) (wC (.int (0)))) (wOp fMul (wOp fAdd (wVar 2) (wC (.int (1)))) (wOp fIx (wVar 0) (wC (.int (1)))))))) (wRet (wC (.bl false))) wNext)
  (w_law_rounded_4 A E))
def w_law_rounded (A : Ad) (E : EX) : WS := (wSeq (wAsg (wCall (c_law_asked A) E (wCons (wC (.int (0))) (wCons (wVar 0) wNil))) (gN 1))
  (wSeq (wIf (wOr (wTe (wOp fNe (wOp fIx (wVar 1) (wC (.int (0)))) (wC (.str "value")))) (wNot (wTe (wCall (c_law_number A) E (wCons (wOp fIx (wVar 1) (wC (.int (1)))) wNil))))) (wRet (wC (.bl false))) wNext)
  (wSeq (wAsg (wOp fIx (wVar 1) (wC (.int (1)))) (gN 2))
  (w_law_rounded_3 A E))))
theorem pure_law_rounded (A : Ad) (ds μ Q E0) (h : c_law_rounded A ds μ Q E0) : w_law_rounded A (fun C fs _ μ => dwx E0 C fs μ) (rets Q) (st0 5 ds) μ := by
  unfold c_law_rounded at h
  split at h
  · rename_i a b
    obtain ⟨hf, ha, hb, h⟩ := h
    unfold w_law_rounded
    walk_at "w"
    obtain ⟨b1, hg⟩ := of_form hf
    have ba := ha.bb
    have bb := hb.bb
    have fl := floor_lo (a := a) b1
    have fh := floor_hi (a := a) b1
    have bf : BB (a / b) := Nat.lt_of_le_of_lt (floor_abs b1) ba
    have r8 : ∀ (t l hh : Option D) (hi : Int), hi = -((-a) / b) → w_law_rounded_8 A (fun C fs _ μ => dwx E0 C fs μ) (rets Q) [some (.tup [.int a, .int b]), t, l, some (.int hi), some (.str (txt a b))] μ := by
      intro t l hh hi e
      unfold w_law_rounded_8
      walk_at "w"
      refine ask_1 (un_ok hf ?_)
      refine ⟨by decide, rfl, rfl, sz_vi, fun k hk => ?_⟩
      obtain rfl : k = true := hk.mpr (by rw [e])
      walk_at "w"
      refine ask_2 (un_ok hf ⟨⟨ha.d4, hb.d4⟩, by decide, rfl, rfl, sz_vs, fun k hk => ?_⟩)
      obtain rfl : k = true := hk.mpr rfl
      exact dwn.of h
    have r6 : ∀ (t l hh : Option D) (hi : Int), hi = -((-a) / b) → w_law_rounded_6 A (fun C fs _ μ => dwx E0 C fs μ) (rets Q) [some (.tup [.int a, .int b]), t, l, some (.int hi), hh] μ := by
      intro t l hh hi e
      have la := tI_len ha.d4
      have lb := tI_len hb.d4
      have hr := r8 t l hh hi e
      unfold txt at hr
      unfold w_law_rounded_6
      walk_at "w"
      refine ⟨ha.d4.lt, ite2 (fun c => ?_) (fun c => ?_)⟩
      · rw [if_pos c] at hr
        exact hr
      · rw [if_neg c] at hr
        refine ⟨?_, hb.d4.lt, ?_, hr⟩
        · show (tI a).length + _ ≤ _
          rw [slash_len, szL]; omega
        · show (tI a ++ _).length + (tI b).length ≤ _
          rw [Str.length_append, slash_len, szL]; omega
    refine ask_0 (un_ok hf ?_)
    unfold vQ
    walk_at "w"
    refine ⟨⟨_, rfl⟩, ?_⟩
    unfold isI
    walk_at "w"
    unfold w_law_rounded_3
    walk_at "w"
    refine ⟨mok bf bb, ?_⟩
    rw [if_pos fl]
    refine ⟨mok (bb_add1 ha (floor_abs b1)) bb, ?_⟩
    rw [if_pos fh]
    unfold w_law_rounded_4
    walk_at "w"
    unfold w_law_rounded_5
    walk_at "w"
    exact ⟨mok bf bb, ite2 (fun c => r6 _ _ _ _ (ceil_same b1 (by omega)).symm) (fun c => r6 _ _ _ _ (ceil_more b1 (by omega)).symm)⟩
  · exact h.elim
theorem len_law_rounded (A : Ad) : ∀ ds μ Q E, c_law_rounded A ds μ Q E → ds.length = 1 := by
  intro ds μ Q E h
  unfold c_law_rounded at h
  first | (split at h) | (split at h)
  all_goals first | rfl | exact h.elim
theorem ok_law_rounded {P : Program} {w : World} {K : PySem.W.Frag} {mg : Str → Option Value} {base : Heap} {A : Ad} (D : Dfn K mg "_law_rounded" "_law_rounded" s_law_rounded ["x"]) (T : Tx P base K mg A) (G_law_same : DfOk P w K mg base "_law_same" 2 ["told", "wanted"] (c_law_same A)) (G_law_asked : DfOk P w K mg base "_law_asked" 39 ["op", "thing"] (c_law_asked A)) (G_law_number : DfOk P w K mg base "_law_number" 1 ["told"] (c_law_number A)) : DfOk P w K mg base "_law_rounded" 40 ["x"] (c_law_rounded A) := by
  obtain ⟨f, fd, F, hm, hb⟩ := D
  refine ⟨f, fd, okD F sc_law_rounded (by decide) (len_law_rounded A) ?_, hm, F.kp, hb⟩
  intro X W E cdv B outer s H Ex hX tk hp hr
  subst hX
  exact ⟨_, w_law_rounded A E, (scons (sset (i := 1) (ecall2 tk G_law_asked (hr.mono (by decide)) (acons ei (acons (ev 0) anil))) sc_law_rounded.nd)
  (scons (sif (tbo (tor (tc' op_ne do_ne (eix (ev 1) ei) es') (tor1 (tnot (tval (ecall2 tk G_law_number (hr.mono (by decide)) (acons (eix (ev 1) ei) anil))))))) (sone (sret eb)) snil)
  (scons (sset (i := 2) (eix (ev 1) ei) sc_law_rounded.nd)
  (scons (sif (tnot (tchain op_le do_le op_lt do_lt (emul (ev 2) (eix (ev 0) ei)) (eix (ev 0) ei) (emul (eadd (ev 2) ei) (eix (ev 0) ei)))) (sone (sret eb)) snil)
  (scons (sset (i := 3) (ev 2) sc_law_rounded.nd)
  (scons (sif (tc' op_ne do_ne (emul (ev 2) (eix (ev 0) ei)) (eix (ev 0) ei)) (sone (sset (i := 3) (eadd (ev 2) ei) sc_law_rounded.nd)) snil)
  (scons (sset (i := 4) (ecty (call_strI rfl T.dig) dc_strI T.b_str (acons (eix (ev 0) ei) anil)) sc_law_rounded.nd)
  (scons (sif (tc' op_ne do_ne (eix (ev 0) ei) ei) (sone (sset (i := 4) (eadds (eadds (ev 4) es') (ecty (call_strI rfl T.dig) dc_strI T.b_str (acons (eix (ev 0) ei) anil))) sc_law_rounded.nd)) snil)
  (sone (sret (eand (ecall2 tk G_law_same (hr.mono (by decide)) (acons (ecall2 tk G_law_asked (hr.mono (by decide)) (acons ei (acons (ev 0) anil))) (acons (etup (acons es' (acons (ev 3) anil))) anil))) (eone (ecall2 tk G_law_same (hr.mono (by decide)) (acons (ecall2 tk G_law_asked (hr.mono (by decide)) (acons ei (acons (ev 0) anil))) (acons (etup (acons es' (acons (ev 4) anil))) anil))))))))))))))), fun ds μ Q E0 hc hE => by subst hE; exact pure_law_rounded A ds μ Q E0 hc⟩
end K01
set_option maxHeartbeats 800000
namespace K01
open PySem L2 DL PyProof.Rows
local macro_rules | `(tactic| walk_at "w") => `(tactic| simp only [wSeq, wNext, wIf, wRet, wRetN, wDrop, wAsg, gN, wVar, wC, wOp, wUn, wNil, wCons, wCB, wTup, wLst, wLstF, wTe, tB0, wAnd, wOr, wNot, wAndV, wOrV, wNotV, wIfE, wCall, wCallG, wRaise, wFrz, fFrz, rets, fI, fI0, fAdd, fSub, fMul, fLt, fLe, fGt, fGe, fMod, fModN, fPow, fDiv, fDivG, fNeg, fEq, fNe, eqF_int, eqF_bl, eqF_str, scal_int, scal_bl, scal_str, fLen, sv, fIx, fAbs, fInt, fList, wSl, fSlL, oNo, oSo, lvr, lv, fCat, wMeL, fApp, fPop, fSetL, gSb, iLs, iTp, iR1, iR2, wFor, gTp, gCn, gNl, wPar, wBrk, wCnt, fIsi, wIsx, wLc, wYes, wip, wTr, truD, wTry, clrD, wFld, fieldsD, wSetF, wMeth, wMake, fStrI, fFmt, wJoin, wJs, wChain, wRev, fRev, wDNew, wDNewF, wDsp1, wDsp1F, fAddS, fIsN, fNotN, um_same, um_um, st0, List.map_cons, List.map_nil, List.length_cons, List.length_nil, List.getElem?_cons_zero, List.getElem?_cons_succ, List.set_cons_zero, List.set_cons_succ, List.cons_append, List.nil_append, List.replicate, atI_c0, atI_c1, atI_c2, atI_c3, atI_c4, atI_c5, atI_c6, ixN_70, ixN_71, ixN_72, ixN_73, ixN_74, ixN_75, ixN_76, Nat.reduceAdd, Int.reduceToNat, Int.reducePow, ite_T, ite_F, if_dec, if_ndec, if_nb, true_and, if_true, Bool.false_eq_true, if_false])
/-- no cell, no bool within a tuple -/
def okJe : D → Bool
  | .bl _ => false | .mut _ => false | .ins _ _ _ => false | _ => true
def okJ : D → Bool
  | .tup l => l.all okJe
  | .mut _ => false | .ins _ _ _ => false | _ => true
theorem tyD_okJ {μ : Mu} {d : D} (h : okJ d = true) : ∃ t, tyD μ d = some t := by
  cases d <;> first | exact ⟨_, rfl⟩ | cases h
theorem okV_of {μ : Mu} {d : D} (h : okJ d = true) : okV μ d := by
  refine ⟨tyD_okJ h, fun l e x hx => ?_⟩
  subst e
  have h := List.all_eq_true.mp (show l.all okJe = true from h) x hx
  cases x <;> first | exact absurd h Bool.false_ne_true | exact ⟨⟨_, rfl⟩, fun b z => nomatch z⟩
/-- a value that is judged -/
def JV (d : D) : Prop := okJ d = true ∧ ∀ a b, twoI d = some (a, b) → Bd 13300 b
def c_law_odd (A : Ad) : Ct := fun ds μ Q _ => match ds with
  | [.mut p] => ∃ st, μ p = some (.lst st) ∧ StOk st ∧ ∀ (d : D) (st' : List D), JV d → StOk st' → Q d (um μ p (.lst st'))
  | _ => False
abbrev s_law_odd : Stmt := top 55
theorem sc_law_odd : FnScope ["store", "rows"] ["store"] (defScope s_law_odd) := ⟨rfl, rfl, rfl, by decide +kernel, rfl, by decide +kernel, by decide +kernel⟩
def w_law_odd_2 (A : Ad) (E : EX) : WS := (wRet (wCall (c_law_pick A) E (wCons (wVar 0) (wCons (wVar 1) wNil))))
def w_law_odd_1 (A : Ad) (E : EX) : WS := (wSeq (wAsg (wOp fCat (wVar 1) (wLstF (wCons (wTup (wCons (wC (.str "one")) wNil)) (wCons (wTup (wCons (wC (.str "none")) wNil)) (wCons (wTup (wCons (wC (.str "none")) (wCons (wC (.int (0))) wNil))) (wCons (wLstF (wCons (wC (.int (0))) (wCons (wC (.int (1))) wNil))) (wCons (wTup (wCons (wC (.int (0))) (wCons (wC (.int (1))) wNil))) (wCons (wTup (wCons (wC (.str "cut")) (wCons (wC (.int (0))) (wCons (wC (.int (0))) (wCons (wTup wNil) (wCons (wTup wNil) wNil)))))) (wCons (wDsp1F (wC (.str "row")) (wLstF wNil)) (wCons (wLstF (wCons (wC (.str "none")) wNil)) wNil)))))))))) (gN 1))
  (w_law_odd_2 A E))
def w_law_odd (A : Ad) (E : EX) : WS := (wSeq (wAsg (wLstF (wCons (wC .non) (wCons (wC (.int (0))) (wCons (wUn fNeg (wC (.int (1)))) (wCons (wC (.int (7))) (wCons (wOp fPow (wC (.int (10))) (wC (.int (60)))) (wCons (wC (.str "")) (wCons (wC (.str "ALL")) (wCons (wC (.str "row")) (wCons (wC (.str "()")) (wCons (wTup wNil) (wCons (wLstF wNil) (wCons wDNewF (wCons (wTup (wCons (wC .non) wNil)) (wCons (wLstF (wCons (wC .non) wNil)) (wCons (wLstF (wCons (wLstF wNil) wNil)) (wCons (wTup (wCons (wTup wNil) wNil)) (wCons (wDsp1F (wC (.int (0))) (wC (.int (1)))) wNil)))))))))))))))))) (gN 1))
  (w_law_odd_1 A E))
theorem pure_law_odd (A : Ad) (ds μ Q E0) (h : c_law_odd A ds μ Q E0) : w_law_odd A (fun C fs _ μ => dwx E0 C fs μ) (rets Q) (st0 2 ds) μ := by
  unfold c_law_odd at h
  split at h
  · rename_i p
    obtain ⟨st, hp, hst, h⟩ := h
    unfold w_law_odd
    walk_at "w"
    refine ⟨pw (by decide), by decide, by decide, by decide, by decide, by decide, by decide, by decide, by decide, fun q hq => ⟨.inl 0, rfl, by decide, ?_⟩⟩
    rw [rm_um hq]
    unfold w_law_odd_1
    walk_at "w"
    refine ⟨by decide, by decide, by decide, by decide, by decide, by decide, by decide, by decide, fun q hq => ⟨by decide, .inr "row", rfl, by decide, by decide, by decide, ?_⟩⟩
    rw [rm_um hq]
    unfold w_law_odd_2
    walk_at "w"
    refine ⟨st, hp, hst, by decide, by decide, fun d st1 hd hs1 => dwn.of (h d st1 ?_ hs1)⟩
    simp only [List.mem_cons, List.not_mem_nil, or_false] at hd
    rcases hd with rfl | rfl | rfl | rfl | rfl | rfl | rfl | rfl | rfl | rfl | rfl | rfl | rfl | rfl | rfl | rfl | rfl | rfl | rfl | rfl | rfl | rfl | rfl | rfl | rfl
    all_goals (refine ⟨rfl, fun a b e => ?_⟩; cases e)
    exact Nat.one_lt_two_pow (by decide)
  · exact h.elim
theorem len_law_odd (A : Ad) : ∀ ds μ Q E, c_law_odd A ds μ Q E → ds.length = 1 := by
  intro ds μ Q E h
  unfold c_law_odd at h
  first | (split at h) | (split at h)
  all_goals first | rfl | exact h.elim
theorem ok_law_odd {P : Program} {w : World} {K : PySem.W.Frag} {mg : Str → Option Value} {base : Heap} {A : Ad} (D : Dfn K mg "_law_odd" "_law_odd" s_law_odd ["store"]) (T : Tx P base K mg A) (G_law_pick : DfOk P w K mg base "_law_pick" 3 ["store", "things"] (c_law_pick A)) : DfOk P w K mg base "_law_odd" 4 ["store"] (c_law_odd A) := by
  obtain ⟨f, fd, F, hm, hb⟩ := D
  refine ⟨f, fd, okD F sc_law_odd (by decide) (len_law_odd A) ?_, hm, F.kp, hb⟩
  intro X W E cdv B outer s H Ex hX tk hp hr
  subst hX
  exact ⟨_, w_law_odd A E, (scons (sset (i := 1) (elstF (acons en (acons ei (acons (eneg ei) (acons ei (acons (epow ei ei) (acons es' (acons es' (acons es' (acons es' (acons (etup anil) (acons (elstF anil) (acons ednewF (acons (etup (acons en anil)) (acons (elstF (acons en anil)) (acons (elstF (acons (elstF anil) anil)) (acons (etup (acons (etup anil) anil)) (acons (edsp1F ei ei) anil)))))))))))))))))) sc_law_odd.nd)
  (scons (sset (i := 1) (ecat (ev 1) (elstF (acons (etup (acons es' anil)) (acons (etup (acons es' anil)) (acons (etup (acons es' (acons ei anil))) (acons (elstF (acons ei (acons ei anil))) (acons (etup (acons ei (acons ei anil))) (acons (etup (acons es' (acons ei (acons ei (acons (etup anil) (acons (etup anil) anil)))))) (acons (edsp1F es' (elstF anil)) (acons (elstF (acons es' anil)) anil)))))))))) sc_law_odd.nd)
  (sone (sret (ecall2 tk G_law_pick (hr.mono (by decide)) (acons (ev 0) (acons (ev 1) anil))))))), fun ds μ Q E0 hc hE => by subst hE; exact pure_law_odd A ds μ Q E0 hc⟩
end K01
set_option maxHeartbeats 800000
namespace K01
open PySem L2 DL PyProof.Rows
local macro_rules | `(tactic| walk_at "w") => `(tactic| simp only [wSeq, wNext, wIf, wRet, wRetN, wDrop, wAsg, gN, wVar, wC, wOp, wUn, wNil, wCons, wCB, wTup, wLst, wLstF, wTe, tB0, wAnd, wOr, wNot, wAndV, wOrV, wNotV, wIfE, wCall, wCallG, wRaise, wFrz, fFrz, rets, fI, fI0, fAdd, fSub, fMul, fLt, fLe, fGt, fGe, fMod, fModN, fDiv, fDivG, fNeg, fEq, fNe, eqF_int, eqF_bl, eqF_str, scal_int, scal_bl, scal_str, fLen, sv, fIx, fAbs, fInt, fList, wSl, fSlL, oNo, oSo, lvr, lv, fCat, wMeL, fApp, fPop, fSetL, gSb, iLs, iTp, iR1, iR2, wFor, gTp, gCn, gNl, wPar, wBrk, wCnt, fIsi, wIsx, wLc, wYes, wip, wTr, truD, wTry, clrD, wFld, fieldsD, wSetF, wMeth, wMake, fStrI, fFmt, wJoin, wJs, wChain, wRev, fRev, wDNew, wDNewF, wDsp1, wDsp1F, fAddS, fIsN, fNotN, um_same, um_um, st0, List.map_cons, List.map_nil, List.length_cons, List.length_nil, List.getElem?_cons_zero, List.getElem?_cons_succ, List.set_cons_zero, List.set_cons_succ, List.cons_append, List.nil_append, List.replicate, atI_c0, atI_c1, atI_c2, atI_c3, atI_c4, atI_c5, atI_c6, ixN_70, ixN_71, ixN_72, ixN_73, ixN_74, ixN_75, ixN_76, Nat.reduceAdd, ite_T, ite_F, if_dec, if_ndec, if_nb, true_and, if_true, Bool.false_eq_true, if_false])
def c_law_many (A : Ad) : Ct := fun ds μ Q _ => match ds with
  | [.mut p] => ∃ st, μ p = some (.lst st) ∧ StOk st ∧ ∀ (r : Int × Int) (l : List (Int × Int)) (st' : List D), (∀ q ∈ r :: l, Rat61 q.1 q.2) → (r :: l).length ≤ 60 → StOk st' → Q (.lst ((r :: l).map dP)) (um μ p (.lst st'))
  | _ => False
abbrev s_law_many : Stmt := top 63
theorem sc_law_many : FnScope ["store", "many", "rows", "k", "way", "x"] ["store"] (defScope s_law_many) := ⟨rfl, rfl, rfl, by decide +kernel, rfl, by decide +kernel, by decide +kernel⟩
def w_law_many_b1 (A : Ad) (E : EX) : WS := (wSeq (wAsg (wCall (c_law_take A) E (wCons (wVar 0) (wCons (wC (.int (4))) wNil))) (gN 4))
  (wSeq (wAsg (wCall (c_law_pick A) E (wCons (wVar 0) (wCons (wVar 2) wNil))) (gN 5))
  (wIf (wTe (wOp fEq (wVar 4) (wC (.int (0))))) (wDrop (wMeL fApp (wVar 2) (wCons (wVar 5) wNil))) (wIf (wAnd (wTe (wOp fEq (wVar 4) (wC (.int (1))))) (wAnd (wTe (wOp fLt (wCB fAbs (wCons (wOp fIx (wVar 5) (wC (.int (0)))) wNil)) (wOp fPow (wC (.int (10))) (wC (.int (59)))))) (wTe (wOp fLt (wOp fIx (wVar 5) (wC (.int (1)))) (wOp fPow (wC (.int (10))) (wC (.int (59)))))))) (wDrop (wMeL fApp (wVar 2) (wCons (wCall (c_law_low A) E (wCons (wOp fSub (wOp fAdd (wOp fMul (wC (.int (3))) (wOp fIx (wVar 5) (wC (.int (0))))) (wC (.int (1)))) (wOp fMul (wC (.int (2))) (wCall (c_law_take A) E (wCons (wVar 0) (wCons (wC (.int (2))) wNil))))) (wCons (wOp fMul (wC (.int (3))) (wOp fIx (wVar 5) (wC (.int (1))))) wNil))) wNil))) (wDrop (wMeL fApp (wVar 2) (wCons (wCall (c_law_one A) E (wCons (wVar 0) wNil)) wNil)))))))
def w_law_many_3 (A : Ad) (E : EX) : WS := (wSeq (wFor (iR1 (wCons (wOp fSub (wVar 1) (wC (.int (1)))) wNil)) (gN 3) (w_law_many_b1 A E))
  (wRet (wFrz (wVar 2))))
def w_law_many_2 (A : Ad) (E : EX) : WS := (wSeq (wAsg (wLst (wCons (wCall (c_law_one A) E (wCons (wVar 0) wNil)) wNil)) (gN 2))
  (w_law_many_3 A E))
def w_law_many (A : Ad) (E : EX) : WS := (wSeq (wAsg (wOp fAdd (wC (.int (1))) (wCall (c_law_take A) E (wCons (wVar 0) (wCons (wC (.int (6))) wNil)))) (gN 1))
  (wSeq (wIf (wTe (wCall (c_law_rare A) E (wCons (wVar 0) (wCons (wC (.int (10))) wNil)))) (wAsg (wOp fAdd (wC (.int (10))) (wCall (c_law_take A) E (wCons (wVar 0) (wCons (wC (.int (51))) wNil)))) (gN 1)) wNext)
  (w_law_many_2 A E)))
theorem fPow_at {i j G : Int} {μ : Mu} {Q : D → Mu → Prop} (hC : CPow i j) (h : i ^ j.toNat = G) (q : Q (.int G) μ) : fPow (.int i) (.int j) μ Q := ⟨hC, by show Q (D.int (i ^ j.toNat)) μ; rw [h]; exact q⟩
theorem p59 : ∃ G : Int, (10 : Int) ^ (59 : Int).toNat = G ∧ G = 10 ^ 59 := ⟨_, rfl, rfl⟩
theorem um_swap {μ : Mu} {p q : Addr} {a b : MO} (h : q ≠ p) : um (um μ q b) p a = um (um μ p a) q b := by
  funext x
  unfold um
  by_cases h1 : x = p
  · subst h1
    rw [if_pos rfl, if_neg (Ne.symm h), if_pos rfl]
  · rw [if_neg h1]
    by_cases h2 : x = q
    · rw [if_pos h2, if_pos h2]
    · rw [if_neg h2, if_neg h2, if_neg h1]
def I_many (μ : Mu) (p q : Addr) (M : Int) (i : Nat) (ρ : En) (μ' : Mu) : Prop := ∃ (rows : List (Int × Int)) (st : List D) (r3 r4 r5 : Option D), ρ = [some (.mut p), some (.int M), some (.mut q), r3, r4, r5] ∧ μ' = um (um μ p (.lst st)) q (.lst (rows.map dP)) ∧ StOk st ∧ rows.length = i + 1 ∧ ∀ r ∈ rows, Rat61 r.1 r.2
theorem pure_law_many (A : Ad) (ds μ Q E0) (h : c_law_many A ds μ Q E0) : w_law_many A (fun C fs _ μ => dwx E0 C fs μ) (rets Q) (st0 6 ds) μ := by
  unfold c_law_many at h
  split at h
  · rename_i p
    obtain ⟨st, hp, hst, h⟩ := h
    have r3 : ∀ (M : Int) (q : Addr) (r : Int × Int) (st : List D), 1 ≤ M → M ≤ 60 → q ≠ p → μ q = none → Rat61 r.1 r.2 → StOk st → w_law_many_3 A (fun C fs _ μ => dwx E0 C fs μ) (rets Q) [some (.mut p), some (.int M), some (.mut q), none, none, none] (um (um μ p (.lst st)) q (.lst [dP r])) := by
      intro M q r st m1 m2 hne hq hr hst
      unfold w_law_many_3
      walk_at "w"
      refine ⟨by omega, I_many μ p q M, ⟨[r], st, _, _, _, rfl, rfl, hst, rfl, fun x hx => by rw [List.mem_singleton.mp hx]; exact hr⟩, fun _ _ _ _ => trivial, ?_, ?_⟩
      · rintro i d ρ μ' hd ⟨rows, st, r3, r4, r5, rfl, rfl, hst, hl, hrows⟩
        rw [fixi] at hd
        have hi := (rng_at hd).1
        have add : ∀ (x : Int × Int) (st : List D) (r4 r5 : Option D), Rat61 x.1 x.2 → StOk st → wk (I_many μ p q M (i + 1)) [some (.mut p), some (.int M), some (.mut q), some d, r4, r5] (um (um μ p (.lst st)) q (.lst (rows.map dP ++ [dP x]))) := fun x st r4 r5 hx hs => wk.of ⟨rows ++ [x], st, _, _, _, rfl, by rw [List.map_append]; rfl, hs, by rw [List.length_append, hl]; rfl, fun y hy => (List.mem_append.mp hy).elim (hrows y) fun z => by rw [List.mem_singleton.mp z]; exact hx⟩
        unfold w_law_many_b1
        walk_at "w"
        refine ⟨st, by rw [um_ne (Ne.symm hne), um_same], hst, bd_small (n := 2990) (by decide) (by decide), fun w st1 hs1 w0 w1 _ => ?_⟩
        rw [um_swap hne]
        walk_at "w"
        refine ⟨st1, _, by rw [um_ne (Ne.symm hne), um_same], hs1, um_same, hne, by rw [List.length_map]; omega, by rw [List.length_map]; omega, fun x st2 hx hs2 => ?_⟩
        rw [um_swap hne]
        obtain ⟨⟨n, m⟩, hm, rfl⟩ := List.mem_map.mp hx
        have rx := hrows _ hm
        have fr : ∀ (st : List D), (um (um μ p (.lst st)) q (.lst (rows.map dP))) p = some (.lst st) := fun st => by rw [um_ne (Ne.symm hne), um_same]
        have len : (rows.map dP).length < 100000 := by rw [List.length_map]; omega
        have two : ∀ (st : List D) (x : Int × Int) (r4 r5 : Option D), Rat61 x.1 x.2 → StOk st → (match (um (um μ p (.lst st)) q (.lst (rows.map dP))) q with
            | some (.lst l) => l.length < 100000 ∧ wk (I_many μ p q M (i + 1)) [some (.mut p), some (.int M), some (.mut q), some d, r4, r5] (um (um (um μ p (.lst st)) q (.lst (rows.map dP))) q (.lst (l ++ [dP x])))
            | _ => False) := fun st x r4 r5 hx hs => by
          rw [um_same]
          dsimp only
          rw [um_um]
          exact ⟨len, add x st r4 r5 hx hs⟩
        have one : ∀ (r4 r5 : Option D), (∃ p' l, D.mut q = D.mut p' ∧ (um (um μ p (.lst st2)) q (.lst (rows.map dP))) p' = some (.lst l)) ∧ c_law_one A [.mut p] (um (um μ p (.lst st2)) q (.lst (rows.map dP))) (fun x μ1 => match μ1 q with
            | some (.lst l) => l.length < 100000 ∧ wk (I_many μ p q M (i + 1)) [some (.mut p), some (.int M), some (.mut q), some d, r4, r5] (um μ1 q (.lst (l ++ [x])))
            | _ => False) (fun C fs μ2 => dwx E0 C fs μ2) := fun r4 r5 => ⟨⟨q, _, rfl, um_same⟩, st2, fr st2, hs2, fun n m st3 hr hs3 => by rw [um_swap hne, um_um]; exact two st3 (n, m) r4 r5 hr hs3⟩
        have e2 : dP (n, m) = .tup [.int n, .int m] := rfl
        rw [e2]
        walk_at "w"
        refine ite2 (fun _ => ⟨⟨q, _, rfl, um_same⟩, len, add (n, m) st2 _ _ rx hs2⟩) (fun _ => ite2 (fun _ => ?_) (fun _ => one _ _))
        obtain ⟨G, hG, hG2⟩ := p59
        refine fPow_at (pw (by decide)) hG ?_
        refine ite2 (fun c1 => ?_) (fun _ => one _ _)
        refine fPow_at (pw (by decide)) hG ?_
        refine ite2 (fun c2 => ?_) (fun _ => one _ _)
        obtain ⟨hfm, d1, d2⟩ := id rx
        refine ⟨⟨q, _, rfl, um_same⟩, mulL (by decide), st2, fr st2, hs2, bd_small (n := 2990) (by decide) (by decide), fun t st3 hs3 t0 t1 _ => ?_⟩
        rw [um_swap hne, um_um]
        walk_at "w"
        have t1 := t1 (by decide)
        obtain ⟨m1', _⟩ := of_form hfm
        have m1' : 1 ≤ m := m1'
        have e1 : D61 (3 * n + 1 - 2 * t) := by unfold D61; omega
        have e3 : D61 (3 * m) := by unfold D61; omega
        exact ⟨mulL (by decide), mulL (by decide), by omega, e3.bd.mono (by decide), fun n' m' hr' => two st3 (n', m') _ _ (rat_of hr' e1 e3) hs3⟩
      · rintro ρ μ' ⟨rows, st, r3, r4, r5, rfl, rfl, hst, hl, hrows⟩
        rw [fixi, rng_len] at hl
        walk_at "w"
        have fr : (um μ p (.lst st)) q = none := by rw [um_ne hne]; exact hq
        rw [rm_um fr]
        cases rows with
        | nil => cases hl
        | cons r l => exact dwn.of (h r l st hrows (by omega) hst)
    have r2 : ∀ (M : Int) (st : List D), 1 ≤ M → M ≤ 60 → StOk st → w_law_many_2 A (fun C fs _ μ => dwx E0 C fs μ) (rets Q) [some (.mut p), some (.int M), none, none, none, none] (um μ p (.lst st)) := by
      intro M st m1 m2 hst
      unfold w_law_many_2
      walk_at "w"
      refine ⟨st, um_same, hst, fun n m st2 hr hs2 => ⟨by decide, fun q hq => ?_⟩⟩
      rw [um_um] at hq ⊢
      have hne : q ≠ p := fun e => by rw [e, um_same] at hq; cases hq
      rw [um_ne hne] at hq
      exact r3 M q (n, m) st2 m1 m2 hne hq hr hs2
    unfold w_law_many
    walk_at "w"
    refine ⟨st, hp, hst, bd_small (n := 2990) (by decide) (by decide), fun k st1 hs1 k0 k1 _ => ?_⟩
    walk_at "w"
    have k1 := k1 (by decide)
    refine ⟨st1, um_same, hs1, bd_small (n := 2990) (by decide) (by decide), fun b st2 hs2 => ?_⟩
    rw [um_um]
    cases b with
    | false => exact r2 _ st2 (by omega) (by omega) hs2
    | true =>
      refine ⟨st2, um_same, hs2, bd_small (n := 2990) (by decide) (by decide), fun k' st3 hs3 k0 k1 _ => ?_⟩
      have k1 := k1 (by decide)
      rw [um_um]
      exact r2 _ st3 (by omega) (by omega) hs3
  · exact h.elim
theorem len_law_many (A : Ad) : ∀ ds μ Q E, c_law_many A ds μ Q E → ds.length = 1 := by
  intro ds μ Q E h
  unfold c_law_many at h
  first | (split at h) | (split at h)
  all_goals first | rfl | exact h.elim
theorem ok_law_many {P : Program} {w : World} {K : PySem.W.Frag} {mg : Str → Option Value} {base : Heap} {A : Ad} (D : Dfn K mg "_law_many" "_law_many" s_law_many ["store"]) (T : Tx P base K mg A) (G_law_low : DfOk P w K mg base "_law_low" 37 ["top", "bottom"] (c_law_low A)) (G_law_take : DfOk P w K mg base "_law_take" 2 ["store", "many"] (c_law_take A)) (G_law_one : DfOk P w K mg base "_law_one" 39 ["store"] (c_law_one A)) (G_law_pick : DfOk P w K mg base "_law_pick" 3 ["store", "things"] (c_law_pick A)) (G_law_rare : DfOk P w K mg base "_law_rare" 3 ["store", "many"] (c_law_rare A)) : DfOk P w K mg base "_law_many" 40 ["store"] (c_law_many A) := by
  obtain ⟨f, fd, F, hm, hb⟩ := D
  refine ⟨f, fd, okD F sc_law_many (by decide) (len_law_many A) ?_, hm, F.kp, hb⟩
  intro X W E cdv B outer s H Ex hX tk hp hr
  subst hX
  exact ⟨_, w_law_many A E, (scons (sset (i := 1) (eadd ei (ecall2 tk G_law_take (hr.mono (by decide)) (acons (ev 0) (acons ei anil)))) sc_law_many.nd)
  (scons (sif (tval (ecall2 tk G_law_rare (hr.mono (by decide)) (acons (ev 0) (acons ei anil)))) (sone (sset (i := 1) (eadd ei (ecall2 tk G_law_take (hr.mono (by decide)) (acons (ev 0) (acons ei anil)))) sc_law_many.nd)) snil)
  (scons (sset (i := 2) (elst (acons (ecall2 tk G_law_one (hr.mono (by decide)) (acons (ev 0) anil)) anil)) sc_law_many.nd)
  (scons (sfor hp (ir1 T.b_range (acons (esub (ev 1) ei) anil)) (gnm 3 sc_law_many.nd) (scons (sset (i := 4) (ecall2 tk G_law_take (hr.mono (by decide)) (acons (ev 0) (acons ei anil))) sc_law_many.nd)
  (scons (sset (i := 5) (ecall2 tk G_law_pick (hr.mono (by decide)) (acons (ev 0) (acons (ev 2) anil))) sc_law_many.nd)
  (sone (sif (tc' op_eq do_eq (ev 4) ei) (sone (sexpr (eapp (ev 2) (acons (ev 5) anil)))) (sone (sif (tbo (tand (tc' op_eq do_eq (ev 4) ei) (tand (tc' op_lt do_lt (ecb call_abs dc_abs T.b_abs (acons (eix (ev 5) ei) anil)) (epow ei ei)) (tand1 (tc' op_lt do_lt (eix (ev 5) ei) (epow ei ei)))))) (sone (sexpr (eapp (ev 2) (acons (ecall2 tk G_law_low (hr.mono (by decide)) (acons (esub (eadd (emul ei (eix (ev 5) ei)) ei) (emul ei (ecall2 tk G_law_take (hr.mono (by decide)) (acons (ev 0) (acons ei anil))))) (acons (emul ei (eix (ev 5) ei)) anil))) anil)))) (sone (sexpr (eapp (ev 2) (acons (ecall2 tk G_law_one (hr.mono (by decide)) (acons (ev 0) anil)) anil)))))))))))
  (sone (sret (efrz (ev 2)))))))), fun ds μ Q E0 hc hE => by subst hE; exact pure_law_many A ds μ Q E0 hc⟩
end K01
set_option maxHeartbeats 800000
namespace K01
open PySem L2 DL PyProof.Rows
local macro_rules | `(tactic| walk_at "w") => `(tactic| simp only [wSeq, wNext, wIf, wRet, wRetN, wDrop, wAsg, gN, wVar, wC, wOp, wUn, wNil, wCons, wCB, wTup, wLst, wLstF, wTe, tB0, wAnd, wOr, wNot, wAndV, wOrV, wNotV, wIfE, wCall, wCallG, wRaise, wFrz, fFrz, rets, fI, fI0, fAdd, fSub, fMul, fLt, fLe, fGt, fGe, fMod, fModN, fDiv, fDivG, fNeg, fEq, fNe, eqF_int, eqF_bl, eqF_str, scal_int, scal_bl, scal_str, fLen, sv, fIx, fAbs, fInt, fList, wSl, fSlL, oNo, oSo, lvr, lv, fCat, wMeL, fApp, fPop, fSetL, gSb, iLs, iTp, iR1, iR2, wFor, gTp, gCn, gNl, wPar, wBrk, wCnt, fIsi, wIsx, wLc, wYes, wip, wTr, truD, wTry, clrD, wFld, fieldsD, wSetF, wMeth, wMake, fStrI, fFmt, wJoin, wJs, wChain, wRev, fRev, wDNew, wDNewF, wDsp1, wDsp1F, fAddS, fIsN, fNotN, um_same, um_um, st0, List.map_cons, List.map_nil, List.length_cons, List.length_nil, List.getElem?_cons_zero, List.getElem?_cons_succ, List.set_cons_zero, List.set_cons_succ, List.cons_append, List.nil_append, List.replicate, atI_c0, atI_c1, atI_c2, atI_c3, atI_c4, atI_c5, atI_c6, ixN_70, ixN_71, ixN_72, ixN_73, ixN_74, ixN_75, ixN_76, Nat.reduceAdd, ite_T, ite_F, if_dec, if_ndec, if_nb, true_and, if_true, Bool.false_eq_true, if_false])
/-! ### least and greatest don't hang on the order -/
def le2 (p q : Int × Int) : Prop := p.1 * q.2 ≤ q.1 * p.2
theorem le2_trans {p f x : Int × Int} (hf : 0 < f.2) (hp : 0 < p.2) (hx : 0 < x.2) (h1 : le2 p f) (h2 : le2 f x) : le2 p x := by
  refine Int.le_of_mul_le_mul_right (a := f.2) ?_ hf
  calc p.1 * x.2 * f.2 = (p.1 * f.2) * x.2 := by ac_rfl
    _ ≤ (f.1 * p.2) * x.2 := Int.mul_le_mul_of_nonneg_right h1 (by omega)
    _ = (f.1 * x.2) * p.2 := by ac_rfl
    _ ≤ (x.1 * f.2) * p.2 := Int.mul_le_mul_of_nonneg_right h2 (by omega)
    _ = x.1 * p.2 * f.2 := by ac_rfl
theorem least_spec : ∀ (l : List (Int × Int)) (r : Int × Int), (∀ q ∈ r :: l, 0 < q.2) → leastP r l ∈ r :: l ∧ ∀ x ∈ r :: l, le2 (leastP r l) x
  | [], r, h => ⟨List.mem_cons_self, fun x hx => by rw [List.mem_singleton.mp hx]; exact Int.le_refl _⟩
  | p :: l, r, h => by
    have hr := h r List.mem_cons_self
    have hp := h p (by simp)
    show leastP (if lt2 p r then p else r) l ∈ _ ∧ ∀ x ∈ _, le2 (leastP (if lt2 p r then p else r) l) x
    have key : ∀ r', (r' = p ∨ r' = r) → le2 r' p → le2 r' r → leastP r' l ∈ r :: p :: l ∧ ∀ x ∈ r :: p :: l, le2 (leastP r' l) x := by
      intro r' e1 h1 h2
      have hr' : 0 < r'.2 := by rcases e1 with rfl | rfl <;> assumption
      have pos : ∀ q ∈ r' :: l, 0 < q.2 := fun q hq => (List.mem_cons.mp hq).elim (fun z => by rw [z]; exact hr') fun z => h q (by simp [z])
      obtain ⟨m, s⟩ := least_spec l r' pos
      have pm := pos _ m
      have s0 := s r' List.mem_cons_self
      refine ⟨?_, fun x hx => ?_⟩
      · rcases List.mem_cons.mp m with z | z
        · rw [z]; rcases e1 with rfl | rfl <;> simp
        · simp [z]
      · rcases List.mem_cons.mp hx with rfl | hx
        · exact le2_trans hr' pm hr s0 h2
        · rcases List.mem_cons.mp hx with rfl | hx
          · exact le2_trans hr' pm hp s0 h1
          · exact s x (List.mem_cons_of_mem _ hx)
    by_cases c : lt2 p r
    · rw [if_pos c]
      exact key p (.inl rfl) (Int.le_refl _) (Int.le_of_lt c)
    · rw [if_neg c]
      exact key r (.inr rfl) (Int.not_lt.mp c) (Int.le_refl _)
theorem most_spec : ∀ (l : List (Int × Int)) (r : Int × Int), (∀ q ∈ r :: l, 0 < q.2) → mostP r l ∈ r :: l ∧ ∀ x ∈ r :: l, le2 x (mostP r l)
  | [], r, h => ⟨List.mem_cons_self, fun x hx => by rw [List.mem_singleton.mp hx]; exact Int.le_refl _⟩
  | p :: l, r, h => by
    have hr := h r List.mem_cons_self
    have hp := h p (by simp)
    show mostP (if lt2 r p then p else r) l ∈ _ ∧ ∀ x ∈ _, le2 x (mostP (if lt2 r p then p else r) l)
    have key : ∀ r', (r' = p ∨ r' = r) → le2 p r' → le2 r r' → mostP r' l ∈ r :: p :: l ∧ ∀ x ∈ r :: p :: l, le2 x (mostP r' l) := by
      intro r' e1 h1 h2
      have hr' : 0 < r'.2 := by rcases e1 with rfl | rfl <;> assumption
      have pos : ∀ q ∈ r' :: l, 0 < q.2 := fun q hq => (List.mem_cons.mp hq).elim (fun z => by rw [z]; exact hr') fun z => h q (by simp [z])
      obtain ⟨m, s⟩ := most_spec l r' pos
      have pm := pos _ m
      have s0 := s r' List.mem_cons_self
      refine ⟨?_, fun x hx => ?_⟩
      · rcases List.mem_cons.mp m with z | z
        · rw [z]; rcases e1 with rfl | rfl <;> simp
        · simp [z]
      · rcases List.mem_cons.mp hx with rfl | hx
        · exact le2_trans hr' hr pm h2 s0
        · rcases List.mem_cons.mp hx with rfl | hx
          · exact le2_trans hr' hp pm h1 s0
          · exact s x (List.mem_cons_of_mem _ hx)
    by_cases c : lt2 r p
    · rw [if_pos c]
      exact key p (.inl rfl) (Int.le_refl _) (Int.le_of_lt c)
    · rw [if_neg c]
      exact key r (.inr rfl) (Int.not_lt.mp c) (Int.le_refl _)
theorem form_inj {p q : Int × Int} (h : formB [p.1, p.2] = true) (h' : formB [q.1, q.2] = true) (e1 : le2 p q) (e2 : le2 q p) : p = q := by
  obtain ⟨p1, pg⟩ := of_form h
  obtain ⟨q1, qg⟩ := of_form h'
  have e : p.1 * q.2 = q.1 * p.2 := Int.le_antisymm e1 e2
  have := isR_eq (up := q.1) (down := q.2) (by omega) ⟨q1, qg, rfl, Nat.le_refl _, Nat.le_refl _⟩ p1 pg e
  exact Prod.ext this.1.symm this.2.symm
theorem form_pos {q : Int × Int} (h : formB [q.1, q.2] = true) : 0 < q.2 := by have := (of_form h).1; omega
theorem least_any {r r' : Int × Int} {l l' : List (Int × Int)} (hf : ∀ q ∈ r :: l, formB [q.1, q.2] = true) (hm : ∀ q, q ∈ r' :: l' ↔ q ∈ r :: l) : leastP r' (r' :: l') = leastP r (r :: l) := by
  have c1 : ∀ (r : Int × Int) (l : List (Int × Int)) (q), q ∈ r :: r :: l ↔ q ∈ r :: l := fun r l q => by simp
  obtain ⟨m1, s1⟩ := least_spec (r :: l) r fun q hq => form_pos (hf q ((c1 _ _ q).mp hq))
  obtain ⟨m2, s2⟩ := least_spec (r' :: l') r' fun q hq => form_pos (hf q ((hm q).mp ((c1 _ _ q).mp hq)))
  have m1' := (c1 _ _ _).mp m1
  have m2' := (c1 _ _ _).mp m2
  exact form_inj (hf _ ((hm _).mp m2')) (hf _ m1') (s2 _ ((c1 _ _ _).mpr ((hm _).mpr m1'))) (s1 _ ((c1 _ _ _).mpr ((hm _).mp m2')))
theorem most_any {r r' : Int × Int} {l l' : List (Int × Int)} (hf : ∀ q ∈ r :: l, formB [q.1, q.2] = true) (hm : ∀ q, q ∈ r' :: l' ↔ q ∈ r :: l) : mostP r' (r' :: l') = mostP r (r :: l) := by
  have c1 : ∀ (r : Int × Int) (l : List (Int × Int)) (q), q ∈ r :: r :: l ↔ q ∈ r :: l := fun r l q => by simp
  obtain ⟨m1, s1⟩ := most_spec (r :: l) r fun q hq => form_pos (hf q ((c1 _ _ q).mp hq))
  obtain ⟨m2, s2⟩ := most_spec (r' :: l') r' fun q hq => form_pos (hf q ((hm q).mp ((c1 _ _ q).mp hq)))
  have m1' := (c1 _ _ _).mp m1
  have m2' := (c1 _ _ _).mp m2
  exact form_inj (hf _ ((hm _).mp m2')) (hf _ m1') (s1 _ ((c1 _ _ _).mpr ((hm _).mp m2'))) (s2 _ ((c1 _ _ _).mpr ((hm _).mpr m1')))
def c_law_ends_right (A : Ad) : Ct := fun ds μ Q _ => match ds with
  | [d] => ∃ (r : Int × Int) (l : List (Int × Int)), lv μ d = some ((r :: l).map dP) ∧ (∀ q ∈ r :: l, formB [q.1, q.2] = true ∧ BB q.1 ∧ BB q.2) ∧ (r :: l).length ≤ 990 ∧ Q (.bl true) μ
  | _ => False
abbrev s_law_ends_right : Stmt := top 66
theorem sc_law_ends_right : FnScope ["rows", "ends", "op", "given", "kept", "turn", "changed"] ["rows"] (defScope s_law_ends_right) := ⟨rfl, rfl, rfl, by decide +kernel, rfl, by decide +kernel, by decide +kernel⟩
def w_law_ends_right_b1 (A : Ad) (E : EX) : WS := (wIf (wOr (wNot (wTe (wCall (c_law_same A) E (wCons (wCall (c_law_asked A) E (wCons (wVar 2) (wCons (wVar 3) wNil))) (wCons (wTup (wCons (wC (.str "value")) (wCons (wOp fIx (wVar 1) (wOp fSub (wVar 2) (wC (.int (3))))) wNil))) wNil))))) (wNot (wTe (wCall (c_law_same A) E (wCons (wVar 3) (wCons (wVar 4) wNil)))))) (wRet (wC (.bl false))) wNext)
def w_law_ends_right_b2 (A : Ad) (E : EX) : WS := (wSeq (wAsg (wFrz (wCB fList (wCons (wVar 3) wNil))) (gN 4))
  (wSeq (wFor (iR1 (wCons (wC (.int (2))) wNil)) (gN 5) (w_law_ends_right_b1 A E))
  (wSeq (wDrop (wMeL fApp (wVar 3) (wCons (wTup (wCons (wOp fMul (wOp fPow (wC (.int (10))) (wC (.int (60)))) (wOp fSub (wOp fMul (wC (.int (2))) (wVar 2)) (wC (.int (7))))) (wCons (wC (.int (1))) wNil))) wNil)))
  (wSeq (wAsg (wCall (c_law_ends A) E (wCons (wVar 3) wNil)) (gN 6))
  (wIf (wNot (wTe (wCall (c_law_same A) E (wCons (wCall (c_law_asked A) E (wCons (wVar 2) (wCons (wVar 3) wNil))) (wCons (wTup (wCons (wC (.str "value")) (wCons (wOp fIx (wVar 6) (wOp fSub (wVar 2) (wC (.int (3))))) wNil))) wNil))))) (wRet (wC (.bl false))) wNext)))))
def w_law_ends_right_b3 (A : Ad) (E : EX) : WS := (wFor (iLs (wLstF (wCons (wCB fList (wCons (wVar 0) wNil)) (wCons (wRev (wCB fList (wCons (wVar 0) wNil)) (oSo (wUn fNeg (wC (.int (1)))))) wNil)))) (gN 3) (w_law_ends_right_b2 A E))
def w_law_ends_right_1 (A : Ad) (E : EX) : WS := (wSeq (wFor (iLs (wLstF (wCons (wC (.int (3))) (wCons (wC (.int (4))) wNil)))) (gN 2) (w_law_ends_right_b3 A E))
  (wRet (wC (.bl true))))
def w_law_ends_right (A : Ad) (E : EX) : WS := (wSeq (wAsg (wCall (c_law_ends A) E (wCons (wVar 0) wNil)) (gN 1))
  (w_law_ends_right_1 A E))
theorem p60 : ∃ G : Int, (10 : Int) ^ (60 : Int).toNat = G ∧ G = 10 ^ 60 := ⟨_, rfl, rfl⟩
theorem bd_one : BB 1 := Nat.one_lt_two_pow (by decide)
theorem le_none {μ μ' : Mu} {p : Addr} (h : le μ μ') (e : μ' p = none) : μ p = none := by
  cases q : μ p with
  | none => rfl
  | some m => rw [h p m q] at e; cases e
theorem rev_cons (r : Int × Int) (l : List (Int × Int)) : ∃ r2 l2, (r :: l).reverse = r2 :: l2 := by
  cases e : (r :: l).reverse with
  | nil => rw [List.reverse_cons] at e; exact absurd e (by simp)
  | cons r2 l2 => exact ⟨r2, l2, rfl⟩
theorem lv_mono {μ μ' : Mu} {d : D} {l : List D} (h : le μ μ') (e : lv μ d = some l) : lv μ' d = some l := by
  unfold lv at e ⊢
  split at e
  · exact e
  · split at e
    · rename_i a l' em
      cases e
      rw [h _ _ em]
    · cases e
  · cases e
theorem pds_dP : ∀ L : List (Int × Int), pds (L.map dP) = true
  | [] => rfl
  | q :: L => by
    show (pd (dP q) && pds (L.map dP)) = true
    rw [pds_dP L]; rfl
theorem szs_dP : ∀ L : List (Int × Int), szs (L.map dP) = 3 * L.length
  | [] => rfl
  | q :: L => by
    show szD (dP q) + szs (L.map dP) = _
    rw [szs_dP L, List.length_cons, show szD (dP q) = 3 from rfl]
    omega
def endP (op : Int) (r : Int × Int) (l : List (Int × Int)) : Int × Int := if op = 3 then leastP r (r :: l) else mostP r (r :: l)
theorem ask_end {A : Ad} {op : Int} {d : D} {μ : Mu} {r : Int × Int} {l : List (Int × Int)} {Q : D → Mu → Prop} {E : Addr → List (Str × D) → Mu → Prop} (hop : op = 3 ∨ op = 4) (el : lv μ d = some ((r :: l).map dP)) (hl : (r :: l).length ≤ 1000) (hf : ∀ q ∈ r :: l, formB [q.1, q.2] = true ∧ BB q.1 ∧ BB q.2)
    (hQ : Q (.tup [.str "value", dP (endP op r l)]) μ) : c_law_asked A [.int op, d] μ Q E := by
  have rl : RatL μ d ((r :: l).map fun q : Int × Int => [q.1, q.2]) := by
    show lv μ d = _
    rw [el, List.map_map]; rfl
  have ok : ((r :: l).map fun q : Int × Int => [q.1, q.2]) ≠ [] ∧ ∀ ns ∈ (r :: l).map fun q : Int × Int => [q.1, q.2], formB ns = true := ⟨fun z => (nomatch z), fun ns hn => by
    obtain ⟨q, hq, rfl⟩ := List.mem_map.mp hn
    exact (hf q hq).1⟩
  have inj : ∀ (r' : Int × Int) (l' : List (Int × Int)), ((r :: l).map fun q : Int × Int => [q.1, q.2]) = (r' :: l').map (fun q : Int × Int => [q.1, q.2]) → r' = r ∧ l' = l := by
    have f : ∀ L L' : List (Int × Int), (L.map fun q : Int × Int => [q.1, q.2]) = L'.map (fun q : Int × Int => [q.1, q.2]) → L' = L := by
      intro L
      induction L with
      | nil => intro L' e; cases L' with
        | nil => rfl
        | cons _ _ => cases e
      | cons q L ih => intro L' e; cases L' with
        | nil => cases e
        | cons q' L' =>
          rw [List.map_cons, List.map_cons] at e
          injection e with e1 e2
          rw [ih L' e2]
          have : q' = q := by
            injection e1 with a b
            injection b with b _
            exact Prod.ext a.symm b.symm
          rw [this]
    intro r' l' e
    have := f _ _ e
    injection this with a b
    exact ⟨a, b⟩
  rcases hop with rfl | rfl
  · refine ask_3 ⟨_, rl, by rw [List.length_map]; exact hl, ?_⟩
    rw [if_pos ok]
    intro r' l' e
    obtain ⟨rfl, rfl⟩ := inj r' l' e
    exact ⟨fun q hq => (hf q hq).2, hQ⟩
  · refine ask_4 ⟨_, rl, by rw [List.length_map]; exact hl, ?_⟩
    rw [if_pos ok]
    intro r' l' e
    obtain ⟨rfl, rfl⟩ := inj r' l' e
    exact ⟨fun q hq => (hf q hq).2, hQ⟩
def enD (r : Int × Int) (l : List (Int × Int)) : D := .lst [dP (leastP r (r :: l)), dP (mostP r (r :: l))]
theorem at_end {op : Int} (hop : op = 3 ∨ op = 4) (r : Int × Int) (l : List (Int × Int)) : atI [dP (leastP r (r :: l)), dP (mostP r (r :: l))] (op - 3) = some (dP (endP op r l)) := by
  rcases hop with rfl | rfl <;> rfl
theorem ends_b2 (A : Ad) {d : D} {r r' : Int × Int} {l l' : List (Int × Int)} {op : Int} {g : Addr} {μ : Mu} {Q : D → Mu → Prop} {E0} {NX BK : En → Mu → Prop} (hop : op = 3 ∨ op = 4) (hf : ∀ q ∈ r :: l, formB [q.1, q.2] = true ∧ BB q.1 ∧ BB q.2) (hl : (r' :: l').length ≤ 990) (hm : ∀ q, q ∈ r' :: l' ↔ q ∈ r :: l)
    (hg : μ g = some (.lst ((r' :: l').map dP))) (s4 s5 s6 : Option D) (hN : ∀ x s4 s5 s6, NX [some d, some (enD r l), some (.int op), some (.mut g), s4, s5, s6] (um μ g x)) :
    w_law_ends_right_b2 A (fun C fs _ μ => dwx E0 C fs μ) { nx := wk NX, rt := (rets Q).rt, ct := wk NX, bk := BK } [some d, some (enD r l), some (.int op), some (.mut g), s4, s5, s6] μ := by
  have hf' : ∀ q ∈ r' :: l', formB [q.1, q.2] = true ∧ BB q.1 ∧ BB q.2 := fun q hq => hf q ((hm q).mp hq)
  have ee : endP op r' l' = endP op r l := by
    unfold endP
    rw [least_any (fun q hq => (hf q hq).1) hm, most_any (fun q hq => (hf q hq).1) hm]
  have el : lv μ (.mut g) = some ((r' :: l').map dP) := by
    show (match μ g with | some (.lst l) => some l | _ => none) = _
    rw [hg]
  have sz : 1 + szs ((r' :: l').map dP) < 100000 := by rw [szs_dP]; omega
  have ln : ((r' :: l').map dP).length < 100000 := by rw [List.length_map]; omega
  unfold w_law_ends_right_b2 enD
  walk_at "w"
  rw [hg]
  dsimp only
  intro q hq
  rw [rm_um hq]
  refine ⟨by decide, fun i ρ μ' => μ' = μ ∧ ∃ s5, ρ = [some d, some (.lst [dP (leastP r (r :: l)), dP (mostP r (r :: l))]), some (.int op), some (.mut g), some (.lst ((r' :: l').map dP)), s5, s6], ⟨rfl, _, rfl⟩, fun _ _ _ _ => trivial, ?_, ?_⟩
  · rintro i dk ρ μ' hd ⟨rfl, s5, rfl⟩
    unfold w_law_ends_right_b1
    walk_at "w"
    refine ask_end hop el (by omega) hf' ?_
    rw [at_end hop]
    refine ⟨by decide, rfl, rfl, sz_vr, fun b hb => ?_⟩
    obtain rfl : b = true := hb.mpr (by rw [ee])
    walk_at "w"
    refine ⟨_, hg, pds_dP _, pds_dP _, sz, fun b hb => ?_⟩
    obtain rfl : b = true := hb.mpr rfl
    exact wk.of ⟨rfl, _, rfl⟩
  · rintro ρ μ' ⟨rfl, s5, rfl⟩
    walk_at "w"
    refine ⟨⟨g, _, rfl, hg⟩, ?_⟩
    obtain ⟨G, hG, hG2⟩ := p60
    have bG : Bd 200 G := by rw [hG2]; unfold Bd; decide
    have bo : Bd 10 (2 * op - 7) := by unfold Bd; rcases hop with rfl | rfl <;> decide
    refine fPow_at (pw (by decide)) hG ⟨mulL (by decide), mok (bG.mono (by decide)) (bo.mono (by decide)), by decide, ?_⟩
    have bv : BB (G * (2 * op - 7)) := (bG.mul bo).mono (by decide)
    generalize G * (2 * op - 7) = v at bv
    rw [hg]
    refine ⟨ln, ?_⟩
    have el2 : lv (um μ' g (.lst ((r' :: l').map dP ++ [.tup [.int v, .int 1]]))) (.mut g) = some ((r' :: (l' ++ [(v, 1)])).map dP) := by
      show (match um μ' g _ g with | some (.lst l) => some l | _ => none) = _
      rw [um_same, ← List.cons_append, List.map_append]
      rfl
    have hf2 : ∀ q ∈ r' :: (l' ++ [(v, 1)]), formB [q.1, q.2] = true ∧ BB q.1 ∧ BB q.2 := fun q hq => by
      rw [← List.cons_append] at hq
      rcases List.mem_append.mp hq with hq | hq
      · exact hf' q hq
      · rw [List.mem_singleton.mp hq]
        exact ⟨form_of (Int.le_refl _) (by rw [Int.gcd_one]), bv, bd_one⟩
    refine ⟨r', l' ++ [(v, 1)], el2, fun q hq => (hf2 q hq).2, ?_⟩
    refine ask_end hop el2 (by rw [← List.cons_append, List.length_append]; simp only [List.length_cons, List.length_nil] at hl ⊢; omega) hf2 ?_
    dsimp only
    rw [at_end hop]
    refine ⟨by decide, rfl, rfl, sz_vr, fun b hb => ?_⟩
    obtain rfl : b = true := hb.mpr rfl
    exact wk.of (hN _ _ _ _)
theorem pure_law_ends_right (A : Ad) (ds μ Q E0) (h : c_law_ends_right A ds μ Q E0) : w_law_ends_right A (fun C fs _ μ => dwx E0 C fs μ) (rets Q) (st0 7 ds) μ := by
  unfold c_law_ends_right at h
  split at h
  · rename_i d
    obtain ⟨r, l, el, hf, hl, h⟩ := h
    unfold w_law_ends_right
    walk_at "w"
    refine ⟨r, l, el, fun q hq => (hf q hq).2, ?_⟩
    unfold w_law_ends_right_1
    walk_at "w"
    refine ⟨by decide, fun i ρ μ' => le μ μ' ∧ ∃ s2 s3 s4 s5 s6, ρ = [some d, some (enD r l), s2, s3, s4, s5, s6], ⟨le.refl, _, _, _, _, _, rfl⟩, fun _ _ _ _ => trivial, ?_, ?_⟩
    · rintro i e ρ μ' he ⟨hle, s2, s3, s4, s5, s6, rfl⟩
      have hop : ∃ op : Int, e = .int op ∧ (op = 3 ∨ op = 4) := by
        have := List.mem_of_getElem? he
        simp only [fixi, List.mem_cons, List.not_mem_nil, or_false] at this
        rcases this with rfl | rfl
        · exact ⟨3, rfl, .inl rfl⟩
        · exact ⟨4, rfl, .inr rfl⟩
      obtain ⟨op, rfl, hop⟩ := hop
      unfold w_law_ends_right_b3
      walk_at "w"
      have es1 := sv_lv (lv_mono hle el)
      unfold sv at es1
      rw [es1]
      dsimp only
      intro p1 h1
      have le1 : le μ (um μ' p1 (.lst ((r :: l).map dP))) := hle.trans (le.um h1)
      have es2 := sv_lv (lv_mono le1 el)
      unfold sv at es2
      rw [es2]
      dsimp only
      intro p2 h2 p3 h3
      have n12 : p1 ≠ p2 := ne_nm um_same h2
      have n13 : p1 ≠ p3 := ne_nm (show (um (um μ' p1 (.lst ((r :: l).map dP))) p2 (.lst ((r :: l).map dP))) p1 = some _ by rw [um_ne n12, um_same]) h3
      have le2 : le μ (um (um μ' p1 (.lst ((r :: l).map dP))) p2 (.lst ((r :: l).map dP))) := le1.trans (le.um h2)
      have m1 := le_none hle h1
      have m3 := le_none le2 h3
      obtain ⟨r2, l2, e2⟩ := rev_cons r l
      have hm : ∀ q, q ∈ r2 :: l2 ↔ q ∈ r :: l := fun q => by rw [← e2, List.mem_reverse]
      have hl2 : (r2 :: l2).length ≤ 990 := by rw [← e2, List.length_reverse]; exact hl
      have leU : ∀ {μ2 : Mu} {p : Addr} {x : MO}, μ p = none → le μ μ2 → le μ (um μ2 p x) := fun hp h a m e => by
        rw [um_ne (ne_nm e hp)]
        exact h a m e
      refine ⟨by decide, fun j ρ μ' => le μ μ' ∧ (∃ s3 s4 s5 s6, ρ = [some d, some (enD r l), some (.int op), s3, s4, s5, s6]) ∧ (j = 0 → μ' p1 = some (.lst ((r :: l).map dP))) ∧ (j ≤ 1 → μ' p3 = some (.lst ((r2 :: l2).map dP))), ⟨leU m3 le2, ⟨_, _, _, _, rfl⟩, fun _ => ?_, fun _ => ?_⟩, fun _ _ _ _ => trivial, ?_, ?_⟩
      · rw [um_ne n13, um_ne n12, um_same]
      · rw [um_same, ← List.map_reverse, e2]
      · rintro j e ρ μ4 he ⟨hle4, ⟨s3, s4, s5, s6, rfl⟩, c1, c3⟩
        have hj : (j = 0 ∧ e = .mut p1) ∨ (j = 1 ∧ e = .mut p3) := by
          rw [fixi] at he
          match j, he with
          | 0, he => exact .inl ⟨rfl, by simpa using he.symm⟩
          | 1, he => exact .inr ⟨rfl, by simpa using he.symm⟩
          | j + 2, he => simp at he
        rcases hj with ⟨rfl, rfl⟩ | ⟨rfl, rfl⟩
        · exact ends_b2 A hop hf hl (fun q => Iff.rfl) (c1 rfl) s4 s5 s6 fun x s4 s5 s6 => ⟨leU m1 hle4, ⟨_, _, _, _, rfl⟩, fun z => (nomatch z), fun _ => by rw [um_ne (Ne.symm n13)]; exact c3 (by decide)⟩
        · exact ends_b2 A hop hf hl2 hm (c3 (by decide)) s4 s5 s6 fun x s4 s5 s6 => ⟨leU m3 hle4, ⟨_, _, _, _, rfl⟩, fun z => (nomatch z), fun z => by omega⟩
      · rintro ρ μ4 ⟨hle4, ⟨s3, s4, s5, s6, rfl⟩, c1, c3⟩
        exact wk.of ⟨hle4, _, _, _, _, _, rfl⟩
    · rintro ρ μ' ⟨hle, s2, s3, s4, s5, s6, rfl⟩
      exact ⟨μ, hle, h⟩
  · exact h.elim
theorem len_law_ends_right (A : Ad) : ∀ ds μ Q E, c_law_ends_right A ds μ Q E → ds.length = 1 := by
  intro ds μ Q E h
  unfold c_law_ends_right at h
  first | (split at h) | (split at h)
  all_goals first | rfl | exact h.elim
theorem ok_law_ends_right {P : Program} {w : World} {K : PySem.W.Frag} {mg : Str → Option Value} {base : Heap} {A : Ad} (D : Dfn K mg "_law_ends_right" "_law_ends_right" s_law_ends_right ["rows"]) (T : Tx P base K mg A) (G_law_same : DfOk P w K mg base "_law_same" 2 ["told", "wanted"] (c_law_same A)) (G_law_asked : DfOk P w K mg base "_law_asked" 39 ["op", "thing"] (c_law_asked A)) (G_law_ends : DfOk P w K mg base "_law_ends" 2 ["rows"] (c_law_ends A)) : DfOk P w K mg base "_law_ends_right" 40 ["rows"] (c_law_ends_right A) := by
  obtain ⟨f, fd, F, hm, hb⟩ := D
  refine ⟨f, fd, okD F sc_law_ends_right (by decide) (len_law_ends_right A) ?_, hm, F.kp, hb⟩
  intro X W E cdv B outer s H Ex hX tk hp hr
  subst hX
  exact ⟨_, w_law_ends_right A E, (scons (sset (i := 1) (ecall2 tk G_law_ends (hr.mono (by decide)) (acons (ev 0) anil)) sc_law_ends_right.nd)
  (scons (sfor hp (il (elstF (acons ei (acons ei anil)))) (gnm 2 sc_law_ends_right.nd) (sone (sfor hp (il (elstF (acons (ecty call_list_of dc_list T.b_list (acons (ev 0) anil)) (acons (erev (ecty call_list_of dc_list T.b_list (acons (ev 0) anil)) (osome (eneg ei))) anil)))) (gnm 3 sc_law_ends_right.nd) (scons (sset (i := 4) (efrz (ecty call_list_of dc_list T.b_list (acons (ev 3) anil))) sc_law_ends_right.nd)
  (scons (sfor hp (ir1 T.b_range (acons ei anil)) (gnm 5 sc_law_ends_right.nd) (sone (sif (tbo (tor (tnot (tval (ecall2 tk G_law_same (hr.mono (by decide)) (acons (ecall2 tk G_law_asked (hr.mono (by decide)) (acons (ev 2) (acons (ev 3) anil))) (acons (etup (acons es' (acons (eix (ev 1) (esub (ev 2) ei)) anil))) anil))))) (tor1 (tnot (tval (ecall2 tk G_law_same (hr.mono (by decide)) (acons (ev 3) (acons (ev 4) anil)))))))) (sone (sret eb)) snil)))
  (scons (sexpr (eapp (ev 3) (acons (etup (acons (emul (epow ei ei) (esub (emul ei (ev 2)) ei)) (acons ei anil))) anil)))
  (scons (sset (i := 6) (ecall2 tk G_law_ends (hr.mono (by decide)) (acons (ev 3) anil)) sc_law_ends_right.nd)
  (sone (sif (tnot (tval (ecall2 tk G_law_same (hr.mono (by decide)) (acons (ecall2 tk G_law_asked (hr.mono (by decide)) (acons (ev 2) (acons (ev 3) anil))) (acons (etup (acons es' (acons (eix (ev 6) (esub (ev 2) ei)) anil))) anil))))) (sone (sret eb)) snil)))))))))
  (sone (sret eb)))), fun ds μ Q E0 hc hE => by subst hE; exact pure_law_ends_right A ds μ Q E0 hc⟩
end K01
set_option maxHeartbeats 800000
namespace K01
open PySem L2 DL PyProof.Rows
local macro_rules | `(tactic| walk_at "w") => `(tactic| simp only [wSeq, wNext, wIf, wRet, wRetN, wDrop, wAsg, gN, wVar, wC, wOp, wUn, wNil, wCons, wCB, wTup, wLst, wLstF, wTe, tB0, wAnd, wOr, wNot, wAndV, wOrV, wNotV, wIfE, wCall, wCallG, wRaise, wFrz, fFrz, rets, fI, fI0, fAdd, fSub, fMul, fLt, fLe, fGt, fGe, fMod, fModN, fPow, fDiv, fDivG, fNeg, fEq, fNe, eqF_int, eqF_bl, eqF_str, scal_int, scal_bl, scal_str, fLen, sv, fIx, fAbs, fInt, fList, wSl, fSlL, oNo, oSo, lvr, lv, fCat, wMeL, fApp, fPop, fSetL, gSb, iLs, iTp, iR1, iR2, wFor, gTp, gCn, gNl, wPar, wBrk, wCnt, fIsi, wIsx, wLc, wYes, wip, wTr, truD, wTry, clrD, wFld, fieldsD, wSetF, wMeth, wMake, fStrI, fFmt, wJoin, wJs, wChain, wRev, fRev, wDNew, wDNewF, wDsp1, wDsp1F, fAddS, fIsN, fNotN, um_same, um_um, st0, List.map_cons, List.map_nil, List.length_cons, List.length_nil, List.getElem?_cons_zero, List.getElem?_cons_succ, List.set_cons_zero, List.set_cons_succ, List.cons_append, List.nil_append, List.replicate, atI_c0, atI_c1, atI_c2, atI_c3, atI_c4, atI_c5, atI_c6, ixN_70, ixN_71, ixN_72, ixN_73, ixN_74, ixN_75, ixN_76, Nat.reduceAdd, Int.reduceToNat, Int.reducePow, ite_T, ite_F, if_dec, if_ndec, if_nb, true_and, if_true, Bool.false_eq_true, if_false])
theorem eq_one (n : Nat) : eqF (.int (n : Int)) (.int 1) = decide (n = 1) := by
  show ((n : Int) == 1) = _
  by_cases c : n = 1
  · subst c; rfl
  · rw [decide_eq_false c]
    exact beq_eq_false_iff_ne.mpr (by omega)
def c_law_ratio_ok (A : Ad) : Ct := fun ds μ Q _ => match ds with
  | [d] => JV d ∧ Q (.bl (isRat d)) μ
  | _ => False
abbrev s_law_ratio_ok : Stmt := top 58
theorem sc_law_ratio_ok : FnScope ["told"] ["told"] (defScope s_law_ratio_ok) := ⟨rfl, rfl, rfl, by decide +kernel, rfl, by decide +kernel, by decide +kernel⟩
def w_law_ratio_ok_1 (A : Ad) (E : EX) : WS := (wRet (wAndV (wOp fGe (wOp fIx (wVar 0) (wC (.int (1)))) (wC (.int (1)))) (wOp fEq (wCall (c_law_gcd A) E (wCons (wOp fIx (wVar 0) (wC (.int (0)))) (wCons (wOp fIx (wVar 0) (wC (.int (1)))) wNil))) (wC (.int (1))))))
def w_law_ratio_ok (A : Ad) (E : EX) : WS := (wSeq (wIf (wOr (wNot (wTe (wUn (fIsi .tup) (wVar 0)))) (wOr (wTe (wOp fNe (wCB fLen (wCons (wVar 0) wNil)) (wC (.int (2))))) (wOr (wNot (wTe (wCall (c_law_number A) E (wCons (wOp fIx (wVar 0) (wC (.int (0)))) wNil)))) (wNot (wTe (wCall (c_law_number A) E (wCons (wOp fIx (wVar 0) (wC (.int (1)))) wNil))))))) (wRet (wC (.bl false))) wNext)
  (w_law_ratio_ok_1 A E))
theorem pure_law_ratio_ok (A : Ad) (ds μ Q E0) (h : c_law_ratio_ok A ds μ Q E0) : w_law_ratio_ok A (fun C fs _ μ => dwx E0 C fs μ) (rets Q) (st0 1 ds) μ := by
  unfold c_law_ratio_ok at h
  split at h
  · rename_i d
    obtain ⟨⟨ho, hb⟩, h⟩ := h
    have hv : okV μ d := okV_of ho
    obtain ⟨⟨t, ht⟩, hp⟩ := hv
    unfold w_law_ratio_ok
    walk_at "w"
    rw [ht]
    refine ⟨by decide, ?_⟩
    show if isB t .tup = true then _ else _
    cases e : isB t .tup with
    | false =>
      rw [if_neg Bool.false_ne_true]
      have nr : isRat d = false := by
        unfold isRat twoI
        split
        · rename_i a b e2
          split at e2
          · cases ht; cases e
          · cases e2
        · rfl
      rw [nr] at h
      exact dwn.of h
    | true =>
      rw [if_pos rfl]
      obtain ⟨l, rfl⟩ := isT_ty ht e
      show if _ then _ else _
      have no : twoI (.tup l) = none → Q (.bl false) μ := fun z => by
        have nr : isRat (.tup l) = false := by
          unfold isRat
          rw [z]
        rw [nr] at h
        exact h
      by_cases hl : l.length = 2
      · rw [if_pos (by omega)]
        obtain ⟨x, y, rfl⟩ : ∃ x y, l = [x, y] := by
          match l, hl with
          | [x, y], _ => exact ⟨x, y, rfl⟩
        obtain ⟨htx, nx⟩ := hp _ rfl x (by simp)
        obtain ⟨hty, ny⟩ := hp _ rfl y (by simp)
        walk_at "w"
        refine ⟨htx, ?_⟩
        have fin1 : isI x = false → dwn Q (.bl false) μ := fun c => dwn.of (no (by cases x <;> first | rfl | cases c))
        have fin2 : isI y = false → dwn Q (.bl false) μ := fun c => dwn.of (no (by cases x <;> cases y <;> first | rfl | cases c))
        cases c : isI x with
        | false => exact fin1 c
        | true =>
          refine ⟨hty, ?_⟩
          cases c2 : isI y with
          | false => exact fin2 c2
          | true =>
            cases x <;> first | (cases c; done) | skip
            cases y <;> first | (cases c2; done) | skip
            rename_i i j
            unfold w_law_ratio_ok_1
            walk_at "w"
            have bj := hb i j rfl
            have hh : Q (.bl (decide (1 ≤ j) && decide (Int.gcd i j = 1))) μ := h
            by_cases c1 : 1 ≤ j
            · rw [if_pos c1]
              rw [decide_eq_true c1, Bool.true_and] at hh
              refine ⟨bj, rfl, dwn.of ?_⟩
              rw [show eqF (.int (Int.gcd i j : Nat)) (.int 1) = decide (Int.gcd i j = 1) from eq_one _]
              exact hh
            · rw [if_neg c1]
              rw [decide_eq_false c1, Bool.false_and] at hh
              exact dwn.of hh
      · rw [if_neg (by omega)]
        refine dwn.of (no ?_)
        unfold twoI
        split
        · rename_i a2 b2 e3
          cases e3
          exact absurd rfl hl
        · rfl
  · exact h.elim
theorem len_law_ratio_ok (A : Ad) : ∀ ds μ Q E, c_law_ratio_ok A ds μ Q E → ds.length = 1 := by
  intro ds μ Q E h
  unfold c_law_ratio_ok at h
  first | (split at h) | (split at h)
  all_goals first | rfl | exact h.elim
theorem ok_law_ratio_ok {P : Program} {w : World} {K : PySem.W.Frag} {mg : Str → Option Value} {base : Heap} {A : Ad} (D : Dfn K mg "_law_ratio_ok" "_law_ratio_ok" s_law_ratio_ok ["told"]) (T : Tx P base K mg A) (G_law_gcd : DfOk P w K mg base "_law_gcd" 1 ["one", "two"] (c_law_gcd A)) (G_law_number : DfOk P w K mg base "_law_number" 1 ["told"] (c_law_number A)) : DfOk P w K mg base "_law_ratio_ok" 2 ["told"] (c_law_ratio_ok A) := by
  obtain ⟨f, fd, F, hm, hb⟩ := D
  refine ⟨f, fd, okD F sc_law_ratio_ok (by decide) (len_law_ratio_ok A) ?_, hm, F.kp, hb⟩
  intro X W E cdv B outer s H Ex hX tk hp hr
  subst hX
  exact ⟨_, w_law_ratio_ok A E, (scons (sif (tbo (tor (tnot (tval (eisi .tup T.b_isinstance T.b_tuple (by decide +kernel) (ev 0)))) (tor (tc' op_ne do_ne (ecb call_len_seq dc_len T.b_len (acons (ev 0) anil)) ei) (tor (tnot (tval (ecall2 tk G_law_number (hr.mono (by decide)) (acons (eix (ev 0) ei) anil)))) (tor1 (tnot (tval (ecall2 tk G_law_number (hr.mono (by decide)) (acons (eix (ev 0) ei) anil))))))))) (sone (sret eb)) snil)
  (sone (sret (eand (ec op_ge do_ge (eix (ev 0) ei) ei) (eone (ec op_eq do_eq (ecall2 tk G_law_gcd (hr.mono (by decide)) (acons (eix (ev 0) ei) (acons (eix (ev 0) ei) anil))) ei)))))), fun ds μ Q E0 hc hE => by subst hE; exact pure_law_ratio_ok A ds μ Q E0 hc⟩
theorem d61_43 {x : Int} (h : D61 x) : x.natAbs < 10 ^ 4300 := Nat.lt_of_lt_of_le (show x.natAbs < 10 ^ 61 by unfold D61 at h; omega) (Nat.pow_le_pow_right (by decide) (by decide))
theorem d61_4 {x : Int} (h : D61 x) : D4 x := Nat.lt_of_lt_of_le (show x.natAbs < 10 ^ 61 by unfold D61 at h; omega) (Nat.pow_le_pow_right (by decide) (by decide))
theorem jv_ns {ns : List Int} (h : ∀ n ∈ ns, D61 n) : JV (.tup (ns.map D.int)) := by
  refine ⟨List.all_eq_true.mpr fun x hx => ?_, fun a b e => ?_⟩
  · obtain ⟨n, _, rfl⟩ := List.mem_map.mp hx
    rfl
  · match ns, h, e with
    | [x, y], h, e =>
      cases e
      exact (h _ (by simp)).bd.mono (by decide)
theorem big4001 : (10 : Nat) ^ 4001 < 2 ^ 13292 := by decide +kernel
theorem bd_two : Bd 2 2 := by unfold Bd; decide
def c_law_judged (A : Ad) : Ct := fun ds μ Q _ => match ds with
  | [.mut p, .tup [.int a, .int b]] => ∃ st, μ p = some (.lst st) ∧ StOk st ∧ Rat61 a b ∧ ∀ (L : List D) (st' : List D), (∀ d ∈ L, JV d) → StOk st' → Q (.lst L) (um μ p (.lst st'))
  | _ => False
abbrev s_law_judged : Stmt := top 68
theorem sc_law_judged : FnScope ["store", "x", "far", "near", "pair", "k", "rows"] ["store", "x"] (defScope s_law_judged) := ⟨rfl, rfl, rfl, by decide +kernel, rfl, by decide +kernel, by decide +kernel⟩
def w_law_judged_6 (A : Ad) (E : EX) : WS := (wSeq (wAsg (wOp fCat (wVar 6) (wLstF (wCons (wTup (wCons (wCB fStrI (wCons (wOp fIx (wVar 1) (wC (.int (0)))) wNil)) (wCons (wOp fIx (wVar 1) (wC (.int (1)))) wNil))) (wCons (wTup (wCons (wOp fIx (wVar 1) (wC (.int (0)))) (wCons (wCB fStrI (wCons (wOp fIx (wVar 1) (wC (.int (1)))) wNil)) wNil))) (wCons (wTup (wCons (wC .non) (wCons (wOp fIx (wVar 1) (wC (.int (1)))) wNil))) (wCons (wTup (wCons (wOp fIx (wVar 1) (wC (.int (0)))) (wCons (wC .non) wNil))) (wCons (wTup (wCons (wTup (wCons (wOp fIx (wVar 1) (wC (.int (0)))) wNil)) (wCons (wOp fIx (wVar 1) (wC (.int (1)))) wNil))) (wCons (wTup (wCons (wVar 1) (wCons (wVar 1) wNil))) (wCons (wLstF (wCons (wVar 1) wNil)) (wCons (wTup (wCons (wVar 1) wNil)) wNil)))))))))) (gN 6))
  (wRet (wOp fCat (wVar 6) (wLstF (wCons (wCall (c_law_bad_ratio A) E (wCons (wVar 0) wNil)) (wCons (wCall (c_law_odd A) E (wCons (wVar 0) wNil)) (wCons (wCall (c_law_odd A) E (wCons (wVar 0) wNil)) (wCons (wDsp1F (wOp fIx (wVar 1) (wC (.int (0)))) (wOp fIx (wVar 1) (wC (.int (1))))) (wCons (wOp fAddS (wOp fAddS (wCB fStrI (wCons (wOp fIx (wVar 1) (wC (.int (0)))) wNil)) (wC (.str "/"))) (wCB fStrI (wCons (wOp fIx (wVar 1) (wC (.int (1)))) wNil))) wNil)))))))))
def w_law_judged_5 (A : Ad) (E : EX) : WS := (wSeq (wAsg (wOp fCat (wVar 6) (wLstF (wCons (wTup (wCons (wOp fIx (wVar 4) (wC (.int (0)))) (wCons (wOp fIx (wVar 4) (wC (.int (1)))) wNil))) (wCons (wTup (wCons (wOp fMul (wC (.int (2))) (wOp fIx (wVar 4) (wC (.int (0))))) (wCons (wOp fMul (wC (.int (2))) (wOp fIx (wVar 4) (wC (.int (1))))) wNil))) (wCons (wTup (wCons (wC (.int (0))) (wCons (wC (.int (2))) wNil))) (wCons (wTup (wCons (wC (.int (0))) (wCons (wC (.int (1))) wNil))) (wCons (wTup (wCons (wC (.int (0))) (wCons (wUn fNeg (wC (.int (1)))) wNil))) (wCons (wTup (wCons (wC (.int (1))) (wCons (wC (.int (0))) wNil))) wNil)))))))) (gN 6))
  (w_law_judged_6 A E))
def w_law_judged_4 (A : Ad) (E : EX) : WS := (wSeq (wAsg (wLstF (wCons (wVar 1) (wCons (wTup (wCons (wVar 2) (wCons (wVar 3) wNil))) (wCons (wTup (wCons (wOp fMul (wC (.int (2))) (wVar 2)) (wCons (wOp fMul (wC (.int (2))) (wVar 3)) wNil))) (wCons (wTup (wCons (wVar 2) (wCons (wOp fSub (wC (.int (0))) (wVar 3)) wNil))) (wCons (wTup (wCons (wOp fSub (wVar 3) (wC (.int (1)))) (wCons (wOp fSub (wVar 3) (wC (.int (1)))) wNil))) (wCons (wTup (wCons (wVar 2) (wCons (wC (.int (0))) wNil))) (wCons (wTup (wCons (wVar 3) (wCons (wC (.int (1))) wNil))) wNil)))))))) (gN 6))
  (w_law_judged_5 A E))
def w_law_judged_b1 (A : Ad) (E : EX) : WS := (wAsg (wLstF (wCons (wOp fIx (wVar 4) (wC (.int (1)))) (wCons (wOp fAdd (wOp fIx (wVar 4) (wC (.int (0)))) (wOp fIx (wVar 4) (wC (.int (1))))) wNil))) (gN 4))
def w_law_judged_3 (A : Ad) (E : EX) : WS := (wSeq (wFor (iR1 (wCons (wCall (c_law_take A) E (wCons (wVar 0) (wCons (wC (.int (400))) wNil))) wNil)) (gN 5) (w_law_judged_b1 A E))
  (w_law_judged_4 A E))
def w_law_judged_2 (A : Ad) (E : EX) : WS := (wSeq (wAsg (wLstF (wCons (wC (.int (1))) (wCons (wC (.int (1))) wNil))) (gN 4))
  (w_law_judged_3 A E))
def w_law_judged_1 (A : Ad) (E : EX) : WS := (wSeq (wAsg (wOp fAdd (wCB fAbs (wCons (wVar 2) wNil)) (wC (.int (1)))) (gN 3))
  (w_law_judged_2 A E))
def w_law_judged (A : Ad) (E : EX) : WS := (wSeq (wAsg (wCall (c_law_long_number A) E (wCons (wVar 0) (wCons (wOp fAdd (wC (.int (1))) (wCall (c_law_take A) E (wCons (wVar 0) (wCons (wC (.int (3999))) wNil)))) wNil))) (gN 2))
  (w_law_judged_1 A E))
theorem pure_law_judged (A : Ad) (ds μ Q E0) (h : c_law_judged A ds μ Q E0) : w_law_judged A (fun C fs _ μ => dwx E0 C fs μ) (rets Q) (st0 7 ds) μ := by
  unfold c_law_judged at h
  split at h
  · rename_i p a b
    obtain ⟨st, hp, hst, hr, h⟩ := h
    unfold w_law_judged
    walk_at "w"
    have jb : ∀ u v : Int, Bd 13300 v → JV (.tup [.int u, .int v]) := fun u v hv => ⟨rfl, fun a b e => by cases e; exact hv⟩
    have jn : ∀ d, okJ d = true → twoI d = none → JV d := fun d h1 h2 => ⟨h1, fun a b e => by rw [h2] at e; cases e⟩
    have ba : Bd 13300 a := hr.2.1.bd.mono (by decide)
    have bb : Bd 13300 b := hr.2.2.bd.mono (by decide)
    have da : a.natAbs < 10 ^ 4300 := d61_43 hr.2.1
    have db : b.natAbs < 10 ^ 4300 := d61_43 hr.2.2
    have r6 : ∀ (s2 s3 s4 s5 : Option D) (L : List D) (st : List D), (∀ d ∈ L, JV d) → L.length ≤ 50 → StOk st → w_law_judged_6 A (fun C fs _ μ => dwx E0 C fs μ) (rets Q) [some (.mut p), some (.tup [.int a, .int b]), s2, s3, s4, s5, some (.lst L)] (um μ p (.lst st)) := by
      intro s2 s3 s4 s5 L st hL hz hst
      unfold w_law_judged_6
      walk_at "w"
      have la : (Str.ofString (toString a)).length ≤ 4001 := tI_len (d61_4 hr.2.1)
      have lb : (Str.ofString (toString b)).length ≤ 4001 := tI_len (d61_4 hr.2.2)
      have ls : (Str.ofString "/").length = 1 := slash_len
      refine ⟨da, by decide, db, by decide, by decide, by decide, by decide, by decide, by decide, by decide, by decide, by decide, by omega, st, um_same, hst, fun ns st1 _ hns hs1 => ?_⟩
      refine ⟨st1, um_same, hs1, fun o1 st2 ho1 hs2 => ⟨st2, um_same, hs2, fun o2 st3 ho2 hs3 q hq => ⟨.inl a, rfl, da, ?_, db, ?_, by decide, ?_, ?_⟩⟩⟩
      · rw [ls, szL]; omega
      · rw [Str.length_append, ls, szL]; omega
      · rw [List.length_append]
        simp only [List.length_cons, List.length_nil]
        omega
      · rw [rm_um hq, um_um, um_um, um_um]
        refine dwn.of (h _ st3 (fun d hd => ?_) hs3)
        simp only [List.mem_append, List.mem_cons, List.not_mem_nil, or_false] at hd
        rcases hd with (hd | rfl | rfl | rfl | rfl | rfl | rfl | rfl | rfl) | rfl | rfl | rfl | rfl | rfl
        · exact hL d hd
        · exact jn _ rfl rfl
        · exact jn _ rfl rfl
        · exact jn _ rfl rfl
        · exact jn _ rfl rfl
        · exact jn _ rfl rfl
        · exact jn _ rfl rfl
        · exact jn _ rfl rfl
        · exact jn _ rfl rfl
        · exact jv_ns hns
        · exact ho1
        · exact ho2
        · exact jn _ rfl rfl
        · exact jn _ rfl rfl
    have r5 : ∀ (s2 s3 s5 : Option D) (u v : Int) (L : List D) (st : List D), (∀ d ∈ L, JV d) → L.length ≤ 20 → Bd 13000 u → Bd 13000 v → StOk st → w_law_judged_5 A (fun C fs _ μ => dwx E0 C fs μ) (rets Q) [some (.mut p), some (.tup [.int a, .int b]), s2, s3, some (.lst [.int u, .int v]), s5, some (.lst L)] (um μ p (.lst st)) := by
      intro s2 s3 s5 u v L st hL hz hu hv hst
      unfold w_law_judged_5
      walk_at "w"
      refine ⟨by decide, mulL (by decide), mulL (by decide), by decide, by decide, by decide, by decide, by decide, by decide, by omega, r6 _ _ _ _ _ st (fun d hd => ?_) (by rw [List.length_append]; simp only [List.length_cons, List.length_nil]; omega) hst⟩
      simp only [List.mem_append, List.mem_cons, List.not_mem_nil, or_false] at hd
      rcases hd with hd | rfl | rfl | rfl | rfl | rfl | rfl
      · exact hL d hd
      · exact jb _ _ (hv.mono (by decide))
      · exact jb _ _ ((bd_two.mul hv).mono (by decide))
      · exact jb _ _ (bd_two.mono (by decide))
      · exact jb _ _ (Nat.one_lt_two_pow (by decide))
      · exact jb _ _ (Nat.one_lt_two_pow (by decide))
      · exact jb _ _ (Nat.two_pow_pos _)
    have r4 : ∀ (s5 : Option D) (u v n m : Int) (st : List D), Bd 13000 u → Bd 13000 v → T10 4001 n → m = (n.natAbs : Nat) + 1 → StOk st → w_law_judged_4 A (fun C fs _ μ => dwx E0 C fs μ) (rets Q) [some (.mut p), some (.tup [.int a, .int b]), some (.int n), some (.int m), some (.lst [.int u, .int v]), s5, none] (um μ p (.lst st)) := by
      intro s5 u v n m st hu hv hn hm hst
      have bm : Bd 13292 m := Nat.lt_of_le_of_lt (show m.natAbs ≤ 10 ^ 4001 by unfold T10 at hn; omega) big4001
      have bn : Bd 13292 n := Nat.lt_of_le_of_lt (show n.natAbs ≤ 10 ^ 4001 from Nat.le_of_lt hn) big4001
      unfold w_law_judged_4
      walk_at "w"
      refine ⟨by decide, mulL (by decide), mulL (by decide), by decide, by decide, by decide, by decide, by decide, by decide, r5 _ _ _ u v _ st (fun d hd => ?_) (show 7 ≤ 20 by decide) hu hv hst⟩
      simp only [List.mem_append, List.mem_cons, List.not_mem_nil, or_false] at hd
      rcases hd with rfl | rfl | rfl | rfl | rfl | rfl | rfl
      · exact jb _ _ bb
      · exact jb _ _ (bm.mono (by decide))
      · exact jb _ _ ((bd_two.mul bm).mono (by decide))
      · refine jb _ _ (bm.mono (m := 13300) (by decide) |> fun z => ?_)
        unfold Bd at z ⊢
        rw [Int.zero_sub, Int.natAbs_neg]
        exact z
      · refine jb _ _ (bn.mono (m := 13300) (by decide) |> fun z => ?_)
        unfold Bd at z ⊢
        rw [show (m - 1).natAbs = n.natAbs by omega]
        exact z
      · exact jb _ _ (Nat.two_pow_pos _)
      · exact jb _ _ (Nat.one_lt_two_pow (by decide))
    have r2 : ∀ (n : Int) (st : List D), T10 4001 n → StOk st → w_law_judged_2 A (fun C fs _ μ => dwx E0 C fs μ) (rets Q) [some (.mut p), some (.tup [.int a, .int b]), some (.int n), some (.int ((n.natAbs : Nat) + 1)), none, none, none] (um μ p (.lst st)) := by
      intro n st hn hst
      unfold w_law_judged_2
      walk_at "w"
      unfold w_law_judged_3
      walk_at "w"
      refine ⟨by decide, st, um_same, hst, bd_small (n := 2990) (by decide) (by decide), fun k st1 hs1 k0 k1 _ => ?_⟩
      have k1 := k1 (by decide)
      rw [um_um]
      refine ⟨⟨by omega, by omega⟩, fun i ρ μ' => μ' = um μ p (.lst st1) ∧ ∃ (u v : Int) (s5 : Option D), ρ = [some (.mut p), some (.tup [.int a, .int b]), some (.int n), some (.int ((n.natAbs : Nat) + 1)), some (.lst [.int u, .int v]), s5, none] ∧ u.natAbs ≤ 2 ^ i ∧ v.natAbs ≤ 2 ^ i, ⟨rfl, 1, 1, _, rfl, by decide, by decide⟩, fun _ _ _ _ => trivial, ?_, ?_⟩
      · rintro i d ρ μ' hd ⟨rfl, u, v, s5, rfl, hu, hv⟩
        unfold w_law_judged_b1
        walk_at "w"
        exact ⟨by decide, wk.of ⟨rfl, v, u + v, _, rfl, by rw [Nat.pow_succ]; omega, by rw [Nat.pow_succ]; omega⟩⟩
      · rintro ρ μ' ⟨rfl, u, v, s5, rfl, hu, hv⟩
        rw [fixi, rng_len] at hu hv
        have h4 : (2 : Nat) ^ k.toNat ≤ 2 ^ 400 := Nat.pow_le_pow_right (by decide) (by omega)
        have h5 : (2 : Nat) ^ 400 < 2 ^ 13000 := Nat.pow_lt_pow_right (by decide) (by decide)
        exact r4 _ u v n _ st1 (Nat.lt_of_le_of_lt (Nat.le_trans hu h4) h5) (Nat.lt_of_le_of_lt (Nat.le_trans hv h4) h5) hn rfl hs1
    refine ⟨st, hp, hst, bd_le (n := 2750) (by decide), fun k st1 hs1 k0 k1 _ => ?_⟩
    have k1 := k1 (by decide)
    refine ⟨by omega, by omega, st1, um_same, hs1, fun n st2 hn hs2 => ?_⟩
    rw [um_um]
    unfold w_law_judged_1
    walk_at "w"
    exact r2 n st2 hn hs2
  · exact h.elim
theorem len_law_judged (A : Ad) : ∀ ds μ Q E, c_law_judged A ds μ Q E → ds.length = 2 := by
  intro ds μ Q E h
  unfold c_law_judged at h
  first | (split at h) | (split at h)
  all_goals first | rfl | exact h.elim
theorem ok_law_judged {P : Program} {w : World} {K : PySem.W.Frag} {mg : Str → Option Value} {base : Heap} {A : Ad} (D : Dfn K mg "_law_judged" "_law_judged" s_law_judged ["store", "x"]) (T : Tx P base K mg A) (G_law_odd : DfOk P w K mg base "_law_odd" 4 ["store"] (c_law_odd A)) (G_law_bad_ratio : DfOk P w K mg base "_law_bad_ratio" 38 ["store"] (c_law_bad_ratio A)) (G_law_take : DfOk P w K mg base "_law_take" 2 ["store", "many"] (c_law_take A)) (G_law_long_number : DfOk P w K mg base "_law_long_number" 3 ["store", "digits"] (c_law_long_number A)) : DfOk P w K mg base "_law_judged" 39 ["store", "x"] (c_law_judged A) := by
  obtain ⟨f, fd, F, hm, hb⟩ := D
  refine ⟨f, fd, okD F sc_law_judged (by decide) (len_law_judged A) ?_, hm, F.kp, hb⟩
  intro X W E cdv B outer s H Ex hX tk hp hr
  subst hX
  exact ⟨_, w_law_judged A E, (scons (sset (i := 2) (ecall2 tk G_law_long_number (hr.mono (by decide)) (acons (ev 0) (acons (eadd ei (ecall2 tk G_law_take (hr.mono (by decide)) (acons (ev 0) (acons ei anil)))) anil))) sc_law_judged.nd)
  (scons (sset (i := 3) (eadd (ecb call_abs dc_abs T.b_abs (acons (ev 2) anil)) ei) sc_law_judged.nd)
  (scons (sset (i := 4) (elstF (acons ei (acons ei anil))) sc_law_judged.nd)
  (scons (sfor hp (ir1 T.b_range (acons (ecall2 tk G_law_take (hr.mono (by decide)) (acons (ev 0) (acons ei anil))) anil)) (gnm 5 sc_law_judged.nd) (sone (sset (i := 4) (elstF (acons (eix (ev 4) ei) (acons (eadd (eix (ev 4) ei) (eix (ev 4) ei)) anil))) sc_law_judged.nd)))
  (scons (sset (i := 6) (elstF (acons (ev 1) (acons (etup (acons (ev 2) (acons (ev 3) anil))) (acons (etup (acons (emul ei (ev 2)) (acons (emul ei (ev 3)) anil))) (acons (etup (acons (ev 2) (acons (esub ei (ev 3)) anil))) (acons (etup (acons (esub (ev 3) ei) (acons (esub (ev 3) ei) anil))) (acons (etup (acons (ev 2) (acons ei anil))) (acons (etup (acons (ev 3) (acons ei anil))) anil)))))))) sc_law_judged.nd)
  (scons (sset (i := 6) (ecat (ev 6) (elstF (acons (etup (acons (eix (ev 4) ei) (acons (eix (ev 4) ei) anil))) (acons (etup (acons (emul ei (eix (ev 4) ei)) (acons (emul ei (eix (ev 4) ei)) anil))) (acons (etup (acons ei (acons ei anil))) (acons (etup (acons ei (acons ei anil))) (acons (etup (acons ei (acons (eneg ei) anil))) (acons (etup (acons ei (acons ei anil))) anil)))))))) sc_law_judged.nd)
  (scons (sset (i := 6) (ecat (ev 6) (elstF (acons (etup (acons (ecty (call_strI rfl T.dig) dc_strI T.b_str (acons (eix (ev 1) ei) anil)) (acons (eix (ev 1) ei) anil))) (acons (etup (acons (eix (ev 1) ei) (acons (ecty (call_strI rfl T.dig) dc_strI T.b_str (acons (eix (ev 1) ei) anil)) anil))) (acons (etup (acons en (acons (eix (ev 1) ei) anil))) (acons (etup (acons (eix (ev 1) ei) (acons en anil))) (acons (etup (acons (etup (acons (eix (ev 1) ei) anil)) (acons (eix (ev 1) ei) anil))) (acons (etup (acons (ev 1) (acons (ev 1) anil))) (acons (elstF (acons (ev 1) anil)) (acons (etup (acons (ev 1) anil)) anil)))))))))) sc_law_judged.nd)
  (sone (sret (ecat (ev 6) (elstF (acons (ecall2 tk G_law_bad_ratio (hr.mono (by decide)) (acons (ev 0) anil)) (acons (ecall2 tk G_law_odd (hr.mono (by decide)) (acons (ev 0) anil)) (acons (ecall2 tk G_law_odd (hr.mono (by decide)) (acons (ev 0) anil)) (acons (edsp1F (eix (ev 1) ei) (eix (ev 1) ei)) (acons (eadds (eadds (ecty (call_strI rfl T.dig) dc_strI T.b_str (acons (eix (ev 1) ei) anil)) es') (ecty (call_strI rfl T.dig) dc_strI T.b_str (acons (eix (ev 1) ei) anil))) anil)))))))))))))))), fun ds μ Q E0 hc hE => by subst hE; exact pure_law_judged A ds μ Q E0 hc⟩
theorem sz_vb {x : Str} {b : Bool} : szD (.tup [.str x, .bl b]) < 100000 := (show 1 + (1 + (1 + 0)) < 100000 by decide)
theorem sz_l2 {a b : Int} : szD (.lst [.int a, .int b]) < 100000 := (show 1 + (1 + (1 + 0)) < 100000 by decide)
def c_law_judges (A : Ad) : Ct := fun ds μ Q _ => match ds with
  | [.lst L, .tup [.int a, .int b]] => (∀ d ∈ L, JV d) ∧ Q (.bl true) μ
  | _ => False
abbrev s_law_judges : Stmt := top 69
theorem sc_law_judges : FnScope ["rows", "x", "value", "wanted", "parts"] ["rows", "x"] (defScope s_law_judges) := ⟨rfl, rfl, rfl, by decide +kernel, rfl, by decide +kernel, by decide +kernel⟩
def w_law_judges_1 (A : Ad) (E : EX) : WS := (wSeq (wAsg (wLstF (wCons (wOp fIx (wVar 1) (wC (.int (0)))) (wCons (wOp fIx (wVar 1) (wC (.int (1)))) wNil))) (gN 4))
  (wRet (wAndV (wCall (c_law_same A) E (wCons (wCall (c_law_asked A) E (wCons (wC (.int (5))) (wCons (wVar 4) wNil))) (wCons (wTup (wCons (wC (.str "value")) (wCons (wC (.bl false)) wNil))) wNil))) (wCall (c_law_same A) E (wCons (wVar 4) (wCons (wLstF (wCons (wOp fIx (wVar 1) (wC (.int (0)))) (wCons (wOp fIx (wVar 1) (wC (.int (1)))) wNil))) wNil))))))
def w_law_judges_b1 (A : Ad) (E : EX) : WS := (wSeq (wAsg (wTup (wCons (wC (.str "value")) (wCons (wCall (c_law_ratio_ok A) E (wCons (wVar 2) wNil)) wNil))) (gN 3))
  (wIf (wOr (wNot (wTe (wCall (c_law_same A) E (wCons (wCall (c_law_asked A) E (wCons (wC (.int (5))) (wCons (wVar 2) wNil))) (wCons (wVar 3) wNil))))) (wNot (wTe (wCall (c_law_same A) E (wCons (wCall (c_law_asked A) E (wCons (wC (.int (5))) (wCons (wVar 2) wNil))) (wCons (wVar 3) wNil)))))) (wRet (wC (.bl false))) wNext))
def w_law_judges (A : Ad) (E : EX) : WS := (wSeq (wFor (iLs (wVar 0)) (gN 2) (w_law_judges_b1 A E))
  (w_law_judges_1 A E))
theorem pure_law_judges (A : Ad) (ds μ Q E0) (h : c_law_judges A ds μ Q E0) : w_law_judges A (fun C fs _ μ => dwx E0 C fs μ) (rets Q) (st0 5 ds) μ := by
  unfold c_law_judges at h
  split at h
  · rename_i L a b
    obtain ⟨hL, h⟩ := h
    unfold w_law_judges
    walk_at "w"
    refine ⟨fun i ρ μ' => μ' = μ ∧ ∃ s2 s3, ρ = [some (.lst L), some (.tup [.int a, .int b]), s2, s3, none], ⟨rfl, _, _, rfl⟩, fun _ _ _ _ => trivial, ?_, ?_⟩
    · rintro i d ρ μ' hd ⟨rfl, s2, s3, rfl⟩
      rw [fixi] at hd
      have jd := hL d (List.mem_of_getElem? hd)
      have ask : ∀ (Q : D → Mu → Prop) E, Q (.tup [.str "value", .bl (isRat d)]) μ' → c_law_asked A [.int 5, d] μ' Q E := fun Q E q => ask_5 ⟨okV_of jd.1, q⟩
      unfold w_law_judges_b1
      walk_at "w"
      refine ⟨jd, by decide, ask _ _ ⟨rfl, rfl, sz_vb, fun b hb => ?_⟩⟩
      obtain rfl : b = true := hb.mpr rfl
      walk_at "w"
      refine ask _ _ ⟨rfl, rfl, sz_vb, fun b hb => ?_⟩
      obtain rfl : b = true := hb.mpr rfl
      exact wk.of ⟨rfl, _, _, rfl⟩
    · rintro ρ μ' ⟨rfl, s2, s3, rfl⟩
      unfold w_law_judges_1
      walk_at "w"
      refine ⟨by decide, ask_5 ⟨okV_of rfl, by decide, rfl, rfl, sz_vb, fun b hb => ?_⟩⟩
      obtain rfl : b = true := hb.mpr rfl
      walk_at "w"
      refine ⟨by decide, rfl, rfl, sz_l2, fun b hb => ?_⟩
      obtain rfl : b = true := hb.mpr rfl
      exact dwn.of h
  · exact h.elim
theorem len_law_judges (A : Ad) : ∀ ds μ Q E, c_law_judges A ds μ Q E → ds.length = 2 := by
  intro ds μ Q E h
  unfold c_law_judges at h
  first | (split at h) | (split at h)
  all_goals first | rfl | exact h.elim
theorem ok_law_judges {P : Program} {w : World} {K : PySem.W.Frag} {mg : Str → Option Value} {base : Heap} {A : Ad} (D : Dfn K mg "_law_judges" "_law_judges" s_law_judges ["rows", "x"]) (T : Tx P base K mg A) (G_law_same : DfOk P w K mg base "_law_same" 2 ["told", "wanted"] (c_law_same A)) (G_law_asked : DfOk P w K mg base "_law_asked" 39 ["op", "thing"] (c_law_asked A)) (G_law_ratio_ok : DfOk P w K mg base "_law_ratio_ok" 2 ["told"] (c_law_ratio_ok A)) : DfOk P w K mg base "_law_judges" 40 ["rows", "x"] (c_law_judges A) := by
  obtain ⟨f, fd, F, hm, hb⟩ := D
  refine ⟨f, fd, okD F sc_law_judges (by decide) (len_law_judges A) ?_, hm, F.kp, hb⟩
  intro X W E cdv B outer s H Ex hX tk hp hr
  subst hX
  exact ⟨_, w_law_judges A E, (scons (sfor hp (il (ev 0)) (gnm 2 sc_law_judges.nd) (scons (sset (i := 3) (etup (acons es' (acons (ecall2 tk G_law_ratio_ok (hr.mono (by decide)) (acons (ev 2) anil)) anil))) sc_law_judges.nd)
  (sone (sif (tbo (tor (tnot (tval (ecall2 tk G_law_same (hr.mono (by decide)) (acons (ecall2 tk G_law_asked (hr.mono (by decide)) (acons ei (acons (ev 2) anil))) (acons (ev 3) anil))))) (tor1 (tnot (tval (ecall2 tk G_law_same (hr.mono (by decide)) (acons (ecall2 tk G_law_asked (hr.mono (by decide)) (acons ei (acons (ev 2) anil))) (acons (ev 3) anil)))))))) (sone (sret eb)) snil))))
  (scons (sset (i := 4) (elstF (acons (eix (ev 1) ei) (acons (eix (ev 1) ei) anil))) sc_law_judges.nd)
  (sone (sret (eand (ecall2 tk G_law_same (hr.mono (by decide)) (acons (ecall2 tk G_law_asked (hr.mono (by decide)) (acons ei (acons (ev 4) anil))) (acons (etup (acons es' (acons eb anil))) anil))) (eone (ecall2 tk G_law_same (hr.mono (by decide)) (acons (ev 4) (acons (elstF (acons (eix (ev 1) ei) (acons (eix (ev 1) ei) anil))) anil))))))))), fun ds μ Q E0 hc hE => by subst hE; exact pure_law_judges A ds μ Q E0 hc⟩
end K01
set_option maxHeartbeats 800000
namespace K01
open PySem L2 DL PyProof.Rows
local macro_rules | `(tactic| walk_at "w") => `(tactic| simp only [wSeq, wNext, wIf, wRet, wRetN, wDrop, wAsg, gN, wVar, wC, wOp, wUn, wNil, wCons, wCB, wTup, wLst, wLstF, wTe, tB0, wAnd, wOr, wNot, wAndV, wOrV, wNotV, wIfE, wCall, wCallG, wRaise, wFrz, fFrz, rets, fI, fI0, fAdd, fSub, fMul, fLt, fLe, fGt, fGe, fMod, fModN, fPow, fDiv, fDivG, fNeg, fEq, fNe, eqF_int, eqF_bl, eqF_str, scal_int, scal_bl, scal_str, fLen, sv, fIx, fAbs, fInt, fList, wSl, fSlL, oNo, oSo, lvr, lv, fCat, wMeL, fApp, fPop, fSetL, gSb, iLs, iTp, iR1, iR2, wFor, gTp, gCn, gNl, wPar, wBrk, wCnt, fIsi, wIsx, wLc, wYes, wip, wTr, truD, wTry, clrD, wFld, fieldsD, wSetF, wMeth, wMake, fStrI, fFmt, wJoin, wJs, wChain, wRev, fRev, wDNew, wDNewF, wDsp1, wDsp1F, fAddS, fIsN, fNotN, um_same, um_um, st0, List.map_cons, List.map_nil, List.length_cons, List.length_nil, List.getElem?_cons_zero, List.getElem?_cons_succ, List.set_cons_zero, List.set_cons_succ, List.cons_append, List.nil_append, List.replicate, atI_c0, atI_c1, atI_c2, atI_c3, atI_c4, atI_c5, atI_c6, ixN_70, ixN_71, ixN_72, ixN_73, ixN_74, ixN_75, ixN_76, Nat.reduceAdd, Int.reduceToNat, Int.reducePow, ite_T, ite_F, if_dec, if_ndec, if_nb, true_and, if_true, Bool.false_eq_true, if_false])
def c_law (A : Ad) : Ct := fun ds μ Q _ => match ds with
  | [.lsr l] => ∃ ns : List Int, l = ns.map D.int ∧ ns.length ≤ 63 ∧ Q (.bl true) μ
  | _ => False
abbrev s_law : Stmt := top 70
theorem sc_law : FnScope ["script", "store", "x", "rows", "many", "power", "bad", "at", "op", "given", "ratio_of"] ["script"] (defScope s_law) := ⟨rfl, rfl, rfl, by decide +kernel, rfl, by decide +kernel, by decide +kernel⟩
def w_law_12 (A : Ad) (E : EX) : WS := (wSeq (wIf (wOr (wNot (wTe (wCall (c_law_ends_right A) E (wCons (wVar 3) wNil)))) (wNot (wTe (wCall (c_law_ends_right A) E (wCons (wLstF (wCons (wVar 2) wNil)) wNil))))) (wRet (wC (.bl false))) wNext)
  (wSeq (wIf (wAnd (wTe (wOp fEq (wVar 4) (wC (.int (1))))) (wNot (wTe (wCall (c_law_ends_right A) E (wCons (wLstF (wCons (wOp fIx (wVar 5) (wC (.int (0)))) (wCons (wVar 2) (wCons (wOp fIx (wVar 3) (wC (.int (0)))) wNil)))) wNil))))) (wRet (wC (.bl false))) wNext)
  (wRet (wCall (c_law_judges A) E (wCons (wCall (c_law_judged A) E (wCons (wVar 1) (wCons (wVar 2) wNil))) (wCons (wVar 2) wNil))))))
def w_law_b1 (A : Ad) (E : EX) : WS := (wIf (wOr (wNot (wTe (wCall (c_law_rounded A) E (wCons (wVar 10) wNil)))) (wNot (wTe (wCall (c_law_same A) E (wCons (wCall (c_law_asked A) E (wCons (wC (.int (5))) (wCons (wVar 10) wNil))) (wCons (wTup (wCons (wC (.str "value")) (wCons (wC (.bl true)) wNil))) wNil)))))) (wRet (wC (.bl false))) wNext)
def w_law_11 (A : Ad) (E : EX) : WS := (wSeq (wFor (iLs (wLstF (wCons (wVar 2) (wCons (wOp fIx (wVar 3) (wC (.int (0)))) (wCons (wOp fIx (wVar 5) (wC (.int (0)))) (wCons (wVar 2) wNil)))))) (gN 10) (w_law_b1 A E))
  (w_law_12 A E))
def w_law_b2 (A : Ad) (E : EX) : WS := (wIf (wNot (wTe (wCall (c_law_refused A) E (wCons (wVar 8) (wCons (wVar 9) wNil))))) (wRet (wC (.bl false))) wNext)
def w_law_b3 (A : Ad) (E : EX) : WS := (wFor (iLs (wLstF (wCons (wLstF wNil) (wCons (wLstF (wCons (wVar 6) wNil)) (wCons (wOp fCat (wOp fCat (wSl fSlL (wVar 3) oNo (oSo (wVar 7))) (wLstF (wCons (wVar 6) wNil))) (wSl fSlL (wVar 3) (oSo (wVar 7)) oNo)) wNil))))) (gN 9) (w_law_b2 A E))
def w_law_10 (A : Ad) (E : EX) : WS := (wSeq (wFor (iLs (wLstF (wCons (wC (.int (3))) (wCons (wC (.int (4))) wNil)))) (gN 8) (w_law_b3 A E))
  (w_law_11 A E))
def w_law_b4 (A : Ad) (E : EX) : WS := (wIf (wNot (wTe (wCall (c_law_refused A) E (wCons (wVar 8) (wCons (wVar 6) wNil))))) (wRet (wC (.bl false))) wNext)
def w_law_9 (A : Ad) (E : EX) : WS := (wSeq (wFor (iR1 (wCons (wC (.int (3))) wNil)) (gN 8) (w_law_b4 A E))
  (w_law_10 A E))
def w_law_7 (A : Ad) (E : EX) : WS := (wSeq (wAsg (wCall (c_law_bad_ratio A) E (wCons (wVar 1) wNil)) (gN 6))
  (wSeq (wAsg (wCall (c_law_take A) E (wCons (wVar 1) (wCons (wOp fAdd (wCB fLen (wCons (wVar 3) wNil)) (wC (.int (1)))) wNil))) (gN 7))
  (w_law_9 A E)))
def w_law_6 (A : Ad) (E : EX) : WS := (wSeq (wIf (wTe (wOp fEqD (wVar 5) (wLstF wNil))) (wRet (wC (.bl false))) wNext)
  (w_law_7 A E))
def w_law_5 (A : Ad) (E : EX) : WS := (wSeq (wAsg (wCall (c_law_power A) E (wCons (wVar 2) (wCons (wVar 4) wNil))) (gN 5))
  (w_law_6 A E))
def w_law_3 (A : Ad) (E : EX) : WS := (wSeq (wAsg (wC (.int (1))) (gN 4))
  (wSeq (wIf (wTe (wCall (c_law_rare A) E (wCons (wVar 1) (wCons (wC (.int (64))) wNil)))) (wAsg (wC (.int (6))) (gN 4)) wNext)
  (w_law_5 A E)))
def w_law_2 (A : Ad) (E : EX) : WS := (wSeq (wAsg (wCall (c_law_many A) E (wCons (wVar 1) wNil)) (gN 3))
  (w_law_3 A E))
def w_law_1 (A : Ad) (E : EX) : WS := (wSeq (wAsg (wCall (c_law_one A) E (wCons (wVar 1) wNil)) (gN 2))
  (w_law_2 A E))
def w_law (A : Ad) (E : EX) : WS := (wSeq (wAsg (wCall (c_law_store A) E (wCons (wVar 0) wNil)) (gN 1))
  (w_law_1 A E))
theorem d61_t {x : Int} (h : D61 x) : T10 61 x := show x.natAbs < 10 ^ 61 by unfold D61 at h; omega
/-- questions of a list that are refused -/
theorem ref_list {A : Ad} {op : Int} {d : D} {μ : Mu} {nss : List (List Int)} {Q : D → Mu → Prop} {E : Addr → List (Str × D) → Mu → Prop} (hop : op = 3 ∨ op = 4) (rl : RatL μ d nss) (hl : nss.length ≤ 1000) (hb : nss = [] ∨ ∃ ns ∈ nss, formB ns = false) (hQ : Q (.bl true) μ) : c_law_refused A [.int op, d] μ Q E := by
  have no : ¬ (nss ≠ [] ∧ ∀ ns ∈ nss, formB ns = true) := by
    rintro ⟨h1, h2⟩
    rcases hb with z | ⟨ns, hn, z⟩
    · exact h1 z
    · rw [h2 ns hn] at z; cases z
  show askC _ _ _ _ _ _
  unfold askC
  rcases hop with rfl | rfl
  · rw [if_neg (by decide), if_neg (by decide), if_neg (by decide), if_pos rfl]
    exact ⟨nss, rl, hl, by rw [if_neg no]; exact ⟨rfl, rfl, hQ⟩⟩
  · rw [if_neg (by decide), if_neg (by decide), if_neg (by decide), if_neg (by decide), if_pos rfl]
    exact ⟨nss, rl, hl, by rw [if_neg no]; exact ⟨rfl, rfl, hQ⟩⟩
theorem ref_un {A : Ad} {op : Int} {ns : List Int} {μ : Mu} {Q : D → Mu → Prop} {E : Addr → List (Str × D) → Mu → Prop} (hop : op = 0 ∨ op = 1 ∨ op = 2) (hb : formB ns = false) (hQ : Q (.bl true) μ) : c_law_refused A [.int op, .tup (ns.map D.int)] μ Q E := by
  have no : ¬ formB ns = true := by rw [hb]; exact Bool.false_ne_true
  have un : ∀ (f : Int → Int → Mu → (D → Mu → Prop) → Prop) (Q' : D → Mu → Prop), cUn A f [.tup (ns.map D.int)] μ Q' (fun C fs μ' => fs = [] ∧ C = A.BadNumber ∧ Q (.bl true) μ') := fun f Q' => ⟨ns, rfl, by rw [if_neg no]; exact ⟨rfl, rfl, hQ⟩⟩
  show askC _ _ _ _ _ _
  unfold askC
  rcases hop with rfl | rfl | rfl
  · rw [if_pos rfl]; exact un _ _
  · rw [if_neg (by decide), if_pos rfl]; exact un _ _
  · rw [if_neg (by decide), if_neg (by decide), if_pos rfl]; exact un _ _
theorem cut_map {α : Type} (f : α → D) (L : List α) (i j : Option Int) : ∃ L' : List α, DL.cutD (L.map f) i j = L'.map f ∧ L'.length ≤ L.length := by
  unfold DL.cutD
  rw [← List.map_drop, ← List.map_take]
  refine ⟨_, rfl, ?_⟩
  rw [List.length_take, List.length_drop]
  omega
theorem pure_law (A : Ad) (ds μ Q E0) (h : c_law A ds μ Q E0) : w_law A (fun C fs _ μ => dwx E0 C fs μ) (rets Q) (st0 11 ds) μ := by
  unfold c_law at h
  split at h
  · rename_i l
    obtain ⟨ns, rfl, hl, h⟩ := h
    unfold w_law
    walk_at "w"
    refine ⟨ns, rfl, hl, fun p st hst hp => ?_⟩
    have fin : ∀ m, dwn Q (.bl true) (um μ p m) := fun m => ⟨μ, le.um hp, h⟩
    have r12 : ∀ (a b pn pm many : Int) (r : Int × Int) (l : List (Int × Int)) (s6 s7 s8 s9 s10 : Option D) (st : List D), Rat61 a b → (∀ q ∈ r :: l, Rat61 q.1 q.2) → (r :: l).length ≤ 60 → formB [pn, pm] = true → T10 3904 pn → T10 3904 pm → StOk st →
        w_law_12 A (fun C fs _ μ => dwx E0 C fs μ) (rets Q) [some (.lsr (ns.map D.int)), some (.mut p), some (dP (a, b)), some (.lst ((r :: l).map dP)), some (.int many), some (.lst [dP (pn, pm)]), s6, s7, s8, s9, s10] (um μ p (.lst st)) := by
      intro a b pn pm many r l s6 s7 s8 s9 s10 st hab hr hl hf hn hm hst
      have ok : ∀ u v, Rat61 u v → formB [u, v] = true ∧ BB u ∧ BB v := fun u v h => ⟨h.1, h.2.1.bd.mono (by decide), h.2.2.bd.mono (by decide)⟩
      unfold w_law_12
      walk_at "w"
      refine ⟨r, l, rfl, fun q hq => ok _ _ (hr q hq), Nat.le_trans hl (by decide), ?_⟩
      try walk_at "w"
      refine ⟨by decide, (a, b), [], rfl, fun q hq => by rw [List.mem_singleton.mp hq]; exact ok _ _ hab, Nat.le_of_ble_eq_true rfl, ?_⟩
      try walk_at "w"
      have last : ∀ (E : Addr → List (Str × D) → Mu → Prop), c_law_judged A [.mut p, dP (a, b)] (um μ p (.lst st)) (fun d μ1 => c_law_judges A [d, dP (a, b)] μ1 (fun d μ => dwn Q d μ) E) E := fun E => by
        refine ⟨st, um_same, hst, hab, fun L st' hL hs' => ⟨hL, ?_⟩⟩
        rw [um_um]
        exact fin _
      refine ite2 (fun _ => ⟨by decide, (pn, pm), [(a, b), r], rfl, fun q hq => ?_, Nat.le_of_ble_eq_true rfl, last _⟩) (fun _ => last _)
      simp only [List.mem_cons, List.not_mem_nil, or_false] at hq
      rcases hq with rfl | rfl | rfl
      · exact ⟨hf, hn.bb, hm.bb⟩
      · exact ok _ _ hab
      · exact ok _ _ (hr _ List.mem_cons_self)
    have r11 : ∀ (a b pn pm many : Int) (r : Int × Int) (l : List (Int × Int)) (s6 s7 s8 s9 s10 : Option D) (st : List D), Rat61 a b → (∀ q ∈ r :: l, Rat61 q.1 q.2) → (r :: l).length ≤ 60 → formB [pn, pm] = true → T10 3904 pn → T10 3904 pm → StOk st →
        w_law_11 A (fun C fs _ μ => dwx E0 C fs μ) (rets Q) [some (.lsr (ns.map D.int)), some (.mut p), some (dP (a, b)), some (.lst ((r :: l).map dP)), some (.int many), some (.lst [dP (pn, pm)]), s6, s7, s8, s9, s10] (um μ p (.lst st)) := by
      intro a b pn pm many r l s6 s7 s8 s9 s10 st hab hr hl hf hn hm hst
      have ok : ∀ u v, Rat61 u v → formB [u, v] = true ∧ T10 3904 u ∧ T10 3904 v := fun u v h => ⟨h.1, (d61_t h.2.1).mono (by decide), (d61_t h.2.2).mono (by decide)⟩
      unfold w_law_11
      walk_at "w"
      refine ⟨by decide, fun i ρ μ' => μ' = um μ p (.lst st) ∧ ∃ s10, ρ = [some (.lsr (ns.map D.int)), some (.mut p), some (dP (a, b)), some (.lst ((r :: l).map dP)), some (.int many), some (.lst [dP (pn, pm)]), s6, s7, s8, s9, s10], ⟨rfl, _, rfl⟩, fun _ _ _ _ => trivial, ?_, ?_⟩
      · rintro i d ρ μ' hd ⟨rfl, s10, rfl⟩
        rw [fixi] at hd
        have hq : ∃ u v, d = .tup [.int u, .int v] ∧ formB [u, v] = true ∧ T10 3904 u ∧ T10 3904 v := by
          have := List.mem_of_getElem? hd
          simp only [List.mem_cons, List.not_mem_nil, or_false] at this
          rcases this with rfl | rfl | rfl | rfl
          · exact ⟨a, b, rfl, ok _ _ hab⟩
          · exact ⟨r.1, r.2, rfl, ok _ _ (hr _ List.mem_cons_self)⟩
          · exact ⟨pn, pm, rfl, hf, hn, hm⟩
          · exact ⟨a, b, rfl, ok _ _ hab⟩
        obtain ⟨u, v, rfl, qf, q1, q2⟩ := hq
        unfold w_law_b1
        walk_at "w"
        refine ⟨qf, q1, q2, ?_⟩
        try walk_at "w"
        refine ask_5 ⟨okV_of rfl, by decide, rfl, rfl, sz_vb, fun k hk => ?_⟩
        obtain rfl : k = true := hk.mpr (by rw [show isRat (.tup [.int u, .int v]) = formB [u, v] from rfl, qf])
        exact wk.of ⟨rfl, _, rfl⟩
      · rintro ρ μ' ⟨rfl, s10, rfl⟩
        exact r12 a b pn pm many r l _ _ _ _ _ st hab hr hl hf hn hm hst
    have r10 : ∀ (a b pn pm many at' : Int) (r : Int × Int) (l : List (Int × Int)) (bad : List Int) (s8 s9 s10 : Option D) (st : List D), Rat61 a b → (∀ q ∈ r :: l, Rat61 q.1 q.2) → (r :: l).length ≤ 60 → formB [pn, pm] = true → T10 3904 pn → T10 3904 pm → formB bad = false → StOk st →
        w_law_10 A (fun C fs _ μ => dwx E0 C fs μ) (rets Q) [some (.lsr (ns.map D.int)), some (.mut p), some (dP (a, b)), some (.lst ((r :: l).map dP)), some (.int many), some (.lst [dP (pn, pm)]), some (.tup (bad.map D.int)), some (.int at'), s8, s9, s10] (um μ p (.lst st)) := by
      intro a b pn pm many at' r l bad s8 s9 s10 st hab hr hl hf hn hm hbad hst
      unfold w_law_10
      walk_at "w"
      refine ⟨by decide, fun i ρ μ' => μ' = um μ p (.lst st) ∧ ∃ s8 s9, ρ = [some (.lsr (ns.map D.int)), some (.mut p), some (dP (a, b)), some (.lst ((r :: l).map dP)), some (.int many), some (.lst [dP (pn, pm)]), some (.tup (bad.map D.int)), some (.int at'), s8, s9, s10], ⟨rfl, _, _, rfl⟩, fun _ _ _ _ => trivial, ?_, ?_⟩
      · rintro i e ρ μ' he ⟨rfl, s8, s9, rfl⟩
        have hop : ∃ op : Int, e = .int op ∧ (op = 3 ∨ op = 4) := by
          have := List.mem_of_getElem? he
          simp only [fixi, List.mem_cons, List.not_mem_nil, or_false] at this
          rcases this with rfl | rfl
          · exact ⟨3, rfl, .inl rfl⟩
          · exact ⟨4, rfl, .inr rfl⟩
        obtain ⟨op, rfl, hop⟩ := hop
        obtain ⟨L1, e1, l1⟩ := cut_map dP (r :: l) none (some at')
        obtain ⟨L2, e2, l2⟩ := cut_map dP (r :: l) (some at') none
        unfold w_law_b3
        walk_at "w"
        rw [List.map_cons] at e1 e2
        rw [e1, e2]
        have le1 : L1.length ≤ 60 := Nat.le_trans l1 hl
        have le2 : L2.length ≤ 60 := Nat.le_trans l2 hl
        refine ⟨by decide, by decide, by decide, by rw [List.length_map]; omega, by rw [List.length_append, List.length_map, List.length_map]; simp only [List.length_cons, List.length_nil]; omega, by decide, fun i ρ μ' => μ' = um μ p (.lst st) ∧ ∃ s9, ρ = [some (.lsr (ns.map D.int)), some (.mut p), some (dP (a, b)), some (.lst ((r :: l).map dP)), some (.int many), some (.lst [dP (pn, pm)]), some (.tup (bad.map D.int)), some (.int at'), some (.int op), s9, s10], ⟨rfl, _, rfl⟩, fun _ _ _ _ => trivial, ?_, ?_⟩
        · rintro j d ρ μ' hd ⟨rfl, s9, rfl⟩
          have ask : ∀ (Q : D → Mu → Prop) E, Q (.bl true) (um μ p (.lst st)) → c_law_refused A [.int op, d] (um μ p (.lst st)) Q E := by
            intro Q E hQ
            have := List.mem_of_getElem? hd
            simp only [fixi, List.mem_cons, List.not_mem_nil, or_false] at this
            rcases this with rfl | rfl | rfl
            · exact ref_list (nss := []) hop rfl (by decide) (.inl rfl) hQ
            · exact ref_list (nss := [bad]) hop rfl (Nat.le_of_ble_eq_true rfl) (.inr ⟨bad, List.mem_singleton.mpr rfl, hbad⟩) hQ
            · refine ref_list (nss := L1.map (fun q => [q.1, q.2]) ++ [bad] ++ L2.map (fun q => [q.1, q.2])) hop ?_ ?_ (.inr ⟨bad, by simp, hbad⟩) hQ
              · show some _ = some _
                rw [List.map_append, List.map_append, List.map_map, List.map_map]
                rfl
              · rw [List.length_append, List.length_append, List.length_map, List.length_map]
                simp only [List.length_cons, List.length_nil]
                omega
          unfold w_law_b2
          walk_at "w"
          refine ask _ _ ?_
          try walk_at "w"
          exact wk.of ⟨rfl, _, rfl⟩
        · rintro ρ μ' ⟨rfl, s9, rfl⟩
          exact wk.of ⟨rfl, _, _, rfl⟩
      · rintro ρ μ' ⟨rfl, s8, s9, rfl⟩
        exact r11 a b pn pm many r l _ _ _ _ _ st hab hr hl hf hn hm hst
    have r9 : ∀ (a b pn pm many at' : Int) (r : Int × Int) (l : List (Int × Int)) (bad : List Int) (s8 s9 s10 : Option D) (st : List D), Rat61 a b → (∀ q ∈ r :: l, Rat61 q.1 q.2) → (r :: l).length ≤ 60 → formB [pn, pm] = true → T10 3904 pn → T10 3904 pm → formB bad = false → StOk st →
        w_law_9 A (fun C fs _ μ => dwx E0 C fs μ) (rets Q) [some (.lsr (ns.map D.int)), some (.mut p), some (dP (a, b)), some (.lst ((r :: l).map dP)), some (.int many), some (.lst [dP (pn, pm)]), some (.tup (bad.map D.int)), some (.int at'), s8, s9, s10] (um μ p (.lst st)) := by
      intro a b pn pm many at' r l bad s8 s9 s10 st hab hr hl hf hn hm hbad hst
      unfold w_law_9
      walk_at "w"
      refine ⟨by decide, fun i ρ μ' => μ' = um μ p (.lst st) ∧ ∃ s8, ρ = [some (.lsr (ns.map D.int)), some (.mut p), some (dP (a, b)), some (.lst ((r :: l).map dP)), some (.int many), some (.lst [dP (pn, pm)]), some (.tup (bad.map D.int)), some (.int at'), s8, s9, s10], ⟨rfl, _, rfl⟩, fun _ _ _ _ => trivial, ?_, ?_⟩
      · rintro i d ρ μ' hd ⟨rfl, s8, rfl⟩
        rw [fixi] at hd
        obtain ⟨hi, rfl⟩ := rng_at hd
        have hi : i < 3 := hi
        have ask : ∀ (Q : D → Mu → Prop) E, Q (.bl true) (um μ p (.lst st)) → c_law_refused A [.int (0 + (i : Nat)), .tup (bad.map D.int)] (um μ p (.lst st)) Q E := fun Q E hQ => ref_un (by omega) hbad hQ
        unfold w_law_b4
        walk_at "w"
        refine ask _ _ ?_
        try walk_at "w"
        exact wk.of ⟨rfl, _, rfl⟩
      · rintro ρ μ' ⟨rfl, s8, rfl⟩
        exact r10 a b pn pm many at' r l bad _ _ _ st hab hr hl hf hn hm hbad hst
    have r5 : ∀ (a b many : Int) (r : Int × Int) (l : List (Int × Int)) (st : List D), Rat61 a b → (∀ q ∈ r :: l, Rat61 q.1 q.2) → (r :: l).length ≤ 60 → 0 ≤ many → many ≤ 6 → StOk st →
        w_law_5 A (fun C fs _ μ => dwx E0 C fs μ) (rets Q) [some (.lsr (ns.map D.int)), some (.mut p), some (dP (a, b)), some (.lst ((r :: l).map dP)), some (.int many), none, none, none, none, none, none] (um μ p (.lst st)) := by
      intro a b many r l st hab hr hl h0 h6 hst
      unfold w_law_5
      walk_at "w"
      refine ⟨hab.1, d61_t hab.2.1, d61_t hab.2.2, h0, h6, fun pn pm hf hn hm => ?_⟩
      unfold w_law_6
      walk_at "w"
      refine ⟨by decide, .list [.tuple [.int pn, .int pm]], .list [], rfl, rfl, rfl, rfl, ?_⟩
      rw [eqD_short]
      unfold w_law_7
      walk_at "w"
      refine ⟨st, um_same, hst, fun bad st1 hbad _ hs1 => ?_⟩
      try walk_at "w"
      refine ⟨st1, um_same, hs1, bd_small (n := 2990) (by omega) ?_, fun k st2 hs2 k0 k1 _ => ?_⟩
      · simp only [List.length_cons, List.length_map] at hl ⊢
        omega
      · rw [um_um]
        exact r9 a b pn pm many k r l bad _ _ _ st2 hab hr hl hf hn hm hbad hs2
    unfold w_law_1
    walk_at "w"
    refine ⟨st, um_same, hst, fun a b st1 hab hs1 => ?_⟩
    unfold w_law_2
    walk_at "w"
    refine ⟨st1, um_same, hs1, fun r l st2 hr hl hs2 => ?_⟩
    unfold w_law_3
    walk_at "w"
    refine ⟨st2, um_same, hs2, bd_small (n := 2990) (by decide) (by decide), fun k st3 hs3 => ?_⟩
    try walk_at "w"
    cases k with
    | true => exact r5 a b 6 r l st3 hab hr hl (by decide) (by decide) hs3
    | false => exact r5 a b 1 r l st3 hab hr hl (by decide) (by decide) hs3
  · exact h.elim
theorem len_law (A : Ad) : ∀ ds μ Q E, c_law A ds μ Q E → ds.length = 1 := by
  intro ds μ Q E h
  unfold c_law at h
  first | (split at h) | (split at h)
  all_goals first | rfl | exact h.elim
theorem ok_law {P : Program} {w : World} {K : PySem.W.Frag} {mg : Str → Option Value} {base : Heap} {A : Ad} (D : Dfn K mg "law" "law" s_law ["script"]) (T : Tx P base K mg A) (G_law_judges : DfOk P w K mg base "_law_judges" 40 ["rows", "x"] (c_law_judges A)) (G_law_judged : DfOk P w K mg base "_law_judged" 39 ["store", "x"] (c_law_judged A)) (G_law_ends_right : DfOk P w K mg base "_law_ends_right" 40 ["rows"] (c_law_ends_right A)) (G_law_same : DfOk P w K mg base "_law_same" 2 ["told", "wanted"] (c_law_same A)) (G_law_asked : DfOk P w K mg base "_law_asked" 39 ["op", "thing"] (c_law_asked A)) (G_law_rounded : DfOk P w K mg base "_law_rounded" 40 ["x"] (c_law_rounded A)) (G_law_refused : DfOk P w K mg base "_law_refused" 40 ["op", "thing"] (c_law_refused A)) (G_law_take : DfOk P w K mg base "_law_take" 2 ["store", "many"] (c_law_take A)) (G_law_bad_ratio : DfOk P w K mg base "_law_bad_ratio" 38 ["store"] (c_law_bad_ratio A)) (G_law_power : DfOk P w K mg base "_law_power" 40 ["x", "many"] (c_law_power A)) (G_law_rare : DfOk P w K mg base "_law_rare" 3 ["store", "many"] (c_law_rare A)) (G_law_many : DfOk P w K mg base "_law_many" 40 ["store"] (c_law_many A)) (G_law_one : DfOk P w K mg base "_law_one" 39 ["store"] (c_law_one A)) (G_law_store : DfOk P w K mg base "_law_store" 2 ["script"] (c_law_store A)) : DfOk P w K mg base "law" 41 ["script"] (c_law A) := by
  obtain ⟨f, fd, F, hm, hb⟩ := D
  refine ⟨f, fd, okD F sc_law (by decide) (len_law A) ?_, hm, F.kp, hb⟩
  intro X W E cdv B outer s H Ex hX tk hp hr
  subst hX
  exact ⟨_, w_law A E, (scons (sset (i := 1) (ecall2 tk G_law_store (hr.mono (by decide)) (acons (ev 0) anil)) sc_law.nd)
  (scons (sset (i := 2) (ecall2 tk G_law_one (hr.mono (by decide)) (acons (ev 1) anil)) sc_law.nd)
  (scons (sset (i := 3) (ecall2 tk G_law_many (hr.mono (by decide)) (acons (ev 1) anil)) sc_law.nd)
  (scons (sset (i := 4) ei sc_law.nd)
  (scons (sif (tval (ecall2 tk G_law_rare (hr.mono (by decide)) (acons (ev 1) (acons ei anil)))) (sone (sset (i := 4) ei sc_law.nd)) snil)
  (scons (sset (i := 5) (ecall2 tk G_law_power (hr.mono (by decide)) (acons (ev 2) (acons (ev 4) anil))) sc_law.nd)
  (scons (sif (tc' (op_eqD hr.units) do_eqD (ev 5) (elstF anil)) (sone (sret eb)) snil)
  (scons (sset (i := 6) (ecall2 tk G_law_bad_ratio (hr.mono (by decide)) (acons (ev 1) anil)) sc_law.nd)
  (scons (sset (i := 7) (ecall2 tk G_law_take (hr.mono (by decide)) (acons (ev 1) (acons (eadd (ecb call_len_seq dc_len T.b_len (acons (ev 3) anil)) ei) anil))) sc_law.nd)
  (scons (sfor hp (ir1 T.b_range (acons ei anil)) (gnm 8 sc_law.nd) (sone (sif (tnot (tval (ecall2 tk G_law_refused (hr.mono (by decide)) (acons (ev 8) (acons (ev 6) anil))))) (sone (sret eb)) snil)))
  (scons (sfor hp (il (elstF (acons ei (acons ei anil)))) (gnm 8 sc_law.nd) (sone (sfor hp (il (elstF (acons (elstF anil) (acons (elstF (acons (ev 6) anil)) (acons (ecat (ecat (eslL (ev 3) onone (osome (ev 7))) (elstF (acons (ev 6) anil))) (eslL (ev 3) (osome (ev 7)) onone)) anil))))) (gnm 9 sc_law.nd) (sone (sif (tnot (tval (ecall2 tk G_law_refused (hr.mono (by decide)) (acons (ev 8) (acons (ev 9) anil))))) (sone (sret eb)) snil)))))
  (scons (sfor hp (il (elstF (acons (ev 2) (acons (eix (ev 3) ei) (acons (eix (ev 5) ei) (acons (ev 2) anil)))))) (gnm 10 sc_law.nd) (sone (sif (tbo (tor (tnot (tval (ecall2 tk G_law_rounded (hr.mono (by decide)) (acons (ev 10) anil)))) (tor1 (tnot (tval (ecall2 tk G_law_same (hr.mono (by decide)) (acons (ecall2 tk G_law_asked (hr.mono (by decide)) (acons ei (acons (ev 10) anil))) (acons (etup (acons es' (acons eb anil))) anil)))))))) (sone (sret eb)) snil)))
  (scons (sif (tbo (tor (tnot (tval (ecall2 tk G_law_ends_right (hr.mono (by decide)) (acons (ev 3) anil)))) (tor1 (tnot (tval (ecall2 tk G_law_ends_right (hr.mono (by decide)) (acons (elstF (acons (ev 2) anil)) anil))))))) (sone (sret eb)) snil)
  (scons (sif (tbo (tand (tc' op_eq do_eq (ev 4) ei) (tand1 (tnot (tval (ecall2 tk G_law_ends_right (hr.mono (by decide)) (acons (elstF (acons (eix (ev 5) ei) (acons (ev 2) (acons (eix (ev 3) ei) anil)))) anil))))))) (sone (sret eb)) snil)
  (sone (sret (ecall2 tk G_law_judges (hr.mono (by decide)) (acons (ecall2 tk G_law_judged (hr.mono (by decide)) (acons (ev 1) (acons (ev 2) anil))) (acons (ev 2) anil))))))))))))))))))), fun ds μ Q E0 hc hE => by subst hE; exact pure_law A ds μ Q E0 hc⟩
theorem okx_law {P : Program} {w : World} {K : PySem.W.Frag} {mg : Str → Option Value} {base : Heap} {A : Ad} {f : Addr} {fd : FuncData} (F : Fun K "law" "law" s_law f fd) (T : Tx P base K mg A) (G_law_judges : DfOk P w K mg base "_law_judges" 40 ["rows", "x"] (c_law_judges A)) (G_law_judged : DfOk P w K mg base "_law_judged" 39 ["store", "x"] (c_law_judged A)) (G_law_ends_right : DfOk P w K mg base "_law_ends_right" 40 ["rows"] (c_law_ends_right A)) (G_law_same : DfOk P w K mg base "_law_same" 2 ["told", "wanted"] (c_law_same A)) (G_law_asked : DfOk P w K mg base "_law_asked" 39 ["op", "thing"] (c_law_asked A)) (G_law_rounded : DfOk P w K mg base "_law_rounded" 40 ["x"] (c_law_rounded A)) (G_law_refused : DfOk P w K mg base "_law_refused" 40 ["op", "thing"] (c_law_refused A)) (G_law_take : DfOk P w K mg base "_law_take" 2 ["store", "many"] (c_law_take A)) (G_law_bad_ratio : DfOk P w K mg base "_law_bad_ratio" 38 ["store"] (c_law_bad_ratio A)) (G_law_power : DfOk P w K mg base "_law_power" 40 ["x", "many"] (c_law_power A)) (G_law_rare : DfOk P w K mg base "_law_rare" 3 ["store", "many"] (c_law_rare A)) (G_law_many : DfOk P w K mg base "_law_many" 40 ["store"] (c_law_many A)) (G_law_one : DfOk P w K mg base "_law_one" 39 ["store"] (c_law_one A)) (G_law_store : DfOk P w K mg base "_law_store" 2 ["script"] (c_law_store A)) : FnOk P w K mg base (L2N.CX P w) 41 f fd ["script"] (spD K (c_law A)) := by
  refine okD F sc_law (by decide) (len_law A) ?_
  intro X W E cdv B outer s H Ex hX tk hp hr
  subst hX
  exact ⟨_, w_law A E, (scons (sset (i := 1) (ecall2 tk G_law_store (hr.mono (by decide)) (acons (ev 0) anil)) sc_law.nd)
  (scons (sset (i := 2) (ecall2 tk G_law_one (hr.mono (by decide)) (acons (ev 1) anil)) sc_law.nd)
  (scons (sset (i := 3) (ecall2 tk G_law_many (hr.mono (by decide)) (acons (ev 1) anil)) sc_law.nd)
  (scons (sset (i := 4) ei sc_law.nd)
  (scons (sif (tval (ecall2 tk G_law_rare (hr.mono (by decide)) (acons (ev 1) (acons ei anil)))) (sone (sset (i := 4) ei sc_law.nd)) snil)
  (scons (sset (i := 5) (ecall2 tk G_law_power (hr.mono (by decide)) (acons (ev 2) (acons (ev 4) anil))) sc_law.nd)
  (scons (sif (tc' (op_eqD hr.units) do_eqD (ev 5) (elstF anil)) (sone (sret eb)) snil)
  (scons (sset (i := 6) (ecall2 tk G_law_bad_ratio (hr.mono (by decide)) (acons (ev 1) anil)) sc_law.nd)
  (scons (sset (i := 7) (ecall2 tk G_law_take (hr.mono (by decide)) (acons (ev 1) (acons (eadd (ecb call_len_seq dc_len T.b_len (acons (ev 3) anil)) ei) anil))) sc_law.nd)
  (scons (sfor hp (ir1 T.b_range (acons ei anil)) (gnm 8 sc_law.nd) (sone (sif (tnot (tval (ecall2 tk G_law_refused (hr.mono (by decide)) (acons (ev 8) (acons (ev 6) anil))))) (sone (sret eb)) snil)))
  (scons (sfor hp (il (elstF (acons ei (acons ei anil)))) (gnm 8 sc_law.nd) (sone (sfor hp (il (elstF (acons (elstF anil) (acons (elstF (acons (ev 6) anil)) (acons (ecat (ecat (eslL (ev 3) onone (osome (ev 7))) (elstF (acons (ev 6) anil))) (eslL (ev 3) (osome (ev 7)) onone)) anil))))) (gnm 9 sc_law.nd) (sone (sif (tnot (tval (ecall2 tk G_law_refused (hr.mono (by decide)) (acons (ev 8) (acons (ev 9) anil))))) (sone (sret eb)) snil)))))
  (scons (sfor hp (il (elstF (acons (ev 2) (acons (eix (ev 3) ei) (acons (eix (ev 5) ei) (acons (ev 2) anil)))))) (gnm 10 sc_law.nd) (sone (sif (tbo (tor (tnot (tval (ecall2 tk G_law_rounded (hr.mono (by decide)) (acons (ev 10) anil)))) (tor1 (tnot (tval (ecall2 tk G_law_same (hr.mono (by decide)) (acons (ecall2 tk G_law_asked (hr.mono (by decide)) (acons ei (acons (ev 10) anil))) (acons (etup (acons es' (acons eb anil))) anil)))))))) (sone (sret eb)) snil)))
  (scons (sif (tbo (tor (tnot (tval (ecall2 tk G_law_ends_right (hr.mono (by decide)) (acons (ev 3) anil)))) (tor1 (tnot (tval (ecall2 tk G_law_ends_right (hr.mono (by decide)) (acons (elstF (acons (ev 2) anil)) anil))))))) (sone (sret eb)) snil)
  (scons (sif (tbo (tand (tc' op_eq do_eq (ev 4) ei) (tand1 (tnot (tval (ecall2 tk G_law_ends_right (hr.mono (by decide)) (acons (elstF (acons (eix (ev 5) ei) (acons (ev 2) (acons (eix (ev 3) ei) anil)))) anil))))))) (sone (sret eb)) snil)
  (sone (sret (ecall2 tk G_law_judges (hr.mono (by decide)) (acons (ecall2 tk G_law_judged (hr.mono (by decide)) (acons (ev 1) (acons (ev 2) anil))) (acons (ev 2) anil))))))))))))))))))), fun ds μ Q E0 hc hE => by subst hE; exact pure_law A ds μ Q E0 hc⟩
end K01
set_option maxHeartbeats 0
namespace K01
open PySem L2 DL PySem.Spec PyProof.Rows
abbrev R : PySem.W.OpenRow := PySem.W.OpenLaw.row PySem.Challenge.rw_twothick_k01_ratio_readings
def hfn : List He.DefD := ([df "common_part" s_common_part, df "has_form" s_has_form, df "must_be_ratio" s_must_be_ratio, df "lowest" s_lowest, df "times" s_times, df "floor_of" s_floor_of, df "ceil_of" s_ceil_of, df "must_be_ratios" s_must_be_ratios, df "least_of" s_least_of, df "greatest_of" s_greatest_of, df "text_of" s_text_of, df "is_ratio" s_is_ratio, df "_law_mix" s_law_mix, df "_law_store" s_law_store, df "_law_take" s_law_take, df "_law_pick" s_law_pick, df "_law_rare" s_law_rare, df "_law_whole" s_law_whole, df "_law_gcd" s_law_gcd, df "_law_low" s_law_low] : List He.DefD) ++ ([df "_law_below" s_law_below, df "_law_ratio" s_law_ratio, df "_law_bad_ratio" s_law_bad_ratio, df "_law_long_number" s_law_long_number, df "_law_odd" s_law_odd, df "_law_number" s_law_number, df "_law_same" s_law_same, df "_law_ratio_ok" s_law_ratio_ok, df "_law_names" s_law_names, df "_law_asked" s_law_asked, df "_law_refused" s_law_refused, df "_law_one" s_law_one, df "_law_many" s_law_many, df "_law_rounded" s_law_rounded, df "_law_ends" s_law_ends, df "_law_ends_right" s_law_ends_right, df "_law_power" s_law_power, df "_law_judged" s_law_judged, df "_law_judges" s_law_judges, df "law" s_law] : List He.DefD)
def hfa : List He.Fa := ([.glo "common_part", .glo "has_form", .glo "must_be_ratio", .glo "lowest", .glo "times", .glo "floor_of", .glo "ceil_of", .glo "must_be_ratios", .glo "least_of", .glo "greatest_of", .glo "text_of", .glo "is_ratio", .glo "_law_mix", .glo "_law_store", .glo "_law_take", .glo "_law_pick", .glo "_law_rare", .glo "_law_whole", .glo "_law_gcd", .glo "_law_low", .glo "_law_below", .glo "_law_ratio", .glo "_law_bad_ratio", .glo "_law_long_number", .glo "_law_odd", .glo "_law_number", .glo "_law_same", .glo "_law_ratio_ok", .glo "_law_names", .glo "_law_asked"] : List He.Fa) ++ ([.glo "_law_refused", .glo "_law_one", .glo "_law_many", .glo "_law_rounded", .glo "_law_ends", .glo "_law_ends_right", .glo "_law_power", .glo "_law_judged", .glo "_law_judges", .glo "law", .glo "YardError", .glo "BadText", .glo "BadNumber", .glo "BadVector", .glo "BadSize", .glo "BadCatalogue", .glo "BadAxis", .glo "BadLook", .glo "NoTag", .glo "DoubleTag", .glo "BadBox", .glo "BadRow", .glo "BadStops", .glo "BadCut", .glo "NoDeed", .glo "NotPlane", .glo "NotLevel", .glo "TooFewThick", .glo "TooMany", .glo "Overlap"] : List He.Fa) ++ ([.glo "Hit", .glo "Unturnable", .glo "TooManyLoose", .glo "Blocked", .glo "NoRow", .glo "Locked", .glo "NoTree", .glo "Jammed", .free "len", .free "abs", .free "int", .free "list", .free "range", .free "isinstance", .free "bool", .free "str", .free "tuple", .free "dict", .free "ValueError"] : List He.Fa)
def hex (K : PySem.W.Frag) : Bool := PySem.W.keepIn K (.ref (He.ga K "BadNumber")) && (PySem.W.excIn K (He.ga K "BadNumber") He.veBase "ValueError.__new__" && (decide (PySem.W.subIn K (.ref (He.ga K "BadNumber")) (.type "BaseException") = some true) && (decide (PySem.W.typeIn K (.ref (He.ga K "BadNumber")) = some (.type "type")) && (decide (PySem.W.findIn K (.ref (He.ga K "BadNumber")) "__getattribute__" = some (some (.builtin "BaseException.__getattribute__"))) && (decide (PySem.W.findIn K (.ref (He.ga K "BadNumber")) "__getattr__" = some none) && (PySem.W.hasDictIn K (He.ga K "BadNumber") && (decide (PySem.W.findIn K (.ref (He.ga K "BadNumber")) "__class__" = some (some (.builtin "object.__class__"))) && (decide (PySem.W.specialIn K (.builtin "object.__class__") "__get__" = some (some (.builtin "getset_descriptor.__get__"))) && (decide (PySem.W.takesIn K (.builtin "object.__class__") = some true) && (decide (PySem.W.mroIn K (He.ga K "BadNumber") (.type "object") = some true) && (decide (PySem.W.kitOne K (.ref (He.ga K "BadNumber")) (.type "ValueError") = some true) && (decide (PySem.W.exmOne K (.ref (He.ga K "BadNumber")) (.ref (He.ga K "YardError")) = some true) && (decide (PySem.W.kitOne K (.ref (He.ga K "BadNumber")) (.ref (He.ga K "BadText")) = some false) && (decide (PySem.W.kitOne K (.ref (He.ga K "BadNumber")) (.ref (He.ga K "BadNumber")) = some true) && (decide (PySem.W.kitOne K (.ref (He.ga K "BadNumber")) (.ref (He.ga K "BadVector")) = some false) && (decide (PySem.W.kitOne K (.ref (He.ga K "BadNumber")) (.ref (He.ga K "BadSize")) = some false) && (decide (PySem.W.kitOne K (.ref (He.ga K "BadNumber")) (.ref (He.ga K "BadCatalogue")) = some false) && (decide (PySem.W.kitOne K (.ref (He.ga K "BadNumber")) (.ref (He.ga K "BadAxis")) = some false) && (decide (PySem.W.kitOne K (.ref (He.ga K "BadNumber")) (.ref (He.ga K "BadLook")) = some false) && (decide (PySem.W.kitOne K (.ref (He.ga K "BadNumber")) (.ref (He.ga K "NoTag")) = some false) && (decide (PySem.W.kitOne K (.ref (He.ga K "BadNumber")) (.ref (He.ga K "DoubleTag")) = some false) && (decide (PySem.W.kitOne K (.ref (He.ga K "BadNumber")) (.ref (He.ga K "BadBox")) = some false) && (decide (PySem.W.kitOne K (.ref (He.ga K "BadNumber")) (.ref (He.ga K "BadRow")) = some false) && (decide (PySem.W.kitOne K (.ref (He.ga K "BadNumber")) (.ref (He.ga K "BadStops")) = some false) && (decide (PySem.W.kitOne K (.ref (He.ga K "BadNumber")) (.ref (He.ga K "BadCut")) = some false) && (decide (PySem.W.kitOne K (.ref (He.ga K "BadNumber")) (.ref (He.ga K "NoDeed")) = some false) && (decide (PySem.W.kitOne K (.ref (He.ga K "BadNumber")) (.ref (He.ga K "NotPlane")) = some false) && (decide (PySem.W.kitOne K (.ref (He.ga K "BadNumber")) (.ref (He.ga K "NotLevel")) = some false) && (decide (PySem.W.kitOne K (.ref (He.ga K "BadNumber")) (.ref (He.ga K "TooFewThick")) = some false) && (decide (PySem.W.kitOne K (.ref (He.ga K "BadNumber")) (.ref (He.ga K "TooMany")) = some false) && (decide (PySem.W.kitOne K (.ref (He.ga K "BadNumber")) (.ref (He.ga K "Overlap")) = some false) && (decide (PySem.W.kitOne K (.ref (He.ga K "BadNumber")) (.ref (He.ga K "Hit")) = some false) && (decide (PySem.W.kitOne K (.ref (He.ga K "BadNumber")) (.ref (He.ga K "Unturnable")) = some false) && (decide (PySem.W.kitOne K (.ref (He.ga K "BadNumber")) (.ref (He.ga K "TooManyLoose")) = some false) && (decide (PySem.W.kitOne K (.ref (He.ga K "BadNumber")) (.ref (He.ga K "Blocked")) = some false) && (decide (PySem.W.kitOne K (.ref (He.ga K "BadNumber")) (.ref (He.ga K "NoRow")) = some false) && (decide (PySem.W.kitOne K (.ref (He.ga K "BadNumber")) (.ref (He.ga K "Locked")) = some false) && (decide (PySem.W.kitOne K (.ref (He.ga K "BadNumber")) (.ref (He.ga K "NoTree")) = some false) && (decide (PySem.W.kitOne K (.ref (He.ga K "BadNumber")) (.ref (He.ga K "Jammed")) = some false) && (decide (PySem.W.nsIn K cStatics "sys.int_max_str_digits" = some none)))))))))))))))))))))))))))))))))))))))))
def hnames : List Str := (["YardError", "BadText", "BadNumber", "BadVector", "BadSize", "BadCatalogue", "BadAxis", "BadLook", "NoTag", "DoubleTag", "BadBox", "BadRow", "BadStops", "BadCut", "NoDeed", "NotPlane", "NotLevel", "TooFewThick", "TooMany", "Overlap", "Hit", "Unturnable", "TooManyLoose", "Blocked", "NoRow", "Locked", "NoTree", "Jammed", "common_part", "has_form"] : List Str) ++ (["must_be_ratio", "lowest", "times", "floor_of", "ceil_of", "must_be_ratios", "least_of", "greatest_of", "text_of", "is_ratio", "_law_mix", "_law_store", "_law_take", "_law_pick", "_law_rare", "_law_whole", "_law_gcd", "_law_low", "_law_below", "_law_ratio", "_law_bad_ratio", "_law_long_number", "_law_odd", "_law_number", "_law_same", "_law_ratio_ok", "_law_names", "_law_asked", "_law_refused", "_law_one"] : List Str) ++ (["_law_many", "_law_rounded", "_law_ends", "_law_ends_right", "_law_power", "_law_judged", "_law_judges"] : List Str)
abbrev hk : PySem.W.Hook := DL.hookY 4 hfa hfn hex
def hob (s : PySem.W.SharedT) : DL.AlY := DL.obsY 4 hfa hfn hex (HandSHeadRun.getT s)
theorem hob_eq (s : PySem.W.SharedT) : hob s = hk.obs s.abs := DL.obsY_eq (HandSHeadRun.getT_eq s)
theorem hrun (w : World) : HandSHeadRun.RunEq R (PySem.W.view R.prog [70]) hk hob 20000 hnames w := by
  intro os
  kernel_rfl
end K01
set_option maxHeartbeats 8000000
namespace K01
open PySem L2 DL PySem.Spec PyProof.Rows
theorem joined {P : Program} {w : World} {K : PySem.W.Frag} {mg : Str → Option Value} {base : Heap} {A : Ad} {f : Addr} {fd : FuncData} (T : Tx P base K mg A) (Nn : Nx K mg A) (F : Fun K "law" "law" s_law f fd)
    (d_common_part : Dfn K mg "common_part" "common_part" s_common_part ["top", "bottom"])
    (d_has_form : Dfn K mg "has_form" "has_form" s_has_form ["pair"])
    (d_must_be_ratio : Dfn K mg "must_be_ratio" "must_be_ratio" s_must_be_ratio ["pair"])
    (d_lowest : Dfn K mg "lowest" "lowest" s_lowest ["top", "bottom"])
    (d_times : Dfn K mg "times" "times" s_times ["a", "b"])
    (d_law_mix : Dfn K mg "_law_mix" "_law_mix" s_law_mix ["number"])
    (d_law_store : Dfn K mg "_law_store" "_law_store" s_law_store ["script"])
    (d_law_take : Dfn K mg "_law_take" "_law_take" s_law_take ["store", "many"])
    (d_law_pick : Dfn K mg "_law_pick" "_law_pick" s_law_pick ["store", "things"])
    (d_law_rare : Dfn K mg "_law_rare" "_law_rare" s_law_rare ["store", "many"])
    (d_law_whole : Dfn K mg "_law_whole" "_law_whole" s_law_whole ["store"])
    (d_law_gcd : Dfn K mg "_law_gcd" "_law_gcd" s_law_gcd ["one", "two"])
    (d_law_number : Dfn K mg "_law_number" "_law_number" s_law_number ["told"])
    (d_law_same : Dfn K mg "_law_same" "_law_same" s_law_same ["told", "wanted"])
    (d_law_names : Dfn K mg "_law_names" "_law_names" s_law_names ["e"])
    (d_floor_of : Dfn K mg "floor_of" "floor_of" s_floor_of ["a"])
    (d_ceil_of : Dfn K mg "ceil_of" "ceil_of" s_ceil_of ["a"])
    (d_text_of : Dfn K mg "text_of" "text_of" s_text_of ["a"])
    (d_must_be_ratios : Dfn K mg "must_be_ratios" "must_be_ratios" s_must_be_ratios ["many"])
    (d_least_of : Dfn K mg "least_of" "least_of" s_least_of ["many"])
    (d_greatest_of : Dfn K mg "greatest_of" "greatest_of" s_greatest_of ["many"])
    (d_is_ratio : Dfn K mg "is_ratio" "is_ratio" s_is_ratio ["value"])
    (d_law_low : Dfn K mg "_law_low" "_law_low" s_law_low ["top", "bottom"])
    (d_law_below : Dfn K mg "_law_below" "_law_below" s_law_below ["a", "b"])
    (d_law_ratio : Dfn K mg "_law_ratio" "_law_ratio" s_law_ratio ["store"])
    (d_law_bad_ratio : Dfn K mg "_law_bad_ratio" "_law_bad_ratio" s_law_bad_ratio ["store"])
    (d_law_asked : Dfn K mg "_law_asked" "_law_asked" s_law_asked ["op", "thing"])
    (d_law_refused : Dfn K mg "_law_refused" "_law_refused" s_law_refused ["op", "thing"])
    (d_law_one : Dfn K mg "_law_one" "_law_one" s_law_one ["store"])
    (d_law_power : Dfn K mg "_law_power" "_law_power" s_law_power ["x", "many"])
    (d_law_long_number : Dfn K mg "_law_long_number" "_law_long_number" s_law_long_number ["store", "digits"])
    (d_law_ends : Dfn K mg "_law_ends" "_law_ends" s_law_ends ["rows"])
    (d_law_rounded : Dfn K mg "_law_rounded" "_law_rounded" s_law_rounded ["x"])
    (d_law_odd : Dfn K mg "_law_odd" "_law_odd" s_law_odd ["store"])
    (d_law_many : Dfn K mg "_law_many" "_law_many" s_law_many ["store"])
    (d_law_ends_right : Dfn K mg "_law_ends_right" "_law_ends_right" s_law_ends_right ["rows"])
    (d_law_ratio_ok : Dfn K mg "_law_ratio_ok" "_law_ratio_ok" s_law_ratio_ok ["told"])
    (d_law_judged : Dfn K mg "_law_judged" "_law_judged" s_law_judged ["store", "x"])
    (d_law_judges : Dfn K mg "_law_judges" "_law_judges" s_law_judges ["rows", "x"]) : FnOk P w K mg base (L2N.CX P w) 41 f fd ["script"] (spD K (c_law A)) := by
  have g_common_part := ok_common_part (P := P) (w := w) (K := K) (mg := mg) (base := base) (A := A) (D := d_common_part) (T := T)
  have g_has_form := ok_has_form (P := P) (w := w) (K := K) (mg := mg) (base := base) (A := A) (D := d_has_form) (T := T) (G_common_part := g_common_part)
  have g_must_be_ratio := ok_must_be_ratio (P := P) (w := w) (K := K) (mg := mg) (base := base) (A := A) (D := d_must_be_ratio) (T := T) (G_has_form := g_has_form)
  have g_lowest := ok_lowest (P := P) (w := w) (K := K) (mg := mg) (base := base) (A := A) (D := d_lowest) (T := T) (G_common_part := g_common_part)
  have g_times := ok_times (P := P) (w := w) (K := K) (mg := mg) (base := base) (A := A) (D := d_times) (T := T) (G_lowest := g_lowest) (G_must_be_ratio := g_must_be_ratio)
  have g_law_mix := ok_law_mix (P := P) (w := w) (K := K) (mg := mg) (base := base) (A := A) (D := d_law_mix) (T := T)
  have g_law_store := ok_law_store (P := P) (w := w) (K := K) (mg := mg) (base := base) (A := A) (D := d_law_store) (T := T) (G_law_mix := g_law_mix)
  have g_law_take := ok_law_take (P := P) (w := w) (K := K) (mg := mg) (base := base) (A := A) (D := d_law_take) (T := T) (G_law_mix := g_law_mix)
  have g_law_pick := ok_law_pick (P := P) (w := w) (K := K) (mg := mg) (base := base) (A := A) (D := d_law_pick) (T := T) (G_law_take := g_law_take)
  have g_law_rare := ok_law_rare (P := P) (w := w) (K := K) (mg := mg) (base := base) (A := A) (D := d_law_rare) (T := T) (G_law_take := g_law_take)
  have g_law_whole := ok_law_whole (P := P) (w := w) (K := K) (mg := mg) (base := base) (A := A) (D := d_law_whole) (T := T) (G_law_take := g_law_take) (G_law_pick := g_law_pick)
  have g_law_gcd := ok_law_gcd (P := P) (w := w) (K := K) (mg := mg) (base := base) (A := A) (D := d_law_gcd) (T := T)
  have g_law_number := ok_law_number (P := P) (w := w) (K := K) (mg := mg) (base := base) (A := A) (D := d_law_number) (T := T)
  have g_law_same := ok_law_same (P := P) (w := w) (K := K) (mg := mg) (base := base) (A := A) (D := d_law_same) (T := T) (G_law_number := g_law_number)
  have g_law_names := okh_law_names (P := P) (w := w) (K := K) (mg := mg) (base := base) (A := A) (D := d_law_names) (T := T) (Nn := Nn)
  have g_floor_of := ok_floor_of (P := P) (w := w) (K := K) (mg := mg) (base := base) (A := A) (D := d_floor_of) (T := T) (G_must_be_ratio := g_must_be_ratio)
  have g_ceil_of := ok_ceil_of (P := P) (w := w) (K := K) (mg := mg) (base := base) (A := A) (D := d_ceil_of) (T := T) (G_must_be_ratio := g_must_be_ratio)
  have g_text_of := ok_text_of (P := P) (w := w) (K := K) (mg := mg) (base := base) (A := A) (D := d_text_of) (T := T) (G_must_be_ratio := g_must_be_ratio)
  have g_must_be_ratios := ok_must_be_ratios (P := P) (w := w) (K := K) (mg := mg) (base := base) (A := A) (D := d_must_be_ratios) (T := T) (G_must_be_ratio := g_must_be_ratio)
  have g_least_of := ok_least_of (P := P) (w := w) (K := K) (mg := mg) (base := base) (A := A) (D := d_least_of) (T := T) (G_must_be_ratios := g_must_be_ratios)
  have g_greatest_of := ok_greatest_of (P := P) (w := w) (K := K) (mg := mg) (base := base) (A := A) (D := d_greatest_of) (T := T) (G_must_be_ratios := g_must_be_ratios)
  have g_is_ratio := ok_is_ratio (P := P) (w := w) (K := K) (mg := mg) (base := base) (A := A) (D := d_is_ratio) (T := T) (G_has_form := g_has_form)
  have g_law_low := ok_law_low (P := P) (w := w) (K := K) (mg := mg) (base := base) (A := A) (D := d_law_low) (T := T) (G_law_gcd := g_law_gcd)
  have g_law_below := ok_law_below (P := P) (w := w) (K := K) (mg := mg) (base := base) (A := A) (D := d_law_below) (T := T)
  have g_law_ratio := ok_law_ratio (P := P) (w := w) (K := K) (mg := mg) (base := base) (A := A) (D := d_law_ratio) (T := T) (G_law_low := g_law_low) (G_law_take := g_law_take) (G_law_whole := g_law_whole) (G_law_pick := g_law_pick)
  have g_law_bad_ratio := ok_law_bad_ratio (P := P) (w := w) (K := K) (mg := mg) (base := base) (A := A) (D := d_law_bad_ratio) (T := T) (G_law_take := g_law_take) (G_law_low := g_law_low)
  have g_law_asked := ok_law_asked (P := P) (w := w) (K := K) (mg := mg) (base := base) (A := A) (D := d_law_asked) (T := T) (G_times := g_times) (G_is_ratio := g_is_ratio) (G_greatest_of := g_greatest_of) (G_least_of := g_least_of) (G_text_of := g_text_of) (G_ceil_of := g_ceil_of) (G_floor_of := g_floor_of) (Nn := Nn) (H_law_names := g_law_names)
  have g_law_refused := ok_law_refused (P := P) (w := w) (K := K) (mg := mg) (base := base) (A := A) (D := d_law_refused) (T := T) (G_law_same := g_law_same) (G_law_asked := g_law_asked)
  have g_law_one := ok_law_one (P := P) (w := w) (K := K) (mg := mg) (base := base) (A := A) (D := d_law_one) (T := T) (G_law_ratio := g_law_ratio) (G_law_low := g_law_low) (G_law_take := g_law_take) (G_law_whole := g_law_whole)
  have g_law_power := ok_law_power (P := P) (w := w) (K := K) (mg := mg) (base := base) (A := A) (D := d_law_power) (T := T) (G_law_same := g_law_same) (G_law_asked := g_law_asked)
  have g_law_long_number := ok_law_long_number (P := P) (w := w) (K := K) (mg := mg) (base := base) (A := A) (D := d_law_long_number) (T := T) (G_law_take := g_law_take)
  have g_law_ends := ok_law_ends (P := P) (w := w) (K := K) (mg := mg) (base := base) (A := A) (D := d_law_ends) (T := T) (G_law_below := g_law_below)
  have g_law_rounded := ok_law_rounded (P := P) (w := w) (K := K) (mg := mg) (base := base) (A := A) (D := d_law_rounded) (T := T) (G_law_same := g_law_same) (G_law_asked := g_law_asked) (G_law_number := g_law_number)
  have g_law_odd := ok_law_odd (P := P) (w := w) (K := K) (mg := mg) (base := base) (A := A) (D := d_law_odd) (T := T) (G_law_pick := g_law_pick)
  have g_law_many := ok_law_many (P := P) (w := w) (K := K) (mg := mg) (base := base) (A := A) (D := d_law_many) (T := T) (G_law_low := g_law_low) (G_law_take := g_law_take) (G_law_one := g_law_one) (G_law_pick := g_law_pick) (G_law_rare := g_law_rare)
  have g_law_ends_right := ok_law_ends_right (P := P) (w := w) (K := K) (mg := mg) (base := base) (A := A) (D := d_law_ends_right) (T := T) (G_law_same := g_law_same) (G_law_asked := g_law_asked) (G_law_ends := g_law_ends)
  have g_law_ratio_ok := ok_law_ratio_ok (P := P) (w := w) (K := K) (mg := mg) (base := base) (A := A) (D := d_law_ratio_ok) (T := T) (G_law_gcd := g_law_gcd) (G_law_number := g_law_number)
  have g_law_judged := ok_law_judged (P := P) (w := w) (K := K) (mg := mg) (base := base) (A := A) (D := d_law_judged) (T := T) (G_law_odd := g_law_odd) (G_law_bad_ratio := g_law_bad_ratio) (G_law_take := g_law_take) (G_law_long_number := g_law_long_number)
  have g_law_judges := ok_law_judges (P := P) (w := w) (K := K) (mg := mg) (base := base) (A := A) (D := d_law_judges) (T := T) (G_law_same := g_law_same) (G_law_asked := g_law_asked) (G_law_ratio_ok := g_law_ratio_ok)
  exact okx_law (A := A) F (T := T) (G_law_judges := g_law_judges) (G_law_judged := g_law_judged) (G_law_ends_right := g_law_ends_right) (G_law_same := g_law_same) (G_law_asked := g_law_asked) (G_law_rounded := g_law_rounded) (G_law_refused := g_law_refused) (G_law_take := g_law_take) (G_law_bad_ratio := g_law_bad_ratio) (G_law_power := g_law_power) (G_law_rare := g_law_rare) (G_law_many := g_law_many) (G_law_one := g_law_one) (G_law_store := g_law_store)
theorem ends {P : Program} {w : World} {K : PySem.W.Frag} {h : Heap} {mg : Str → Option Value} {fa : Addr} (X : K.In h) (G : h.Ns mainGlobals mg) (tree : P.given.tree = none) (hl : mg "law" = some (.ref fa)) (c : He.SaysD hfa hfn K) (ex : hex K = true) :
    ∃ fd : FuncData, (∀ (s : Shared) (u : Value), BindsTo s fd ⟨[u], []⟩ [("script", u)]) ∧ ∀ base : Heap, K.In base → base.Ns mainGlobals mg → base.NoSeer → FnOk P w K mg base (L2N.CX P w) 41 fa fd ["script"] (spD K (c_law ⟨0⟩)) := by
  unfold hex at ex
  simp only [Bool.and_eq_true, decide_eq_true_eq] at ex
  obtain ⟨kC, qC, bC, tC, e1, e2, e4, e5, e6, e7, e8, v2, y2, k_BadText, k_BadNumber, k_BadVector, k_BadSize, k_BadCatalogue, k_BadAxis, k_BadLook, k_NoTag, k_DoubleTag, k_BadBox, k_BadRow, k_BadStops, k_BadCut, k_NoDeed, k_NotPlane, k_NotLevel, k_TooFewThick, k_TooMany, k_Overlap, k_Hit, k_Unturnable, k_TooManyLoose, k_Blocked, k_NoRow, k_Locked, k_NoTree, k_Jammed, dg⟩ := ex
  have x_C : Xc K mg "BadNumber" (He.ga K "BadNumber") := ⟨He.glo_ok X G (c.fact 42 (f := .glo "BadNumber") rfl), kC, qC, bC, tC⟩
  have Nn : Nx K mg ⟨He.ga K "BadNumber"⟩ := { ex := ⟨e1, e2, bC, e4, e5, e6, e7, e8⟩, yard := ⟨_, He.glo_ok X G (c.fact 40 (f := .glo "YardError") rfl), y2⟩, b_ValueError := He.free_ok X G (c.fact 78 (f := .free "ValueError") rfl), n_ValueError := v2, n_BadText := ⟨_, He.glo_ok X G (c.fact 41 (f := .glo "BadText") rfl), k_BadText⟩, n_BadNumber := ⟨_, He.glo_ok X G (c.fact 42 (f := .glo "BadNumber") rfl), k_BadNumber⟩, n_BadVector := ⟨_, He.glo_ok X G (c.fact 43 (f := .glo "BadVector") rfl), k_BadVector⟩, n_BadSize := ⟨_, He.glo_ok X G (c.fact 44 (f := .glo "BadSize") rfl), k_BadSize⟩, n_BadCatalogue := ⟨_, He.glo_ok X G (c.fact 45 (f := .glo "BadCatalogue") rfl), k_BadCatalogue⟩, n_BadAxis := ⟨_, He.glo_ok X G (c.fact 46 (f := .glo "BadAxis") rfl), k_BadAxis⟩, n_BadLook := ⟨_, He.glo_ok X G (c.fact 47 (f := .glo "BadLook") rfl), k_BadLook⟩, n_NoTag := ⟨_, He.glo_ok X G (c.fact 48 (f := .glo "NoTag") rfl), k_NoTag⟩, n_DoubleTag := ⟨_, He.glo_ok X G (c.fact 49 (f := .glo "DoubleTag") rfl), k_DoubleTag⟩, n_BadBox := ⟨_, He.glo_ok X G (c.fact 50 (f := .glo "BadBox") rfl), k_BadBox⟩, n_BadRow := ⟨_, He.glo_ok X G (c.fact 51 (f := .glo "BadRow") rfl), k_BadRow⟩, n_BadStops := ⟨_, He.glo_ok X G (c.fact 52 (f := .glo "BadStops") rfl), k_BadStops⟩, n_BadCut := ⟨_, He.glo_ok X G (c.fact 53 (f := .glo "BadCut") rfl), k_BadCut⟩, n_NoDeed := ⟨_, He.glo_ok X G (c.fact 54 (f := .glo "NoDeed") rfl), k_NoDeed⟩, n_NotPlane := ⟨_, He.glo_ok X G (c.fact 55 (f := .glo "NotPlane") rfl), k_NotPlane⟩, n_NotLevel := ⟨_, He.glo_ok X G (c.fact 56 (f := .glo "NotLevel") rfl), k_NotLevel⟩, n_TooFewThick := ⟨_, He.glo_ok X G (c.fact 57 (f := .glo "TooFewThick") rfl), k_TooFewThick⟩, n_TooMany := ⟨_, He.glo_ok X G (c.fact 58 (f := .glo "TooMany") rfl), k_TooMany⟩, n_Overlap := ⟨_, He.glo_ok X G (c.fact 59 (f := .glo "Overlap") rfl), k_Overlap⟩, n_Hit := ⟨_, He.glo_ok X G (c.fact 60 (f := .glo "Hit") rfl), k_Hit⟩, n_Unturnable := ⟨_, He.glo_ok X G (c.fact 61 (f := .glo "Unturnable") rfl), k_Unturnable⟩, n_TooManyLoose := ⟨_, He.glo_ok X G (c.fact 62 (f := .glo "TooManyLoose") rfl), k_TooManyLoose⟩, n_Blocked := ⟨_, He.glo_ok X G (c.fact 63 (f := .glo "Blocked") rfl), k_Blocked⟩, n_NoRow := ⟨_, He.glo_ok X G (c.fact 64 (f := .glo "NoRow") rfl), k_NoRow⟩, n_Locked := ⟨_, He.glo_ok X G (c.fact 65 (f := .glo "Locked") rfl), k_Locked⟩, n_NoTree := ⟨_, He.glo_ok X G (c.fact 66 (f := .glo "NoTree") rfl), k_NoTree⟩, n_Jammed := ⟨_, He.glo_ok X G (c.fact 67 (f := .glo "Jammed") rfl), k_Jammed⟩ }
  have d_common_part : Dfn K mg "common_part" "common_part" s_common_part ["top", "bottom"] := dfn_of X G c 0 0 rfl rfl fun _ _ _ _ _ _ us hl => match us, hl with | [_, _], _ => rfl
  have d_has_form : Dfn K mg "has_form" "has_form" s_has_form ["pair"] := dfn_of X G c 1 1 rfl rfl fun _ _ _ _ _ _ us hl => match us, hl with | [_], _ => rfl
  have d_must_be_ratio : Dfn K mg "must_be_ratio" "must_be_ratio" s_must_be_ratio ["pair"] := dfn_of X G c 2 2 rfl rfl fun _ _ _ _ _ _ us hl => match us, hl with | [_], _ => rfl
  have d_lowest : Dfn K mg "lowest" "lowest" s_lowest ["top", "bottom"] := dfn_of X G c 3 3 rfl rfl fun _ _ _ _ _ _ us hl => match us, hl with | [_, _], _ => rfl
  have d_times : Dfn K mg "times" "times" s_times ["a", "b"] := dfn_of X G c 4 4 rfl rfl fun _ _ _ _ _ _ us hl => match us, hl with | [_, _], _ => rfl
  have d_law_mix : Dfn K mg "_law_mix" "_law_mix" s_law_mix ["number"] := dfn_of X G c 12 12 rfl rfl fun _ _ _ _ _ _ us hl => match us, hl with | [_], _ => rfl
  have d_law_store : Dfn K mg "_law_store" "_law_store" s_law_store ["script"] := dfn_of X G c 13 13 rfl rfl fun _ _ _ _ _ _ us hl => match us, hl with | [_], _ => rfl
  have d_law_take : Dfn K mg "_law_take" "_law_take" s_law_take ["store", "many"] := dfn_of X G c 14 14 rfl rfl fun _ _ _ _ _ _ us hl => match us, hl with | [_, _], _ => rfl
  have d_law_pick : Dfn K mg "_law_pick" "_law_pick" s_law_pick ["store", "things"] := dfn_of X G c 15 15 rfl rfl fun _ _ _ _ _ _ us hl => match us, hl with | [_, _], _ => rfl
  have d_law_rare : Dfn K mg "_law_rare" "_law_rare" s_law_rare ["store", "many"] := dfn_of X G c 16 16 rfl rfl fun _ _ _ _ _ _ us hl => match us, hl with | [_, _], _ => rfl
  have d_law_whole : Dfn K mg "_law_whole" "_law_whole" s_law_whole ["store"] := dfn_of X G c 17 17 rfl rfl fun _ _ _ _ _ _ us hl => match us, hl with | [_], _ => rfl
  have d_law_gcd : Dfn K mg "_law_gcd" "_law_gcd" s_law_gcd ["one", "two"] := dfn_of X G c 18 18 rfl rfl fun _ _ _ _ _ _ us hl => match us, hl with | [_, _], _ => rfl
  have d_law_number : Dfn K mg "_law_number" "_law_number" s_law_number ["told"] := dfn_of X G c 25 25 rfl rfl fun _ _ _ _ _ _ us hl => match us, hl with | [_], _ => rfl
  have d_law_same : Dfn K mg "_law_same" "_law_same" s_law_same ["told", "wanted"] := dfn_of X G c 26 26 rfl rfl fun _ _ _ _ _ _ us hl => match us, hl with | [_, _], _ => rfl
  have d_law_names : Dfn K mg "_law_names" "_law_names" s_law_names ["e"] := dfn_of X G c 28 28 rfl rfl fun _ _ _ _ _ _ us hl => match us, hl with | [_], _ => rfl
  have d_floor_of : Dfn K mg "floor_of" "floor_of" s_floor_of ["a"] := dfn_of X G c 5 5 rfl rfl fun _ _ _ _ _ _ us hl => match us, hl with | [_], _ => rfl
  have d_ceil_of : Dfn K mg "ceil_of" "ceil_of" s_ceil_of ["a"] := dfn_of X G c 6 6 rfl rfl fun _ _ _ _ _ _ us hl => match us, hl with | [_], _ => rfl
  have d_text_of : Dfn K mg "text_of" "text_of" s_text_of ["a"] := dfn_of X G c 10 10 rfl rfl fun _ _ _ _ _ _ us hl => match us, hl with | [_], _ => rfl
  have d_must_be_ratios : Dfn K mg "must_be_ratios" "must_be_ratios" s_must_be_ratios ["many"] := dfn_of X G c 7 7 rfl rfl fun _ _ _ _ _ _ us hl => match us, hl with | [_], _ => rfl
  have d_least_of : Dfn K mg "least_of" "least_of" s_least_of ["many"] := dfn_of X G c 8 8 rfl rfl fun _ _ _ _ _ _ us hl => match us, hl with | [_], _ => rfl
  have d_greatest_of : Dfn K mg "greatest_of" "greatest_of" s_greatest_of ["many"] := dfn_of X G c 9 9 rfl rfl fun _ _ _ _ _ _ us hl => match us, hl with | [_], _ => rfl
  have d_is_ratio : Dfn K mg "is_ratio" "is_ratio" s_is_ratio ["value"] := dfn_of X G c 11 11 rfl rfl fun _ _ _ _ _ _ us hl => match us, hl with | [_], _ => rfl
  have d_law_low : Dfn K mg "_law_low" "_law_low" s_law_low ["top", "bottom"] := dfn_of X G c 19 19 rfl rfl fun _ _ _ _ _ _ us hl => match us, hl with | [_, _], _ => rfl
  have d_law_below : Dfn K mg "_law_below" "_law_below" s_law_below ["a", "b"] := dfn_of X G c 20 20 rfl rfl fun _ _ _ _ _ _ us hl => match us, hl with | [_, _], _ => rfl
  have d_law_ratio : Dfn K mg "_law_ratio" "_law_ratio" s_law_ratio ["store"] := dfn_of X G c 21 21 rfl rfl fun _ _ _ _ _ _ us hl => match us, hl with | [_], _ => rfl
  have d_law_bad_ratio : Dfn K mg "_law_bad_ratio" "_law_bad_ratio" s_law_bad_ratio ["store"] := dfn_of X G c 22 22 rfl rfl fun _ _ _ _ _ _ us hl => match us, hl with | [_], _ => rfl
  have d_law_asked : Dfn K mg "_law_asked" "_law_asked" s_law_asked ["op", "thing"] := dfn_of X G c 29 29 rfl rfl fun _ _ _ _ _ _ us hl => match us, hl with | [_, _], _ => rfl
  have d_law_refused : Dfn K mg "_law_refused" "_law_refused" s_law_refused ["op", "thing"] := dfn_of X G c 30 30 rfl rfl fun _ _ _ _ _ _ us hl => match us, hl with | [_, _], _ => rfl
  have d_law_one : Dfn K mg "_law_one" "_law_one" s_law_one ["store"] := dfn_of X G c 31 31 rfl rfl fun _ _ _ _ _ _ us hl => match us, hl with | [_], _ => rfl
  have d_law_power : Dfn K mg "_law_power" "_law_power" s_law_power ["x", "many"] := dfn_of X G c 36 36 rfl rfl fun _ _ _ _ _ _ us hl => match us, hl with | [_, _], _ => rfl
  have d_law_long_number : Dfn K mg "_law_long_number" "_law_long_number" s_law_long_number ["store", "digits"] := dfn_of X G c 23 23 rfl rfl fun _ _ _ _ _ _ us hl => match us, hl with | [_, _], _ => rfl
  have d_law_ends : Dfn K mg "_law_ends" "_law_ends" s_law_ends ["rows"] := dfn_of X G c 34 34 rfl rfl fun _ _ _ _ _ _ us hl => match us, hl with | [_], _ => rfl
  have d_law_rounded : Dfn K mg "_law_rounded" "_law_rounded" s_law_rounded ["x"] := dfn_of X G c 33 33 rfl rfl fun _ _ _ _ _ _ us hl => match us, hl with | [_], _ => rfl
  have d_law_odd : Dfn K mg "_law_odd" "_law_odd" s_law_odd ["store"] := dfn_of X G c 24 24 rfl rfl fun _ _ _ _ _ _ us hl => match us, hl with | [_], _ => rfl
  have d_law_many : Dfn K mg "_law_many" "_law_many" s_law_many ["store"] := dfn_of X G c 32 32 rfl rfl fun _ _ _ _ _ _ us hl => match us, hl with | [_], _ => rfl
  have d_law_ends_right : Dfn K mg "_law_ends_right" "_law_ends_right" s_law_ends_right ["rows"] := dfn_of X G c 35 35 rfl rfl fun _ _ _ _ _ _ us hl => match us, hl with | [_], _ => rfl
  have d_law_ratio_ok : Dfn K mg "_law_ratio_ok" "_law_ratio_ok" s_law_ratio_ok ["told"] := dfn_of X G c 27 27 rfl rfl fun _ _ _ _ _ _ us hl => match us, hl with | [_], _ => rfl
  have d_law_judged : Dfn K mg "_law_judged" "_law_judged" s_law_judged ["store", "x"] := dfn_of X G c 37 37 rfl rfl fun _ _ _ _ _ _ us hl => match us, hl with | [_, _], _ => rfl
  have d_law_judges : Dfn K mg "_law_judges" "_law_judges" s_law_judges ["rows", "x"] := dfn_of X G c 38 38 rfl rfl fun _ _ _ _ _ _ us hl => match us, hl with | [_, _], _ => rfl
  have d_law : Dfn K mg "law" "law" s_law ["script"] := dfn_of X G c 39 39 rfl rfl fun _ _ _ _ _ _ us hl => match us, hl with | [_], _ => rfl
  obtain ⟨f, fd, F, hm, hb⟩ := d_law
  have e := hl.symm.trans hm
  cases e
  refine ⟨fd, fun s u => ?_, fun base kb gb seer => ?_⟩
  · obtain ⟨oc, od, kV, dc, pm, an, cv, ct, sl, rfl, lk, hcd⟩ := F.ex
    exact .of_eq rfl
  have T : Tx P base K mg ⟨He.ga K "BadNumber"⟩ := { seer := seer, tree := tree, b_len := He.free_ok X G (c.fact 68 (f := .free "len") rfl), b_abs := He.free_ok X G (c.fact 69 (f := .free "abs") rfl), b_int := He.free_ok X G (c.fact 70 (f := .free "int") rfl), b_list := He.free_ok X G (c.fact 71 (f := .free "list") rfl), b_range := He.free_ok X G (c.fact 72 (f := .free "range") rfl), b_isinstance := He.free_ok X G (c.fact 73 (f := .free "isinstance") rfl), b_bool := He.free_ok X G (c.fact 74 (f := .free "bool") rfl), b_str := He.free_ok X G (c.fact 75 (f := .free "str") rfl), b_tuple := He.free_ok X G (c.fact 76 (f := .free "tuple") rfl), b_dict := He.free_ok X G (c.fact 77 (f := .free "dict") rfl), dig := dg, x_BadNumber := x_C }
  exact joined (A := ⟨He.ga K "BadNumber"⟩) T Nn F d_common_part d_has_form d_must_be_ratio d_lowest d_times d_law_mix d_law_store d_law_take d_law_pick d_law_rare d_law_whole d_law_gcd d_law_number d_law_same d_law_names d_floor_of d_ceil_of d_text_of d_must_be_ratios d_least_of d_greatest_of d_is_ratio d_law_low d_law_below d_law_ratio d_law_bad_ratio d_law_asked d_law_refused d_law_one d_law_power d_law_long_number d_law_ends d_law_rounded d_law_odd d_law_many d_law_ends_right d_law_ratio_ok d_law_judged d_law_judges
end K01
set_option maxHeartbeats 0
open PySem PySem.W PySem.Calls PyProof.Rows
theorem PySem.Challenge.cw_twothick_k01_ratio_readings_holds : PySem.Challenge.rw_twothick_k01_ratio_readings.Holds :=
 by
  w_on; o_law
  refine HandSHeadRun.head_any (r := OpenLaw.row PySem.Challenge.rw_twothick_k01_ratio_readings) (q := view (OpenLaw.row PySem.Challenge.rw_twothick_k01_ratio_readings).prog [70]) (H := K01.hk) (ob := K01.hob) (M := 20000) (loose := K01.hnames) (d := HandSHeadRun.topDef (OpenLaw.row PySem.Challenge.rw_twothick_k01_ratio_readings).prog 70) (kwd := []) K01.hob_eq
    (by kernel_rfl) (fun s => by kernel_rfl) K01.hrun (by kernel_rfl) (by kernel_rfl) (by kernel_rfl) (by rfl) (by first | assumption | decide +kernel) (by decide +kernel) ⟨rfl, rfl, rfl, rfl, rfl, by decide +kernel⟩ ?hw ?hc
  case hw => w_witness2
  case hc =>
    refine DL.walk_seerE (l := PySem.Challenge.rw_twothick_k01_ratio_readings) (n := 63) (k := 41) (x := "script") (CX := fun w => L2N.CX PySem.Challenge.rw_twothick_k01_ratio_readings.prog w) rfl (by decide) (by kernel_rfl) ⟨rfl, by decide, by decide⟩ (by decide +kernel) ?F ?h
    case h =>
      rintro w H s e s' ⟨a, B, H', cls, d, rfl, x1, x2, x3, x4, x5, x6, hE⟩
      exact hE
    case F =>
      intro w mg fa h Y G hmg0
      obtain ⟨K, KX, c, cx⟩ := Y
      have hmg : mg ("law" : PySem.Str) = some (.ref fa) := by
        have e : (HandSHeadRun.topDef (OpenLaw.row PySem.Challenge.rw_twothick_k01_ratio_readings).prog 70).name = ("law" : PySem.Str) := by kernel_rfl
        rw [← e]
        exact hmg0
      obtain ⟨fd, hb, hF⟩ := K01.ends (P := PySem.Challenge.rw_twothick_k01_ratio_readings.prog) (w := w) KX G rfl hmg c cx
      exact ⟨K, fd, _, KX, hb, fun H a ns hl _ hs => DL.law_sp hl hs fun μ Q E h => ⟨ns, rfl, hl, h⟩, hF⟩
