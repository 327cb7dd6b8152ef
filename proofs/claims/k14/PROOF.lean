import PyProof.Rows.All
import Wide.All
import OpenK.AllK
import Wide.FinOn
import HandS.ForMost
import HandS.ForExc
import HandS.HotCalls
import HandS.ExcIs
import HandS.Comp
import HandS.Wide
import HandS.Defaults
import HandS.IsInst
import HandS.Ends
import HandS.Head0
import HandS.Head1
import HandS.Head2
import HandS.HeadEnd
import HandS.HeadHook1
import HandS.HeadHook2
import HandS.HeadHook3
import HandS.HeadHook4
import HandS.CallSlots
import HandS.Property
import HandS.FStr
import HandS.RaiseMore
import PyProof.Rows.StrOr
import PyProof.StrReplace2
import KE.KRevSl
import HandS.TupMul
import HandS.Deep
import HandS.TryOnly
import HandS.More
import HandS.Small
import KE.GoesMore
import PyProof.ListRange
import KE.KExcIs
import HandS.ExcField
import HandS.ExcInit
import HandS.HeadNt
import HandS.TupSets
import HandS.SortOrd
import HandS.SortInts
import HandS.SortRule
import HandS.SetFor
import HandS.DictComp
import HandS.Strs
import PySem.Challenge.RW_twothick_k14_groups_of_mutual_reach
set_option Elab.async false
set_option linter.all false
set_option maxRecDepth 100000
set_option maxHeartbeats 4000000
/-! a layer of plain data over the hand layer -/
namespace DL
open PySem L2

/-! ### data -/
inductive D where
  | non | bl (b : Bool) | int (i : Int) | str (x : Str)
  | tup (l : List D) | lst (l : List D) | lsr (l : List D)
  | dK (ks : List Key) (l : List D) | dT (ks : List (List Key)) (l : List D)
  | ins (C : Addr) (fs : List Str) (l : List D)
  | exc (a : Addr) (d : Option Addr) (ks : List Str) (l : List D)
  | ob (a : Addr) (o : HO)
  | mut (a : Addr)
inductive MO where
  | lst (l : List D) | dK (kvs : List (Key × D)) | dT (kvs : List (List Key × D)) | ins (C : Addr) (fs : List (Str × D))
abbrev Mu := Addr → Option MO
abbrev En := List (Option D)
def um (μ : Mu) (a : Addr) (m : MO) : Mu := fun b => if b = a then some m else μ b
def rm (μ : Mu) (a : Addr) : Mu := fun b => if b = a then none else μ b
theorem um_same {μ : Mu} {a : Addr} {m : MO} : um μ a m a = some m := by unfold um; rw [if_pos rfl]
theorem um_ne {μ : Mu} {a b : Addr} {m : MO} (h : b ≠ a) : um μ a m b = μ b := by unfold um; rw [if_neg h]
theorem um_um {μ : Mu} {a : Addr} {m m' : MO} : um (um μ a m) a m' = um μ a m' := by
  funext b; unfold um; split <;> rfl
theorem rm_same {μ : Mu} {a : Addr} : rm μ a a = none := by unfold rm; rw [if_pos rfl]
theorem rm_ne {μ : Mu} {a b : Addr} (h : b ≠ a) : rm μ a b = μ b := by unfold rm; rw [if_neg h]
theorem rm_um {μ : Mu} {a : Addr} {m : MO} (h : μ a = none) : rm (um μ a m) a = μ := by
  funext b; unfold rm um; split
  · rename_i e; rw [e, h]
  · rfl
theorem um_id {μ : Mu} {a : Addr} {m : MO} (h : μ a = some m) : um μ a m = μ := by
  funext b; unfold um; split
  · rename_i e; rw [e, h]
  · rfl
theorem ne_nm {μ : Mu} {a b : Addr} {m : MO} (h : μ a = some m) (h' : μ b = none) : a ≠ b := by
  intro e; subst e; rw [h] at h'; cases h'
/-- less is known -/
def le (μ μ' : Mu) : Prop := ∀ a m, μ a = some m → μ' a = some m
theorem le.refl {μ : Mu} : le μ μ := fun _ _ h => h
theorem le.trans {a b c : Mu} (h : le a b) (h' : le b c) : le a c := fun x m e => h' x m (h x m e)
theorem le.um {μ : Mu} {a : Addr} {m : MO} (h : μ a = none) : le μ (um μ a m) := fun b n e => by
  rw [um_ne (ne_nm e h)]; exact e
theorem le.um2 {μ μ' : Mu} {a : Addr} {m : MO} (h : le μ μ') : le (DL.um μ a m) (DL.um μ' a m) := fun b n e => by
  unfold DL.um at *
  split
  · rename_i q; rw [if_pos q] at e; exact e
  · rename_i q; rw [if_neg q] at e; exact h b n e

mutual
/-- v is the data d, its parts standing in F for good -/
def DV (K : PySem.W.Frag) (F : Hp) : D → V → Prop
  | .non, v => v = .non
  | .bl b, v => v = .bl b
  | .int i, v => v = .int i
  | .str x, v => v = .str x
  | .tup l, v => ∃ a xs, v = .ref a ∧ F a = some (.tup xs) ∧ DVs K F l xs
  | .lst l, v => ∃ a xs, v = .ref a ∧ F a = some (.lst xs) ∧ DVs K F l xs
  | .lsr l, v => ∃ a xs, v = .ref a ∧ SqL K F a xs ∧ DVs K F l xs
  | .dK ks l, v => ∃ a kvs, v = .ref a ∧ F a = some (.dK kvs) ∧ kvs.map (·.1) = ks ∧ DVs K F l (kvs.map (·.2))
  | .dT ks l, v => ∃ a kvs, v = .ref a ∧ F a = some (.dT kvs) ∧ kvs.map (·.1) = ks ∧ DVs K F l (kvs.map (·.2))
  | .ins C fs l, v => ∃ a dx kvs, v = .ref a ∧ F a = some (.ins C dx kvs) ∧ kvs.map (·.1) = fs ∧ DVs K F l (kvs.map (·.2))
  | .exc a d ks l, v => v = .ref a ∧ ((d = none ∧ l = []) ∨ ∃ dd ys, d = some dd ∧ F dd = some (.xd ys) ∧ ys.map (·.1) = ks ∧ DVs K F l (ys.map (·.2)))
  | .ob a o, v => v = .ref a ∧ F a = some o
  | .mut a, v => v = .ref a
def DVs (K : PySem.W.Frag) (F : Hp) : List D → List V → Prop
  | [], xs => xs = []
  | d :: l, xs => ∃ v vs, xs = v :: vs ∧ DV K F d v ∧ DVs K F l vs
end
def Grow (F F' : Hp) : Prop := ∀ a o, F a = some o → F' a = some o
theorem Grow.refl {F : Hp} : Grow F F := fun _ _ h => h
theorem Grow.trans {F G H : Hp} (a : Grow F G) (b : Grow G H) : Grow F H := fun x o h => b x o (a x o h)
theorem Grow.new {F : Hp} {p : Addr} {o : HO} (h : F p = none) : Grow F (upd F p o) := fun a u e => by
  rw [upd_ne (ne_of_none e h)]; exact e
theorem Grow.rd {H H' : Hp} {a : Addr} {u : HO} (e : Grow H H') (h : Rd H a u) : Rd H' a u := by
  rcases h with h | ⟨o, h⟩
  · exact .inl (e a _ h)
  · exact .inr ⟨o, e a _ h⟩
theorem Grow.sl {K : PySem.W.Frag} {H H' : Hp} {a : Addr} {xs : List V} (e : Grow H H') (h : SqL K H a xs) : SqL K H' a xs := by
  rcases h with h | h
  · exact .inl (e.rd h)
  · exact .inr h
theorem Grow.st {K : PySem.W.Frag} {H H' : Hp} {a : Addr} {xs : List V} (e : Grow H H') (h : H a = some (.tup xs)) : SqT K H' a xs := SqT.of (e _ _ h)
section
variable {K : PySem.W.Frag} {F F' : Hp}
mutual
theorem DV.mono (g : Grow F F') : ∀ {d : D} {v : V}, DV K F d v → DV K F' d v
  | .non, _, h => h
  | .bl _, _, h => h
  | .int _, _, h => h
  | .str _, _, h => h
  | .mut _, _, h => h
  | .tup l, _, h => let ⟨a, xs, e, s, r⟩ := h; ⟨a, xs, e, g _ _ s, DVs.mono g r⟩
  | .lst l, _, h => let ⟨a, xs, e, s, r⟩ := h; ⟨a, xs, e, g _ _ s, DVs.mono g r⟩
  | .lsr l, _, h => let ⟨a, xs, e, s, r⟩ := h; ⟨a, xs, e, g.sl s, DVs.mono g r⟩
  | .dK _ _, _, h => let ⟨a, xs, e, s, k, r⟩ := h; ⟨a, xs, e, g _ _ s, k, DVs.mono g r⟩
  | .dT _ _, _, h => let ⟨a, xs, e, s, k, r⟩ := h; ⟨a, xs, e, g _ _ s, k, DVs.mono g r⟩
  | .ins _ _ _, _, h => let ⟨a, dx, xs, e, s, k, r⟩ := h; ⟨a, dx, xs, e, g _ _ s, k, DVs.mono g r⟩
  | .ob _ _, _, h => ⟨h.1, g _ _ h.2⟩
  | .exc _ _ _ _, _, h => ⟨h.1, h.2.elim .inl fun ⟨dd, ys, e, s, k, r⟩ => .inr ⟨dd, ys, e, g _ _ s, k, DVs.mono g r⟩⟩
theorem DVs.mono (g : Grow F F') : ∀ {l : List D} {xs : List V}, DVs K F l xs → DVs K F' l xs
  | [], _, h => h
  | _ :: _, _, h => let ⟨v, vs, e, a, r⟩ := h; ⟨v, vs, e, DV.mono g a, DVs.mono g r⟩
end
theorem DVs.len : ∀ {l : List D} {xs : List V}, DVs K F l xs → xs.length = l.length
  | [], _, h => by rw [show _ = [] from h]; rfl
  | _ :: l, _, h => by
    obtain ⟨v, vs, rfl, a, r⟩ := h
    show vs.length + 1 = l.length + 1
    rw [DVs.len r]
theorem DVs.get : ∀ {l : List D} {xs : List V} {i : Nat} {d : D}, DVs K F l xs → l[i]? = some d → ∃ v, xs[i]? = some v ∧ DV K F d v
  | [], _, _, _, _, e => by simp at e
  | _ :: l, _, 0, _, h, e => by
    obtain ⟨v, vs, rfl, a, r⟩ := h
    simp at e; subst e
    exact ⟨v, rfl, a⟩
  | _ :: l, _, i + 1, d, h, e => by
    obtain ⟨v, vs, rfl, a, r⟩ := h
    obtain ⟨u, h1, h2⟩ := DVs.get (i := i) (d := d) r (by simpa using e)
    exact ⟨u, by simpa using h1, h2⟩
theorem DVs.back : ∀ {l : List D} {xs : List V} {i : Nat} {v : V}, DVs K F l xs → xs[i]? = some v → ∃ d, l[i]? = some d ∧ DV K F d v
  | [], _, _, _, h, e => by rw [show _ = [] from h] at e; simp at e
  | _ :: l, _, 0, _, h, e => by
    obtain ⟨v, vs, rfl, a, r⟩ := h
    simp at e; subst e
    exact ⟨_, rfl, a⟩
  | _ :: l, _, i + 1, d, h, e => by
    obtain ⟨v, vs, rfl, a, r⟩ := h
    obtain ⟨u, h1, h2⟩ := DVs.back (i := i) (v := d) r (by simpa using e)
    exact ⟨u, by simpa using h1, h2⟩
theorem DVs.nil : DVs K F [] [] := rfl
theorem DVs.cons {d : D} {v : V} {l : List D} {xs : List V} (h : DV K F d v) (r : DVs K F l xs) : DVs K F (d :: l) (v :: xs) := ⟨v, xs, rfl, h, r⟩
theorem DVs.append : ∀ {l m : List D} {xs ys : List V}, DVs K F l xs → DVs K F m ys → DVs K F (l ++ m) (xs ++ ys)
  | [], _, _, _, h, q => by rw [show _ = [] from h]; exact q
  | _ :: l, _, _, _, h, q => by
    obtain ⟨v, vs, rfl, a, r⟩ := h
    exact ⟨v, _, rfl, a, DVs.append r q⟩
theorem DVs.set : ∀ {l : List D} {xs : List V} (i : Nat) {d : D} {v : V}, DVs K F l xs → DV K F d v → DVs K F (l.set i d) (xs.set i v)
  | [], _, _, _, _, h, _ => by rw [show _ = [] from h]; exact rfl
  | _ :: l, _, 0, _, _, h, q => by
    obtain ⟨v, vs, rfl, a, r⟩ := h
    exact ⟨_, _, rfl, q, r⟩
  | _ :: l, _, i + 1, _, _, h, q => by
    obtain ⟨v, vs, rfl, a, r⟩ := h
    exact ⟨_, _, rfl, a, DVs.set i r q⟩
theorem DVs.take : ∀ {l : List D} {xs : List V} (n : Nat), DVs K F l xs → DVs K F (l.take n) (xs.take n)
  | _, _, 0, _ => by simp; exact rfl
  | [], _, _ + 1, h => by rw [show _ = [] from h]; exact rfl
  | _ :: l, _, n + 1, h => by
    obtain ⟨v, vs, rfl, a, r⟩ := h
    exact ⟨_, _, rfl, a, DVs.take n r⟩
theorem DVs.drop : ∀ {l : List D} {xs : List V} (n : Nat), DVs K F l xs → DVs K F (l.drop n) (xs.drop n)
  | _, _, 0, h => h
  | [], _, _ + 1, h => by rw [show _ = [] from h]; exact rfl
  | _ :: l, _, n + 1, h => by
    obtain ⟨v, vs, rfl, a, r⟩ := h
    exact DVs.drop n r
theorem DVs.dropLast {l : List D} {xs : List V} (h : DVs K F l xs) : DVs K F l.dropLast xs.dropLast := by
  rw [List.dropLast_eq_take, List.dropLast_eq_take, h.len]
  exact h.take _
theorem DVs.ints : ∀ {ns : List Int} {xs : List V}, DVs K F (ns.map D.int) xs → xs = ns.map V.int
  | [], _, h => h
  | n :: ns, _, h => by
    obtain ⟨v, vs, rfl, a, r⟩ := h
    rw [show v = V.int n from a, DVs.ints r]; rfl
theorem DVs.of_ints : ∀ {ns : List Int}, DVs K F (ns.map D.int) (ns.map V.int)
  | [] => rfl
  | n :: ns => ⟨_, _, rfl, rfl, DVs.of_ints⟩
theorem DVs.bls : ∀ {ns : List Bool} {xs : List V}, DVs K F (ns.map D.bl) xs → xs = ns.map V.bl
  | [], _, h => h
  | n :: ns, _, h => by
    obtain ⟨v, vs, rfl, a, r⟩ := h
    rw [show v = V.bl n from a, DVs.bls r]; rfl
end

/-! ### the state -/
def KD (K : PySem.W.Frag) (F : Hp) {κ : Type} (kvs : List (κ × D)) (ys : List (κ × V)) : Prop := ys.map (·.1) = kvs.map (·.1) ∧ DVs K F (kvs.map (·.2)) (ys.map (·.2))
theorem KD.mono {K : PySem.W.Frag} {F F' : Hp} {κ : Type} {kvs : List (κ × D)} {ys : List (κ × V)} (g : Grow F F') (h : KD K F kvs ys) : KD K F' kvs ys := ⟨h.1, h.2.mono g⟩
def MOk (K : PySem.W.Frag) (F H : Hp) (a : Addr) : MO → Prop
  | .lst l => ∃ xs, H a = some (.lst xs) ∧ DVs K F l xs
  | .dK kvs => ∃ ys, H a = some (.dK ys) ∧ KD K F kvs ys
  | .dT kvs => ∃ ys, H a = some (.dT ys) ∧ KD K F kvs ys
  | .ins C fs => ∃ dx ys, H a = some (.ins C dx ys) ∧ KD K F fs ys
structure Sok (K : PySem.W.Frag) (F : Hp) (μ : Mu) (H : Hp) : Prop where
  sub : ∀ a o, F a = some o → H a = some o
  cel : ∀ a m, μ a = some m → F a = none ∧ MOk K F H a m
def EnvOk (K : PySem.W.Frag) (F : Hp) (ρ : En) (σ : L2.St) : Prop := ρ.length = σ.length ∧ ∀ (i : Nat) (d : D), ρ[i]? = some (some d) → ∃ v, σ[i]? = some (some v) ∧ DV K F d v
/-- an exception's fields, in its own dict -/
def ExD (K : PySem.W.Frag) (F : Hp) (d : Option Addr) (fs : List (Str × D)) : Prop := (fs = [] ∧ d = none) ∨ fs ≠ [] ∧ ∃ dd ys, d = some dd ∧ F dd = some (.xd ys) ∧ KD K F fs ys
/-- what is wanted of an exception: its class, its fields, the slots and cells at its raise -/
abbrev EX := Addr → List (Str × D) → En → Mu → Prop
def WOk (K : PySem.W.Frag) (W : WX) (E : EX) (F : Hp) : Prop := ∀ (F' : Hp) (μ : Mu) (H : Hp) (ρ : En) (σ : L2.St) C d fs, Grow F F' → Sok K F' μ H → EnvOk K F' ρ σ → ExD K F' d fs → E C fs ρ μ → W (.ref C) d σ H
structure S0 (K : PySem.W.Frag) (W : WX) (E : EX) (F : Hp) (μ : Mu) (H : Hp) (ρ : En) (σ : L2.St) : Prop where
  ok : Sok K F μ H
  env : EnvOk K F ρ σ
  wok : WOk K W E F
section
variable {K : PySem.W.Frag} {W : WX} {E : EX} {F F' H H' : Hp} {μ μ' : Mu} {ρ ρ' : En} {σ σ' : L2.St} {p a : Addr} {o : HO} {m : MO} {d : D} {v : V}
theorem EnvOk.mono (g : Grow F F') (h : EnvOk K F ρ σ) : EnvOk K F' ρ σ := ⟨h.1, fun i d e => let ⟨v, a, b⟩ := h.2 i d e; ⟨v, a, b.mono g⟩⟩
theorem WOk.mono (g : Grow F F') (h : WOk K W E F) : WOk K W E F' := fun F1 μ H σ ρ C d fs g1 => h F1 μ H σ ρ C d fs (g.trans g1)
theorem MOk.mono (g : Grow F F') (hk : ∀ o, H a = some o → H' a = some o) (h : MOk K F H a m) : MOk K F' H' a m := by
  cases m with
  | lst l => obtain ⟨xs, e, r⟩ := h; exact ⟨xs, hk _ e, r.mono g⟩
  | dK l => obtain ⟨xs, e, r⟩ := h; exact ⟨xs, hk _ e, r.mono g⟩
  | dT l => obtain ⟨xs, e, r⟩ := h; exact ⟨xs, hk _ e, r.mono g⟩
  | ins C l => obtain ⟨dx, xs, e, r⟩ := h; exact ⟨dx, xs, hk _ e, r.mono g⟩
theorem MOk.some (h : MOk K F H a m) : ∃ o, H a = some o := by
  cases m with
  | lst l => obtain ⟨xs, e, r⟩ := h; exact ⟨_, e⟩
  | dK l => obtain ⟨xs, e, r⟩ := h; exact ⟨_, e⟩
  | dT l => obtain ⟨xs, e, r⟩ := h; exact ⟨_, e⟩
  | ins C l => obtain ⟨dx, xs, e, r⟩ := h; exact ⟨_, e⟩
theorem Sok.free (h : Sok K F μ H) (hp : H p = none) : F p = none ∧ μ p = none := by
  constructor
  · cases e : F p with
    | none => rfl
    | some o => rw [h.sub p o e] at hp; cases hp
  · cases e : μ p with
    | none => rfl
    | some m =>
      obtain ⟨o, q⟩ := (h.cel p m e).2.some
      rw [q] at hp; cases hp
/-- a new object for good -/
theorem Sok.put (h : Sok K F μ H) (hp : H p = none) : Sok K (upd F p o) μ (upd H p o) := by
  obtain ⟨f, m⟩ := h.free hp
  refine ⟨fun a u e => ?_, fun a u e => ?_⟩
  · by_cases q : a = p
    · subst q; rw [upd_same] at *; exact e
    · rw [upd_ne q] at *; exact h.sub a u e
  · obtain ⟨x, y⟩ := h.cel a u e
    have q : a ≠ p := ne_nm e m
    refine ⟨by rw [upd_ne q]; exact x, y.mono (Grow.new f) fun o' z => by rw [upd_ne q]; exact z⟩
/-- a new object, not of our world -/
theorem Sok.junk (h : Sok K F μ H) (hp : H p = none) : Sok K F μ (upd H p o) := by
  obtain ⟨f, m⟩ := h.free hp
  refine ⟨fun a u e => ?_, fun a u e => ?_⟩
  · rw [upd_ne (ne_of_none e f)]; exact h.sub a u e
  · obtain ⟨x, y⟩ := h.cel a u e
    have q : a ≠ p := ne_nm e m
    exact ⟨x, y.mono Grow.refl fun o' z => by rw [upd_ne q]; exact z⟩
/-- a new or changed cell -/
theorem Sok.cell (h : Sok K F μ H) (hp : F p = none) (hm : MOk K F (upd H p o) p m) : Sok K F (um μ p m) (upd H p o) := by
  refine ⟨fun a u e => ?_, fun a u e => ?_⟩
  · rw [upd_ne (ne_of_none e hp)]; exact h.sub a u e
  · by_cases q : a = p
    · subst q; rw [um_same] at e; cases e; exact ⟨hp, hm⟩
    · rw [um_ne q] at e
      obtain ⟨x, y⟩ := h.cel a u e
      exact ⟨x, y.mono Grow.refl fun o' z => by rw [upd_ne q]; exact z⟩
theorem Sok.weak (h : Sok K F μ H) (l : le μ' μ) : Sok K F μ' H := ⟨h.sub, fun a m e => h.cel a m (l a m e)⟩
/-- a cell is for good from now on -/
theorem Sok.frz (h : Sok K F μ H) (hp : F p = none) (ho : H p = some o) : Sok K (upd F p o) (rm μ p) H := by
  refine ⟨fun a u e => ?_, fun a u e => ?_⟩
  · by_cases q : a = p
    · subst q; rw [upd_same] at e; rw [ho]; exact e
    · rw [upd_ne q] at e; exact h.sub a u e
  · by_cases q : a = p
    · subst q; rw [rm_same] at e; cases e
    · rw [rm_ne q] at e
      obtain ⟨x, y⟩ := h.cel a u e
      exact ⟨by rw [upd_ne q]; exact x, y.mono (Grow.new hp) fun _ z => z⟩
theorem EnvOk.set {i : Nat} (h : EnvOk K F ρ σ) (hv : DV K F d v) : EnvOk K F (ρ.set i (some d)) (σ.set i (some v)) := by
  refine ⟨by rw [List.length_set, List.length_set]; exact h.1, fun j e q => ?_⟩
  by_cases hj : i = j
  · subst hj
    rw [List.getElem?_set] at q ⊢
    simp only [if_true] at q ⊢
    split at q
    · rename_i z
      rw [← h.1, if_pos z]
      simp only [Option.some.injEq] at q
      subst q
      exact ⟨v, rfl, hv⟩
    · cases q
  · rw [List.getElem?_set_ne hj] at q ⊢
    exact h.2 j e q
theorem EnvOk.le (h : EnvOk K F ρ σ) (hl : ρ'.length = ρ.length) (q : ∀ (i : Nat) (d : D), ρ'[i]? = some (some d) → ρ[i]? = some (some d)) : EnvOk K F ρ' σ := ⟨hl.trans h.1, fun i d e => h.2 i d (q i d e)⟩
theorem S0.mono (s : S0 K W E F μ H ρ σ) (g : Grow F F') (h : Sok K F' μ' H') : S0 K W E F' μ' H' ρ σ := ⟨h, s.env.mono g, s.wok.mono g⟩
theorem S0.set {i : Nat} (s : S0 K W E F μ H ρ σ) (hv : DV K F d v) : S0 K W E F μ H (ρ.set i (some d)) (σ.set i (some v)) := ⟨s.ok, s.env.set hv, s.wok⟩
theorem S0.weak (s : S0 K W E F μ H ρ σ) (l : le μ' μ) : S0 K W E F μ' H ρ σ := ⟨s.ok.weak l, s.env, s.wok⟩
end

/-! ### what readings give, over data -/
abbrev WEx := En → Mu → (D → Mu → Prop) → Prop
abbrev WT := En → Mu → (Bool → Mu → Prop) → Prop
abbrev WA := En → Mu → (List D → Mu → Prop) → Prop
structure DEnds where
  nx : En → Mu → Prop
  rt : D → Mu → Prop
  bk : En → Mu → Prop := fun _ _ => False
  ct : En → Mu → Prop := fun _ _ => False
abbrev WS := DEnds → En → Mu → Prop
section
variable (K : PySem.W.Frag) (W : WX) (E : EX)
/-- what is wanted of a value: of its data -/
def PQ (F : Hp) (ρ : En) (σ : L2.St) (Q0 : D → Mu → Prop) (Q : VK) : Prop := ∀ F' μ' H' d v, Grow F F' → S0 K W E F' μ' H' ρ σ → DV K F' d v → Q0 d μ' → Q v H'
def Dn (t : TE) (w : WEx) : Prop := ∀ F μ H ρ σ Q0 Q, S0 K W E F μ H ρ σ → w ρ μ Q0 → PQ K W E F ρ σ Q0 Q → t σ H Q
def DnT (t : TT) (w : WT) : Prop := ∀ F μ H ρ σ (Q0 : Bool → Mu → Prop) (Q : Bool → Hp → Prop), S0 K W E F μ H ρ σ → w ρ μ Q0 → (∀ F' μ' H' b, Grow F F' → S0 K W E F' μ' H' ρ σ → Q0 b μ' → Q b H') → t σ H Q
def DnA (t : TA) (w : WA) : Prop := ∀ F μ H ρ σ (Q0 : List D → Mu → Prop) (Q : List V → Hp → Prop), S0 K W E F μ H ρ σ → w ρ μ Q0 → (∀ F' μ' H' ds vs, Grow F F' → S0 K W E F' μ' H' ρ σ → DVs K F' ds vs → Q0 ds μ' → Q vs H') → t σ H Q
def PN (F : Hp) (N0 : En → Mu → Prop) (N : L2.St → Hp → Prop) : Prop := ∀ F' μ' H' ρ' σ', Grow F F' → S0 K W E F' μ' H' ρ' σ' → N0 ρ' μ' → N σ' H'
structure EndsOk (F : Hp) (D0 : DEnds) (Ds : Ends) : Prop where
  nx : PN K W E F D0.nx Ds.nx
  rt : ∀ F' μ' H' d v, Grow F F' → Sok K F' μ' H' → DV K F' d v → D0.rt d μ' → Ds.rt v H'
  bk : PN K W E F D0.bk Ds.bk
  ct : PN K W E F D0.ct Ds.ct
def DnS (t : TS) (w : WS) : Prop := ∀ F μ H ρ σ D0 Ds, S0 K W E F μ H ρ σ → w D0 ρ μ → EndsOk K W E F D0 Ds → t Ds σ H
/-- the same of values -/
def DOp (r : R2) (f : D → D → Mu → (D → Mu → Prop) → Prop) : Prop := ∀ F μ H x y dx dy Q0 (Q : VK), Sok K F μ H → DV K F dx x → DV K F dy y → f dx dy μ Q0 → (∀ F' μ' H' d v, Grow F F' → Sok K F' μ' H' → DV K F' d v → Q0 d μ' → Q v H') → r x y H Q
def DUn (r : V → Hp → VK → Prop) (f : D → Mu → (D → Mu → Prop) → Prop) : Prop := ∀ F μ H x dx Q0 (Q : VK), Sok K F μ H → DV K F dx x → f dx μ Q0 → (∀ F' μ' H' d v, Grow F F' → Sok K F' μ' H' → DV K F' d v → Q0 d μ' → Q v H') → r x H Q
def DCa (r : List V → Hp → VK → Prop) (f : List D → Mu → (D → Mu → Prop) → Prop) : Prop := ∀ F μ H vs ds Q0 (Q : VK), Sok K F μ H → DVs K F ds vs → f ds μ Q0 → (∀ F' μ' H' d v, Grow F F' → Sok K F' μ' H' → DV K F' d v → Q0 d μ' → Q v H') → r vs H Q
def DMe (r : V → List V → Hp → VK → Prop) (f : D → List D → Mu → (D → Mu → Prop) → Prop) : Prop := ∀ F μ H x vs dx ds Q0 (Q : VK), Sok K F μ H → DV K F dx x → DVs K F ds vs → f dx ds μ Q0 → (∀ F' μ' H' d v, Grow F F' → Sok K F' μ' H' → DV K F' d v → Q0 d μ' → Q v H') → r x vs H Q
end
section
variable {K : PySem.W.Frag} {W : WX} {E : EX}
theorem PQ.grow {F F' : Hp} {ρ : En} {σ : L2.St} {Q0 : D → Mu → Prop} {Q : VK} (g : Grow F F') (h : PQ K W E F ρ σ Q0 Q) : PQ K W E F' ρ σ Q0 Q := fun F1 μ1 H1 d v g1 => h F1 μ1 H1 d v (g.trans g1)
theorem PN.grow {F F' : Hp} {N0 : En → Mu → Prop} {N : L2.St → Hp → Prop} (g : Grow F F') (h : PN K W E F N0 N) : PN K W E F' N0 N := fun F1 μ1 H1 d v g1 => h F1 μ1 H1 d v (g.trans g1)
theorem EndsOk.grow {F F' : Hp} {D0 : DEnds} {Ds : Ends} (g : Grow F F') (h : EndsOk K W E F D0 Ds) : EndsOk K W E F' D0 Ds := ⟨h.nx.grow g, fun F1 μ1 H1 d v g1 => h.rt F1 μ1 H1 d v (g.trans g1), h.bk.grow g, h.ct.grow g⟩
end

/-! ### expressions -/
def wVar (i : Nat) : WEx := fun ρ μ Q => match ρ[i]? with
  | some (some d) => Q d μ
  | _ => False
def wC (d : D) : WEx := fun _ μ Q => Q d μ
def wOp (f : D → D → Mu → (D → Mu → Prop) → Prop) (a b : WEx) : WEx := fun ρ μ Q => a ρ μ fun x μ1 => b ρ μ1 fun y μ2 => f x y μ2 Q
def wUn (f : D → Mu → (D → Mu → Prop) → Prop) (a : WEx) : WEx := fun ρ μ Q => a ρ μ fun x μ1 => f x μ1 Q
def wNil : WA := fun _ μ Q => Q [] μ
def wCons (a : WEx) (r : WA) : WA := fun ρ μ Q => a ρ μ fun x μ1 => r ρ μ1 fun xs μ2 => Q (x :: xs) μ2
def wCB (f : List D → Mu → (D → Mu → Prop) → Prop) (a : WA) : WEx := fun ρ μ Q => a ρ μ fun ds μ1 => f ds μ1 Q
def wTup (a : WA) : WEx := fun ρ μ Q => a ρ μ fun ds μ1 => ds.length ≤ 100000 ∧ Q (.tup ds) μ1
def wLst (a : WA) : WEx := fun ρ μ Q => a ρ μ fun ds μ1 => ds.length ≤ 100000 ∧ ∀ p, μ1 p = none → Q (.mut p) (um μ1 p (.lst ds))
/-- a cell is read for good from here on -/
def fFrz (d : D) (μ : Mu) (Q : D → Mu → Prop) : Prop := match d with
  | .mut a => match μ a with
    | some (.lst l) => Q (.lst l) (rm μ a)
    | some (.dK kvs) => Q (.dK (kvs.map (·.1)) (kvs.map (·.2))) (rm μ a)
    | some (.dT kvs) => Q (.dT (kvs.map (·.1)) (kvs.map (·.2))) (rm μ a)
    | some (.ins C fs) => Q (.ins C (fs.map (·.1)) (fs.map (·.2))) (rm μ a)
    | none => False
  | d => Q d μ
def wFrz (a : WEx) : WEx := wUn fFrz a
/-- a new list for good -/
def wLstF (a : WA) : WEx := fun ρ μ Q => a ρ μ fun ds μ1 => ds.length ≤ 100000 ∧ Q (.lst ds) μ1
def tB0 (d : D) (μ : Mu) (Q : Bool → Mu → Prop) : Prop := match d with
  | .bl b => Q b μ
  | _ => False
def wTe (a : WEx) : WT := fun ρ μ Q => a ρ μ fun d μ1 => tB0 d μ1 Q
def wAnd (t u : WT) : WT := fun ρ μ Q => t ρ μ fun c μ1 => if c = true then u ρ μ1 Q else Q false μ1
def wOr (t u : WT) : WT := fun ρ μ Q => t ρ μ fun c μ1 => if c = true then Q true μ1 else u ρ μ1 Q
def wNot (t : WT) : WT := fun ρ μ Q => t ρ μ fun c μ1 => Q (!c) μ1
def wAndV (a b : WEx) : WEx := fun ρ μ Q => a ρ μ fun d μ1 => tB0 d μ1 fun c μ2 => if c = true then b ρ μ2 Q else Q (.bl false) μ2
def wOrV (a b : WEx) : WEx := fun ρ μ Q => a ρ μ fun d μ1 => tB0 d μ1 fun c μ2 => if c = true then Q (.bl true) μ2 else b ρ μ2 Q
def wNotV (a : WEx) : WEx := fun ρ μ Q => a ρ μ fun d μ1 => tB0 d μ1 fun c μ2 => Q (.bl (!c)) μ2
def wIfE (t : WT) (a b : WEx) : WEx := fun ρ μ Q => t ρ μ fun c μ1 => if c = true then a ρ μ1 Q else b ρ μ1 Q
theorem sz5 {n : Nat} (h : n ≤ 100000) : n ≤ sizeLine := Nat.le_trans h (by decide)
theorem sz5l {n : Nat} (h : n < 100000) : n < sizeLine := Nat.lt_of_lt_of_le h (by decide)
section
variable {K : PySem.W.Frag} {W : WX} {E : EX} {t ta tb te : TE} {w wa wb : WEx} {tt tu : TT} {wt wu : WT} {tas : TA} {was : WA} {r : R2}
theorem dn_var {i : Nat} : Dn K W E (tVar i) (wVar i) := by
  intro F μ H ρ σ Q0 Q s h q
  unfold wVar at h
  split at h
  · rename_i d e
    obtain ⟨v, e1, dv⟩ := s.env.2 i d e
    exact ⟨v, e1, q F μ H d v Grow.refl s dv h⟩
  · exact h.elim
theorem dn_int {i : Int} : Dn K W E (tC (.int i)) (wC (.int i)) := fun F μ H ρ σ Q0 Q s h q => q F μ H (.int i) (.int i) Grow.refl s rfl h
theorem dn_bl {i : Bool} : Dn K W E (tC (.bl i)) (wC (.bl i)) := fun F μ H ρ σ Q0 Q s h q => q F μ H (.bl i) (.bl i) Grow.refl s rfl h
theorem dn_non : Dn K W E (tC .non) (wC .non) := fun F μ H ρ σ Q0 Q s h q => q F μ H .non .non Grow.refl s rfl h
theorem dn_str {x : Str} : Dn K W E (tC (.str x)) (wC (.str x)) := fun F μ H ρ σ Q0 Q s h q => q F μ H (.str x) (.str x) Grow.refl s rfl h
theorem dn_op {f : D → D → Mu → (D → Mu → Prop) → Prop} (hf : DOp K r f) (ha : Dn K W E ta wa) (hb : Dn K W E tb wb) : Dn K W E (tOp r ta tb) (wOp f wa wb) := by
  intro F μ H ρ σ Q0 Q s h q
  refine ha F μ H ρ σ _ _ s h fun F1 μ1 H1 dx x g1 s1 dv1 h1 => ?_
  refine hb F1 μ1 H1 ρ σ _ _ s1 h1 fun F2 μ2 H2 dy y g2 s2 dv2 h2 => ?_
  refine hf F2 μ2 H2 x y dx dy Q0 Q s2.ok (dv1.mono g2) dv2 h2 fun F3 μ3 H3 d v g3 s3 dv h3 => ?_
  exact q F3 μ3 H3 d v (g1.trans (g2.trans g3)) (s2.mono g3 s3) dv h3
theorem dn_un {r : V → Hp → VK → Prop} {f : D → Mu → (D → Mu → Prop) → Prop} (hf : DUn K r f) (ha : Dn K W E ta wa) : Dn K W E (tUn r ta) (wUn f wa) := by
  intro F μ H ρ σ Q0 Q s h q
  refine ha F μ H ρ σ _ _ s h fun F1 μ1 H1 dx x g1 s1 dv1 h1 => ?_
  refine hf F1 μ1 H1 x dx Q0 Q s1.ok dv1 h1 fun F3 μ3 H3 d v g3 s3 dv h3 => ?_
  exact q F3 μ3 H3 d v (g1.trans g3) (s1.mono g3 s3) dv h3
theorem dn_nil : DnA K W E tNil wNil := fun F μ H ρ σ Q0 Q s h q => q F μ H [] [] Grow.refl s rfl h
theorem dn_cons (ha : Dn K W E ta wa) (hr : DnA K W E tas was) : DnA K W E (tCons ta tas) (wCons wa was) := by
  intro F μ H ρ σ Q0 Q s h q
  refine ha F μ H ρ σ _ _ s h fun F1 μ1 H1 dx x g1 s1 dv1 h1 => ?_
  refine hr F1 μ1 H1 ρ σ _ _ s1 h1 fun F2 μ2 H2 ds vs g2 s2 dv2 h2 => ?_
  exact q F2 μ2 H2 _ _ (g1.trans g2) s2 (DVs.cons (dv1.mono g2) dv2) h2
theorem dn_cb {r : List V → Hp → VK → Prop} {f : List D → Mu → (D → Mu → Prop) → Prop} (hf : DCa K r f) (ha : DnA K W E tas was) : Dn K W E (tCB r tas) (wCB f was) := by
  intro F μ H ρ σ Q0 Q s h q
  refine ha F μ H ρ σ _ _ s h fun F1 μ1 H1 ds vs g1 s1 dv1 h1 => ?_
  refine hf F1 μ1 H1 vs ds Q0 Q s1.ok dv1 h1 fun F3 μ3 H3 d v g3 s3 dv h3 => ?_
  exact q F3 μ3 H3 d v (g1.trans g3) (s1.mono g3 s3) dv h3
theorem dn_tup (ha : DnA K W E tas was) : Dn K W E (tTup tas) (wTup was) := by
  intro F μ H ρ σ Q0 Q s h q
  refine ha F μ H ρ σ _ _ s h fun F1 μ1 H1 ds vs g1 s1 dv1 ⟨hz, h1⟩ => ⟨sz5 (by rw [dv1.len]; exact hz), fun p hp => ?_⟩
  have f := s1.ok.free hp
  exact q (upd F1 p (.tup vs)) μ1 _ (.tup ds) _ (g1.trans (Grow.new f.1)) (s1.mono (Grow.new f.1) (s1.ok.put hp)) ⟨p, vs, rfl, upd_same, dv1.mono (Grow.new f.1)⟩ h1
theorem dn_lst (ha : DnA K W E tas was) : Dn K W E (tLst tas) (wLst was) := by
  intro F μ H ρ σ Q0 Q s h q
  refine ha F μ H ρ σ _ _ s h fun F1 μ1 H1 ds vs g1 s1 dv1 ⟨hz, h1⟩ => ⟨sz5 (by rw [dv1.len]; exact hz), fun p hp => ?_⟩
  have f := s1.ok.free hp
  exact q F1 _ _ (.mut p) _ g1 (s1.mono Grow.refl (s1.ok.cell (m := .lst ds) f.1 ⟨vs, upd_same, dv1⟩)) rfl (h1 p f.2)
theorem dn_lstF (ha : DnA K W E tas was) : Dn K W E (tLst tas) (wLstF was) := by
  intro F μ H ρ σ Q0 Q s h q
  refine ha F μ H ρ σ _ _ s h fun F1 μ1 H1 ds vs g1 s1 dv1 ⟨hz, h1⟩ => ⟨sz5 (by rw [dv1.len]; exact hz), fun p hp => ?_⟩
  have f := s1.ok.free hp
  exact q (upd F1 p (.lst vs)) μ1 _ (.lst ds) _ (g1.trans (Grow.new f.1)) (s1.mono (Grow.new f.1) (s1.ok.put hp)) ⟨p, vs, rfl, upd_same, dv1.mono (Grow.new f.1)⟩ h1
/-- a ghost step: a cell for good -/
theorem frz_ok {F H : Hp} {μ : Mu} {d : D} {v : V} {Q0 : D → Mu → Prop} {P : Prop} (s : Sok K F μ H) (dv : DV K F d v) (h : fFrz d μ Q0) (q : ∀ F' μ' d', Grow F F' → Sok K F' μ' H → DV K F' d' v → Q0 d' μ' → P) : P := by
  unfold fFrz at h
  split at h
  · rename_i a
    obtain rfl : v = V.ref a := dv
    split at h
    · rename_i l e
      obtain ⟨f, xs, ho, r⟩ := s.cel a _ e
      exact q _ _ (.lst l) (Grow.new f) (s.frz f ho) ⟨a, xs, rfl, upd_same, r.mono (Grow.new f)⟩ h
    · rename_i l e
      obtain ⟨f, xs, ho, r⟩ := s.cel a _ e
      exact q _ _ (.dK _ _) (Grow.new f) (s.frz f ho) ⟨a, xs, rfl, upd_same, r.1, r.2.mono (Grow.new f)⟩ h
    · rename_i l e
      obtain ⟨f, xs, ho, r⟩ := s.cel a _ e
      exact q _ _ (.dT _ _) (Grow.new f) (s.frz f ho) ⟨a, xs, rfl, upd_same, r.1, r.2.mono (Grow.new f)⟩ h
    · rename_i C l e
      obtain ⟨f, dx, xs, ho, r⟩ := s.cel a _ e
      exact q _ _ (.ins C _ _) (Grow.new f) (s.frz f ho) ⟨a, dx, xs, rfl, upd_same, r.1, r.2.mono (Grow.new f)⟩ h
    · exact h.elim
  · exact q F μ d Grow.refl s dv h
theorem dn_frz (ha : Dn K W E ta wa) : Dn K W E ta (wFrz wa) := by
  intro F μ H ρ σ Q0 Q s h q
  refine ha F μ H ρ σ _ _ s h fun F1 μ1 H1 dx x g1 s1 dv1 h1 => ?_
  refine frz_ok s1.ok dv1 h1 fun F2 μ2 d2 g2 s2 dv2 h2 => ?_
  exact q F2 μ2 H1 d2 x (g1.trans g2) (s1.mono g2 s2) dv2 h2
theorem tB0_ok {F : Hp} {μ : Mu} {d : D} {v : V} {Q : Bool → Mu → Prop} (dv : DV K F d v) (h : tB0 d μ Q) : ∃ b, v = .bl b ∧ Q b μ := by
  unfold tB0 at h
  split at h
  · exact ⟨_, dv, h⟩
  · exact h.elim
theorem dn_te (ha : Dn K W E ta wa) : DnT K W E (tTest ta) (wTe wa) := by
  intro F μ H ρ σ Q0 Q s h q
  refine ha F μ H ρ σ _ _ s h fun F1 μ1 H1 dx x g1 s1 dv1 h1 => ?_
  obtain ⟨b, rfl, h2⟩ := tB0_ok dv1 h1
  exact ⟨b, rfl, q F1 μ1 H1 b g1 s1 h2⟩
theorem dn_teB (ha : Dn K W E ta wa) : DnT K W E (tB ta) (wTe wa) := dn_te ha
theorem dn_and (h1 : DnT K W E tt wt) (h2 : DnT K W E tu wu) : DnT K W E (tAnd tt tu) (wAnd wt wu) := by
  intro F μ H ρ σ Q0 Q s h q
  refine h1 F μ H ρ σ _ _ s h fun F1 μ1 H1 b g1 s1 q1 => ?_
  cases b with
  | true => rw [if_pos rfl] at *; exact h2 F1 μ1 H1 ρ σ _ _ s1 q1 fun F2 μ2 H2 b g2 => q F2 μ2 H2 b (g1.trans g2)
  | false => rw [if_neg Bool.false_ne_true] at *; exact q F1 μ1 H1 false g1 s1 q1
theorem dn_or (h1 : DnT K W E tt wt) (h2 : DnT K W E tu wu) : DnT K W E (tOr tt tu) (wOr wt wu) := by
  intro F μ H ρ σ Q0 Q s h q
  refine h1 F μ H ρ σ _ _ s h fun F1 μ1 H1 b g1 s1 q1 => ?_
  cases b with
  | true => rw [if_pos rfl] at *; exact q F1 μ1 H1 true g1 s1 q1
  | false => rw [if_neg Bool.false_ne_true] at *; exact h2 F1 μ1 H1 ρ σ _ _ s1 q1 fun F2 μ2 H2 b g2 => q F2 μ2 H2 b (g1.trans g2)
theorem dn_not (h1 : DnT K W E tt wt) : DnT K W E (tNot tt) (wNot wt) := by
  intro F μ H ρ σ Q0 Q s h q
  exact h1 F μ H ρ σ _ _ s h fun F1 μ1 H1 b g1 s1 q1 => q F1 μ1 H1 _ g1 s1 q1
theorem dn_andV (ha : Dn K W E ta wa) (hb : Dn K W E tb wb) : Dn K W E (tAndV ta tb) (wAndV wa wb) := by
  intro F μ H ρ σ Q0 Q s h q
  refine ha F μ H ρ σ _ _ s h fun F1 μ1 H1 dx x g1 s1 dv1 h1 => ?_
  obtain ⟨b, rfl, h2⟩ := tB0_ok dv1 h1
  refine ⟨b, rfl, ?_⟩
  cases b with
  | true => rw [if_pos rfl] at *; exact hb F1 μ1 H1 ρ σ _ _ s1 h2 (q.grow g1)
  | false => rw [if_neg Bool.false_ne_true] at *; exact q F1 μ1 H1 (.bl false) _ g1 s1 rfl h2
theorem dn_orV (ha : Dn K W E ta wa) (hb : Dn K W E tb wb) : Dn K W E (tOrV ta tb) (wOrV wa wb) := by
  intro F μ H ρ σ Q0 Q s h q
  refine ha F μ H ρ σ _ _ s h fun F1 μ1 H1 dx x g1 s1 dv1 h1 => ?_
  obtain ⟨b, rfl, h2⟩ := tB0_ok dv1 h1
  refine ⟨b, rfl, ?_⟩
  cases b with
  | true => rw [if_pos rfl] at *; exact q F1 μ1 H1 (.bl true) _ g1 s1 rfl h2
  | false => rw [if_neg Bool.false_ne_true] at *; exact hb F1 μ1 H1 ρ σ _ _ s1 h2 (q.grow g1)
theorem dn_notV (ha : Dn K W E ta wa) : Dn K W E (tNotV ta) (wNotV wa) := by
  intro F μ H ρ σ Q0 Q s h q
  refine ha F μ H ρ σ _ _ s h fun F1 μ1 H1 dx x g1 s1 dv1 h1 => ?_
  obtain ⟨b, rfl, h2⟩ := tB0_ok dv1 h1
  exact ⟨b, rfl, q F1 μ1 H1 (.bl (!b)) _ g1 s1 rfl h2⟩
theorem dn_ifE (ht : DnT K W E tt wt) (ha : Dn K W E ta wa) (hb : Dn K W E tb wb) : Dn K W E (tIf tt ta tb) (wIfE wt wa wb) := by
  intro F μ H ρ σ Q0 Q s h q
  refine ht F μ H ρ σ _ _ s h fun F1 μ1 H1 b g1 s1 h1 => ?_
  cases b with
  | true => rw [if_pos rfl] at *; exact ha F1 μ1 H1 ρ σ _ _ s1 h1 (q.grow g1)
  | false => rw [if_neg Bool.false_ne_true] at *; exact hb F1 μ1 H1 ρ σ _ _ s1 h1 (q.grow g1)
end
end DL
set_option maxHeartbeats 4000000
namespace DL
open PySem L2

/-! ### statements -/
def wNext : WS := fun D ρ μ => D.nx ρ μ
def wSeq (t u : WS) : WS := fun D ρ μ => t { D with nx := u D } ρ μ
def wBrk : WS := fun D ρ μ => D.bk ρ μ
def wCnt : WS := fun D ρ μ => D.ct ρ μ
def wDrop (a : WEx) : WS := fun D ρ μ => a ρ μ fun _ μ1 => D.nx ρ μ1
def wRet (a : WEx) : WS := fun D ρ μ => a ρ μ D.rt
def wRetN : WS := fun D _ μ => D.rt .non μ
def wIf (c : WT) (t u : WS) : WS := fun D ρ μ => c ρ μ fun b μ1 => if b = true then t D ρ μ1 else u D ρ μ1
def wNever : WS := fun _ _ _ => False
abbrev WG := D → En → Mu → (En → Mu → Prop) → Prop
abbrev WGs := List D → En → Mu → (En → Mu → Prop) → Prop
def wAsg (a : WEx) (g : WG) : WS := fun D ρ μ => a ρ μ fun d μ1 => g d ρ μ1 D.nx
def gN (i : Nat) : WG := fun d ρ μ N => N (ρ.set i (some d)) μ
def gNl : WGs := fun ds ρ μ N => match ds with
  | [] => N ρ μ
  | _ => False
def gCn (g : WG) (gs : WGs) : WGs := fun ds ρ μ N => match ds with
  | d :: r => g d ρ μ fun ρ1 μ1 => gs r ρ1 μ1 N
  | _ => False
/-- a, b = e -/
def gTp (n : Nat) (gs : WGs) : WG := fun d ρ μ N => match d with
  | .tup l => l.length = n ∧ gs l ρ μ N
  | _ => False
/-- a[i] = e -/
def gSb (f : D → D → D → Mu → (Mu → Prop) → Prop) (o i : WEx) : WG := fun d ρ μ N => o ρ μ fun x μ1 => i ρ μ1 fun y μ2 => f x y d μ2 fun μ3 => N ρ μ3
def wPar (i j : Nat) (a : WA) : WS := fun D ρ μ => a ρ μ fun ds μ1 => match ds with
  | [x, y] => D.nx ((ρ.set i (some x)).set j (some y)) μ1
  | _ => False
def wAug (i : Nat) (a : WEx) (f : D → D → Mu → (D → Mu → Prop) → Prop) : WS := fun D ρ μ => wVar i ρ μ fun x μ0 => a ρ μ0 fun y μ1 => f x y μ1 fun z μ2 => D.nx (ρ.set i (some z)) μ2
section
variable (K : PySem.W.Frag) (W : WX) (E : EX)
def DnG (g : TG) (w : WG) : Prop := ∀ F μ H ρ σ d v N0 N, S0 K W E F μ H ρ σ → DV K F d v → w d ρ μ N0 → PN K W E F N0 N → g v σ H N
def DnGs (g : TGs) (w : WGs) : Prop := ∀ F μ H ρ σ ds vs N0 N, S0 K W E F μ H ρ σ → DVs K F ds vs → w ds ρ μ N0 → PN K W E F N0 N → g vs σ H N
def DSet (t : TSet) (f : D → D → D → Mu → (Mu → Prop) → Prop) : Prop := ∀ F μ H o i v do' di dv (N0 : Mu → Prop) (N : Hp → Prop), Sok K F μ H → DV K F do' o → DV K F di i → DV K F dv v → f do' di dv μ N0 → (∀ F' μ' H', Grow F F' → Sok K F' μ' H' → N0 μ' → N H') → t o i v H N
end
section
variable {K : PySem.W.Frag} {W : WX} {E : EX} {ta tb te : TE} {wa wb : WEx} {tt : TT} {wt : WT} {tas : TA} {was : WA} {ts tu : TS} {ws wu : WS} {g : TG} {wg : WG} {gs : TGs} {wgs : WGs}
theorem dn_next : DnS K W E tNext wNext := fun F μ H ρ σ D0 Ds s h e => e.nx F μ H ρ σ Grow.refl s h
theorem dn_brk : DnS K W E tBreak wBrk := fun F μ H ρ σ D0 Ds s h e => e.bk F μ H ρ σ Grow.refl s h
theorem dn_cnt : DnS K W E tCont wCnt := fun F μ H ρ σ D0 Ds s h e => e.ct F μ H ρ σ Grow.refl s h
theorem dn_never : DnS K W E tNever wNever := fun F μ H ρ σ D0 Ds s h e => h.elim
theorem dn_seq (h1 : DnS K W E ts ws) (h2 : DnS K W E tu wu) : DnS K W E (tSeq ts tu) (wSeq ws wu) := by
  intro F μ H ρ σ D0 Ds s h e
  refine h1 F μ H ρ σ _ _ s h ⟨fun F1 μ1 H1 ρ1 σ1 g1 s1 q1 => ?_, e.rt, e.bk, e.ct⟩
  exact h2 F1 μ1 H1 ρ1 σ1 D0 Ds s1 q1 (e.grow g1)
theorem dn_drop (ha : Dn K W E ta wa) : DnS K W E (tDrop ta) (wDrop wa) := by
  intro F μ H ρ σ D0 Ds s h e
  exact ha F μ H ρ σ _ _ s h fun F1 μ1 H1 d v g1 s1 dv h1 => e.nx F1 μ1 H1 ρ σ g1 s1 h1
theorem dn_ret (ha : Dn K W E ta wa) : DnS K W E (tRet ta) (wRet wa) := by
  intro F μ H ρ σ D0 Ds s h e
  exact ha F μ H ρ σ _ _ s h fun F1 μ1 H1 d v g1 s1 dv h1 => e.rt F1 μ1 H1 d v g1 s1.ok dv h1
theorem dn_retN : DnS K W E tRetN wRetN := fun F μ H ρ σ D0 Ds s h e => e.rt F μ H .non .non Grow.refl s.ok rfl h
theorem dn_if (hc : DnT K W E tt wt) (h1 : DnS K W E ts ws) (h2 : DnS K W E tu wu) : DnS K W E (tIfS tt ts tu) (wIf wt ws wu) := by
  intro F μ H ρ σ D0 Ds s h e
  refine hc F μ H ρ σ _ _ s h fun F1 μ1 H1 b g1 s1 q1 => ?_
  cases b with
  | true => rw [if_pos rfl] at *; exact h1 F1 μ1 H1 ρ σ D0 Ds s1 q1 (e.grow g1)
  | false => rw [if_neg Bool.false_ne_true] at *; exact h2 F1 μ1 H1 ρ σ D0 Ds s1 q1 (e.grow g1)
theorem dn_asg (ha : Dn K W E ta wa) (hg : DnG K W E g wg) : DnS K W E (tAsg ta g) (wAsg wa wg) := by
  intro F μ H ρ σ D0 Ds s h e
  exact ha F μ H ρ σ _ _ s h fun F1 μ1 H1 d v g1 s1 dv h1 => hg F1 μ1 H1 ρ σ d v _ _ s1 dv h1 (e.nx.grow g1)
theorem dg_name {i : Nat} : DnG K W E (gName i) (gN i) := fun F μ H ρ σ d v N0 N s dv h n => n F μ H _ _ Grow.refl (s.set dv) h
theorem dg_nil : DnGs K W E gNil gNl := by
  intro F μ H ρ σ ds vs N0 N s dv h n
  unfold gNl at h
  split at h
  · exact ⟨dv, n F μ H ρ σ Grow.refl s h⟩
  · exact h.elim
theorem dg_cons (h1 : DnG K W E g wg) (h2 : DnGs K W E gs wgs) : DnGs K W E (gCons g gs) (gCn wg wgs) := by
  intro F μ H ρ σ ds vs N0 N s dv h n
  unfold gCn at h
  split at h
  · obtain ⟨v, r, rfl, d1, d2⟩ := dv
    exact ⟨v, r, rfl, h1 F μ H ρ σ _ v _ _ s d1 h fun F1 μ1 H1 ρ1 σ1 g1 s1 q1 => h2 F1 μ1 H1 ρ1 σ1 _ r _ _ s1 (d2.mono g1) q1 (n.grow g1)⟩
  · exact h.elim
theorem dg_tup {n : Nat} (h1 : DnGs K W E gs wgs) : DnG K W E (gTup K n gs) (gTp n wgs) := by
  intro F μ H ρ σ d v N0 N s dv h q
  unfold gTp at h
  split at h
  · obtain ⟨a, xs, rfl, r, dl⟩ := dv
    exact ⟨a, xs, rfl, (show Grow F H from s.ok.sub).st r, by rw [dl.len]; exact h.1, h1 F μ H ρ σ _ xs _ _ s dl h.2 q⟩
  · exact h.elim
theorem dg_sub {t : TSet} {f : D → D → D → Mu → (Mu → Prop) → Prop} (hf : DSet K t f) (ho : Dn K W E ta wa) (hi : Dn K W E tb wb) : DnG K W E (gSub ta tb t) (gSb f wa wb) := by
  intro F μ H ρ σ d v N0 N s dv h q
  refine ho F μ H ρ σ _ _ s h fun F1 μ1 H1 d1 v1 g1 s1 dv1 h1 => ?_
  refine hi F1 μ1 H1 ρ σ _ _ s1 h1 fun F2 μ2 H2 d2 v2 g2 s2 dv2 h2 => ?_
  refine hf F2 μ2 H2 _ _ _ _ _ _ _ _ s2.ok (dv1.mono g2) dv2 (dv.mono (g1.trans g2)) h2 fun F3 μ3 H3 g3 s3 h3 => ?_
  exact q F3 μ3 H3 ρ σ (g1.trans (g2.trans g3)) (s2.mono g3 s3) h3
theorem dn_par {i j : Nat} (ha : DnA K W E tas was) : DnS K W E (tPar i j tas) (wPar i j was) := by
  intro F μ H ρ σ D0 Ds s h e
  refine ha F μ H ρ σ _ _ s h fun F1 μ1 H1 ds vs g1 s1 dv h1 => ?_
  split at h1
  · obtain ⟨x, r, rfl, dx, y, r2, rfl, dy, rfl⟩ := dv
    exact ⟨x, y, rfl, e.nx F1 μ1 H1 _ _ g1 ((s1.set dx).set dy) h1⟩
  · exact h1.elim
theorem dn_aug {i : Nat} {ti : TIp} {f : D → D → Mu → (D → Mu → Prop) → Prop} (hf : DOp K ti f) (ha : Dn K W E ta wa) : DnS K W E (tAug i ta ti) (wAug i wa f) := by
  intro F μ H ρ σ D0 Ds s h e
  unfold wAug wVar at h
  split at h
  · rename_i d q
    obtain ⟨v, e1, dv⟩ := s.env.2 i d q
    refine ⟨v, e1, ha F μ H ρ σ _ _ s h fun F1 μ1 H1 d1 v1 g1 s1 dv1 h1 => ?_⟩
    refine hf F1 μ1 H1 v v1 d d1 _ _ s1.ok (dv.mono g1) dv1 h1 fun F2 μ2 H2 d2 v2 g2 s2 dv2 h2 => ?_
    exact e.nx F2 μ2 H2 _ _ (g1.trans g2) ((s1.mono g2 s2).set dv2) h2
  · exact h.elim

/-! ### loops -/
/-- less is known of slots and cells -/
def leE (ρ ρ' : En) : Prop := ρ.length = ρ'.length ∧ ∀ (i : Nat) (d : D), ρ[i]? = some (some d) → ρ'[i]? = some (some d)
theorem leE.refl {ρ : En} : leE ρ ρ := ⟨rfl, fun _ _ h => h⟩
/-- N of less knowledge -/
def wk (N : En → Mu → Prop) : En → Mu → Prop := fun ρ μ => ∃ ρ' μ', leE ρ' ρ ∧ le μ' μ ∧ N ρ' μ'
theorem wk.of {N : En → Mu → Prop} {ρ : En} {μ : Mu} (h : N ρ μ) : wk N ρ μ := ⟨ρ, μ, leE.refl, le.refl, h⟩
theorem wk.mu {N : En → Mu → Prop} {ρ : En} {μ μ' : Mu} (l : le μ' μ) (h : N ρ μ') : wk N ρ μ := ⟨ρ, μ', leE.refl, l, h⟩
theorem S0.wk {F H : Hp} {μ μ' : Mu} {ρ ρ' : En} {σ : L2.St} (s : S0 K W E F μ H ρ σ) (h1 : leE ρ' ρ) (h2 : le μ' μ) : S0 K W E F μ' H ρ' σ := ⟨s.ok.weak h2, s.env.le h1.1 h1.2, s.wok⟩
/-- while c: b -/
def wWhile (c : WT) (b : WS) : WS := fun D ρ μ => ∃ I : Nat → En → Mu → Prop, (∃ m, I m ρ μ) ∧ ∀ m ρ μ, I m ρ μ → c ρ μ fun k μ1 =>
  if k = true then b { D with nx := wk fun ρ' μ' => ∃ m', m' < m ∧ I m' ρ' μ', ct := wk fun ρ' μ' => ∃ m', m' < m ∧ I m' ρ' μ', bk := D.nx } ρ μ1 else D.nx ρ μ1
theorem dn_while (hc : DnT K W E tt wt) (hb : DnS K W E ts ws) : DnS K W E (tWhile tt ts) (wWhile wt ws) := by
  intro F μ H ρ σ D0 Ds s h e
  obtain ⟨I, ⟨m0, i0⟩, turn⟩ := h
  refine ⟨fun m σ' H' => ∃ F' μ' ρ', Grow F F' ∧ S0 K W E F' μ' H' ρ' σ' ∧ I m ρ' μ', ⟨m0, F, μ, ρ, Grow.refl, s, i0⟩, ?_⟩
  rintro m σ1 H1 ⟨F1, μ1, ρ1, g1, s1, i1⟩
  refine hc F1 μ1 H1 ρ1 σ1 _ _ s1 (turn m ρ1 μ1 i1) fun F2 μ2 H2 b g2 s2 q2 => ?_
  have e2 := (e.grow g1).grow g2
  cases b with
  | true =>
    rw [if_pos rfl] at *
    have again : PN K W E F2 (wk fun ρ' μ' => ∃ m', m' < m ∧ I m' ρ' μ') (fun σ' H' => ∃ m', m' < m ∧ ∃ F' μ' ρ', Grow F F' ∧ S0 K W E F' μ' H' ρ' σ' ∧ I m' ρ' μ') := fun F3 μ3 H3 ρ3 σ3 g3 s3 ⟨ρ4, μ4, l1, l2, m', hm, i'⟩ =>
      ⟨m', hm, F3, μ4, ρ4, g1.trans (g2.trans g3), s3.wk l1 l2, i'⟩
    exact ⟨fun σ' H' => ∃ m', m' < m ∧ ∃ F' μ' ρ', Grow F F' ∧ S0 K W E F' μ' H' ρ' σ' ∧ I m' ρ' μ', fun σ' H' h => h, hb F2 μ2 H2 ρ1 σ1 _ _ s2 q2 ⟨again, e2.rt, e2.nx, again⟩⟩
  | false =>
    rw [if_neg Bool.false_ne_true] at *
    exact e2.nx F2 μ2 H2 ρ1 σ1 Grow.refl s2 q2
/-- what a for walks: a list of data that stands (a list for good, a tuple, a range, a cell that is not changed) -/
inductive Wk where
  | fix (l : List D)
  | cell (a : Addr) (l : List D)
abbrev WI := En → Mu → (Wk → Mu → Prop) → Prop
def Wk.items : Wk → List D
  | .fix l => l
  | .cell _ l => l
def Wk.ok (μ : Mu) : Wk → Prop
  | .fix _ => True
  | .cell a l => μ a = some (.lst l)
/-- the walk J yields the items of k -/
structure WkOk (K : PySem.W.Frag) (J : It) (k : Wk) (F : Hp) : Prop where
  go : ∀ F' μ H (i : Nat), Grow F F' → Sok K F' μ H → k.ok μ → i < k.items.length → J.go i H
  yld : ∀ F' μ H (i : Nat) x H', Grow F F' → Sok K F' μ H → k.ok μ → i < k.items.length → J.yld i H x H' → ∃ F2 d, Grow F' F2 ∧ Sok K F2 μ H' ∧ k.items[i]? = some d ∧ DV K F2 d x
  stop : ∀ F' μ H (i : Nat), Grow F F' → Sok K F' μ H → k.ok μ → k.items.length ≤ i → J.stop i H
def DnI (K : PySem.W.Frag) (W : WX) (E : EX) (ti : TI) (wi : WI) : Prop := ∀ F μ H ρ σ (Q0 : Wk → Mu → Prop) (R : It → Hp → Prop), S0 K W E F μ H ρ σ → wi ρ μ Q0 → (∀ F' μ' H' J k, Grow F F' → S0 K W E F' μ' H' ρ σ → WkOk K J k F' → Q0 k μ' → R J H') → ti σ H R
/-- for g in ..: b -/
def wFor (wi : WI) (g : WG) (b : WS) : WS := fun D ρ μ => wi ρ μ fun k μ1 => ∃ I : Nat → En → Mu → Prop, I 0 ρ μ1 ∧ (∀ i ρ μ, I i ρ μ → k.ok μ) ∧
  (∀ i d ρ μ, k.items[i]? = some d → I i ρ μ → g d ρ μ fun ρ2 μ2 => b { D with nx := wk (I (i + 1)), ct := wk (I (i + 1)), bk := D.nx } ρ2 μ2) ∧ ∀ ρ μ, I k.items.length ρ μ → D.nx ρ μ
theorem dn_for {ti : TI} {wi : WI} (hi : DnI K W E ti wi) (hg : DnG K W E g wg) (hb : DnS K W E ts ws) : DnS K W E (tFor ti g ts) (wFor wi wg ws) := by
  intro F μ H ρ σ D0 Ds s h e
  refine hi F μ H ρ σ _ _ s h fun F1 μ1 H1 J k g1 s1 kk ⟨I, i0, hok, step, done⟩ => ?_
  refine ⟨fun i m σ' H' => m = k.items.length - i ∧ i ≤ k.items.length ∧ ∃ F' μ' ρ', Grow F1 F' ∧ S0 K W E F' μ' H' ρ' σ' ∧ I i ρ' μ', ⟨_, rfl, Nat.zero_le _, F1, μ1, ρ, Grow.refl, s1, i0⟩, ?_⟩
  rintro i m σ2 H2 ⟨rfl, hl, F2, μ2, ρ2, g2, s2, i2⟩
  have e2 := (e.grow g1).grow g2
  by_cases hlt : i < k.items.length
  · refine .inr ⟨kk.go F2 μ2 H2 i g2 s2.ok (hok i ρ2 μ2 i2) hlt, fun σ' H' => i + 1 ≤ k.items.length ∧ ∃ F' μ' ρ', Grow F1 F' ∧ S0 K W E F' μ' H' ρ' σ' ∧ I (i + 1) ρ' μ', fun σ' H' hN => ⟨k.items.length - (i + 1), by omega, rfl, hN.1, hN.2⟩, fun x H3 y => ?_⟩
    obtain ⟨F3, d, g3, s3, ed, dv⟩ := kk.yld F2 μ2 H2 i x H3 g2 s2.ok (hok i ρ2 μ2 i2) hlt y
    refine hg F3 μ2 H3 ρ2 σ2 d x _ _ (s2.mono g3 s3) dv (step i d ρ2 μ2 ed i2) fun F4 μ4 H4 ρ4 σ4 g4 s4 h4 => ?_
    have again : PN K W E F4 (wk (I (i + 1))) (fun σ' H' => i + 1 ≤ k.items.length ∧ ∃ F' μ' ρ', Grow F1 F' ∧ S0 K W E F' μ' H' ρ' σ' ∧ I (i + 1) ρ' μ') := fun F5 μ5 H5 ρ5 σ5 g5 s5 ⟨ρ6, μ6, l1, l2, i6⟩ =>
      ⟨hlt, F5, μ6, ρ6, g2.trans (g3.trans (g4.trans g5)), s5.wk l1 l2, i6⟩
    have e4 := (e2.grow g3).grow g4
    exact hb F4 μ4 H4 ρ4 σ4 _ _ s4 h4 ⟨again, e4.rt, e4.nx, again⟩
  · have ei : i = k.items.length := by omega
    subst ei
    exact .inl ⟨kk.stop F2 μ2 H2 _ g2 s2.ok (hok _ ρ2 μ2 i2) (Nat.le_refl _), e2.nx F2 μ2 H2 ρ2 σ2 Grow.refl s2 (done ρ2 μ2 i2)⟩
/-- what lists and tuples are walked by -/
def lv (μ : Mu) : D → Option (List D)
  | .lst l => some l
  | .mut a => match μ a with
    | some (.lst l) => some l
    | _ => none
  | _ => none
def iLs (a : WEx) : WI := fun ρ μ Q => a ρ μ fun d μ1 => match d with
  | .lst l => Q (.fix l) μ1
  | .mut a => match μ1 a with
    | some (.lst l) => Q (.cell a l) μ1
    | _ => False
  | _ => False
theorem SqL.inj_of {H : Hp} {a : Addr} {xs ys : List V} (h : H a = some (.lst xs)) (h' : SqL K H a ys) (hk : K.lookup a = none) : ys = xs := by
  rcases h' with (h' | ⟨o, h'⟩) | ⟨o, its, n, h', _⟩
  · rw [h] at h'; cases h'; rfl
  · rw [h] at h'; cases h'
  · rw [hk] at h'; cases h'
theorem di_list (ha : Dn K W E ta wa) : DnI K W E (iList K ta) (iLs wa) := by
  intro F μ H ρ σ Q0 R s h q
  refine ha F μ H ρ σ _ _ s h fun F1 μ1 H1 d v g1 s1 dv h1 => ?_
  split at h1
  · rename_i l
    obtain ⟨a, xs, rfl, r, dl⟩ := dv
    have gH : ∀ {F' H' : Hp} {μ' : Mu}, Sok K F' μ' H' → Grow F' H' := fun s => s.sub
    refine ⟨a, rfl, ⟨xs, SqL.of (gH s1.ok _ _ r)⟩, q F1 μ1 H1 (Itl K a) (.fix l) g1 s1 ⟨fun F' μ' H' i g s' _ hi => ?_, fun F' μ' H' i x H2 g s' _ hi y => ?_, fun F' μ' H' i g s' _ hi => ?_⟩ h1⟩
    · have hi' : i < xs.length := by rw [dl.len]; exact hi
      exact ⟨xs, xs[i], SqL.of (gH s' _ _ (g _ _ r)), List.getElem?_eq_getElem hi'⟩
    · obtain ⟨rfl, y⟩ := y
      obtain ⟨d, e1, e2⟩ := dl.back (y xs (SqL.of (gH s' _ _ (g _ _ r))))
      exact ⟨F', d, Grow.refl, s', e1, e2.mono g⟩
    · exact ⟨xs, SqL.of (gH s' _ _ (g _ _ r)), by rw [dl.len]; exact hi⟩
  · rename_i a
    obtain rfl : v = V.ref a := dv
    split at h1
    · rename_i l e
      obtain ⟨_, xs, ho, dl⟩ := s1.ok.cel a _ e
      refine ⟨a, rfl, ⟨xs, SqL.of ho⟩, q F1 μ1 H1 (Itl K a) (.cell a l) g1 s1 ⟨fun F' μ' H' i g s' k hi => ?_, fun F' μ' H' i x H2 g s' k hi y => ?_, fun F' μ' H' i g s' k hi => ?_⟩ h1⟩
      all_goals
        obtain ⟨_, ys, ho', dl'⟩ := s'.cel a _ (show μ' a = some (.lst l) from k)
      · have hi' : i < ys.length := by rw [dl'.len]; exact hi
        exact ⟨ys, ys[i], SqL.of ho', List.getElem?_eq_getElem hi'⟩
      · obtain ⟨rfl, y⟩ := y
        obtain ⟨d, e1, e2⟩ := dl'.back (y ys (SqL.of ho'))
        exact ⟨F', d, Grow.refl, s', e1, e2⟩
      · exact ⟨ys, SqL.of ho', by rw [dl'.len]; exact hi⟩
    · exact h1.elim
  · exact h1.elim
def iTp (a : WEx) : WI := fun ρ μ Q => a ρ μ fun d μ1 => match d with
  | .tup l => Q (.fix l) μ1
  | _ => False
theorem di_tup (ha : Dn K W E ta wa) : DnI K W E (iTup K ta) (iTp wa) := by
  intro F μ H ρ σ Q0 R s h q
  refine ha F μ H ρ σ _ _ s h fun F1 μ1 H1 d v g1 s1 dv h1 => ?_
  split at h1
  · rename_i l
    obtain ⟨a, xs, rfl, r, dl⟩ := dv
    have gH : ∀ {F' H' : Hp} {μ' : Mu}, Sok K F' μ' H' → Grow F' H' := fun s => s.sub
    refine ⟨a, rfl, ⟨xs, (gH s1.ok).st r⟩, q F1 μ1 H1 (Itt K a) (.fix l) g1 s1 ⟨fun F' μ' H' i g s' _ hi => ?_, fun F' μ' H' i x H2 g s' _ hi y => ?_, fun F' μ' H' i g s' _ hi => ?_⟩ h1⟩
    · have hi' : i < xs.length := by rw [dl.len]; exact hi
      exact ⟨xs, xs[i], (gH s').st (g _ _ r), List.getElem?_eq_getElem hi'⟩
    · obtain ⟨rfl, y⟩ := y
      obtain ⟨d, e1, e2⟩ := dl.back (y xs ((gH s').st (g _ _ r)))
      exact ⟨F', d, Grow.refl, s', e1, e2.mono g⟩
    · exact ⟨xs, (gH s').st (g _ _ r), by rw [dl.len]; exact hi⟩
  · exact h1.elim
/-- lo, lo + 1, .., n of them -/
def rng (lo : Int) (n : Nat) : List D := (List.range n).map fun i => D.int (lo + (i : Nat))
theorem rng_len (lo : Int) (n : Nat) : (rng lo n).length = n := by unfold rng; rw [List.length_map, List.length_range]
theorem rng_get {lo : Int} {n i : Nat} (h : i < n) : (rng lo n)[i]? = some (D.int (lo + (i : Nat))) := by
  unfold rng; rw [List.getElem?_map, List.getElem?_range h]; rfl
theorem wk_rng {lo : Int} {n : Nat} {F : Hp} : WkOk K (Itr lo n) (.fix (rng lo n)) F := by
  refine ⟨fun F' μ' H' i g s' _ hi => ?_, fun F' μ' H' i x H2 g s' _ hi y => ?_, fun F' μ' H' i g s' _ hi => ?_⟩
  all_goals
    have hi' := hi
    rw [show (Wk.fix (rng lo n)).items = rng lo n from rfl, rng_len] at hi'
  · exact hi'
  · obtain ⟨rfl, rfl⟩ := y
    exact ⟨F', _, Grow.refl, s', rng_get hi', rfl⟩
  · exact hi'
def iR1 (a : WA) : WI := fun ρ μ Q => a ρ μ fun ds μ1 => match ds with
  | [.int j] => (-(2 ^ 62) ≤ j ∧ j < 2 ^ 62) ∧ Q (.fix (rng 0 j.toNat)) μ1
  | _ => False
def iR2 (a : WA) : WI := fun ρ μ Q => a ρ μ fun ds μ1 => match ds with
  | [.int i, .int j] => (-(2 ^ 62) ≤ i ∧ i < 2 ^ 62 ∧ -(2 ^ 62) ≤ j ∧ j < 2 ^ 62) ∧ Q (.fix (rng i (j - i).toNat)) μ1
  | _ => False
theorem di_r1 (ha : DnA K W E tas was) : DnI K W E (iRng1 tas) (iR1 was) := by
  intro F μ H ρ σ Q0 R s h q
  refine ha F μ H ρ σ _ _ s h fun F1 μ1 H1 ds vs g1 s1 dv h1 => ?_
  split at h1
  · rename_i j
    obtain ⟨x, r, rfl, dx, rfl⟩ := dv
    obtain rfl : x = V.int j := dx
    exact ⟨j, rfl, h1.1.1, h1.1.2, q F1 μ1 H1 _ _ g1 s1 wk_rng h1.2⟩
  · exact h1.elim
theorem di_r2 (ha : DnA K W E tas was) : DnI K W E (iRng2 tas) (iR2 was) := by
  intro F μ H ρ σ Q0 R s h q
  refine ha F μ H ρ σ _ _ s h fun F1 μ1 H1 ds vs g1 s1 dv h1 => ?_
  split at h1
  · rename_i i j
    obtain ⟨x, r, rfl, dx, y, r2, rfl, dy, rfl⟩ := dv
    obtain rfl : x = V.int i := dx
    obtain rfl : y = V.int j := dy
    exact ⟨i, j, rfl, h1.1, q F1 μ1 H1 _ _ g1 s1 wk_rng h1.2⟩
  · exact h1.elim
end

/-! ### operations on data -/
abbrev F2 := D → D → Mu → (D → Mu → Prop) → Prop
/-- on two ints -/
def fI (C : Int → Int → Prop) (g : Int → Int → D) : F2 := fun x y μ Q => match x, y with
  | .int i, .int j => C i j ∧ Q (g i j) μ
  | _, _ => False
def fI0 (g : Int → Int → D) : F2 := fun x y μ Q => match x, y with
  | .int i, .int j => Q (g i j) μ
  | _, _ => False
def toV : D → V
  | .non => .non | .bl b => .bl b | .int i => .int i | .str x => .str x | _ => .non
def flat : D → Bool
  | .non => true | .bl _ => true | .int _ => true | .str _ => true | _ => false
section
variable {K : PySem.W.Frag}
theorem dv_flat {F : Hp} {d : D} {v : V} (h : flat d = true) (dv : DV K F d v) : v = toV d := by
  cases d with
  | non => exact dv
  | bl b => exact dv
  | int i => exact dv
  | str x => exact dv
  | _ => cases h
theorem flat_dv {F : Hp} {d : D} (h : flat d = true) : DV K F d (toV d) := by
  cases d with
  | non => exact rfl
  | bl b => exact rfl
  | int i => exact rfl
  | str x => exact rfl
  | _ => cases h
theorem do_I {C : Int → Int → Prop} {g : Int → Int → D} (hg : ∀ i j, flat (g i j) = true) : DOp K (rI C fun i j => toV (g i j)) (fI C g) := by
  intro F μ H x y dx dy Q0 Q s d1 d2 h q
  unfold fI at h
  split at h
  · exact ⟨_, _, d1, d2, h.1, q F μ H _ _ Grow.refl s (flat_dv (hg _ _)) h.2⟩
  · exact h.elim
theorem do_I0 {g : Int → Int → D} (hg : ∀ i j, flat (g i j) = true) : DOp K (rI0 fun i j => toV (g i j)) (fI0 g) := by
  intro F μ H x y dx dy Q0 Q s d1 d2 h q
  unfold fI0 at h
  split at h
  · exact ⟨_, _, d1, d2, q F μ H _ _ Grow.refl s (flat_dv (hg _ _)) h⟩
  · exact h.elim
def fAdd : F2 := fI0 fun i j => .int (i + j)
def fSub : F2 := fI0 fun i j => .int (i - j)
/-- a product that the model makes -/
structure MulOk (i j : Int) : Prop where
  ok : IntMulOk i j
def fMul : F2 := fI MulOk fun i j => .int (i * j)
def fLt : F2 := fI0 fun i j => .bl (decide (i < j))
def fLe : F2 := fI0 fun i j => .bl (decide (i ≤ j))
def fGt : F2 := fI0 fun i j => .bl (decide (j < i))
def fGe : F2 := fI0 fun i j => .bl (decide (j ≤ i))
def fMod : F2 := fI (fun _ j => 0 < j) fun i j => .int (i % j)
def fModN : F2 := fI (fun _ j => j ≠ 0) fun i j => .int (i.fmod j)
def fPow : F2 := fI CPow fun i j => .int (i ^ j.toNat)
def fDiv : F2 := fI CDivW fun i j => .int (i / j)
theorem do_add : DOp K (rI0 fun i j => .int (i + j)) fAdd := do_I0 fun _ _ => rfl
theorem do_sub : DOp K (rI0 fun i j => .int (i - j)) fSub := do_I0 fun _ _ => rfl
theorem do_lt : DOp K (rI0 fun i j => .bl (decide (i < j))) fLt := do_I0 fun _ _ => rfl
theorem do_le : DOp K (rI0 fun i j => .bl (decide (i ≤ j))) fLe := do_I0 fun _ _ => rfl
theorem do_gt : DOp K (rI0 fun i j => .bl (decide (j < i))) fGt := do_I0 fun _ _ => rfl
theorem do_ge : DOp K (rI0 fun i j => .bl (decide (j ≤ i))) fGe := do_I0 fun _ _ => rfl
theorem do_mul : DOp K (rI MulOk fun i j => .int (i * j)) fMul := do_I fun _ _ => rfl
theorem op_mulA {X : Cx} : OpR X (binaryOp .Mult) (rI MulOk fun i j => .int (i * j)) := opI fun _ _ _ _ _ _ _ hc q => PyProof.Rows.mul_int q hc.ok
theorem do_mod : DOp K (rI (fun _ j => 0 < j) fun i j => .int (i % j)) fMod := do_I fun _ _ => rfl
theorem do_modN : DOp K (rI (fun _ j => j ≠ 0) fun i j => .int (i.fmod j)) fModN := do_I fun _ _ => rfl
theorem do_pow : DOp K (rI CPow fun i j => .int (i ^ j.toNat)) fPow := do_I fun _ _ => rfl
theorem do_div : DOp K (rI CDivW fun i j => .int (i / j)) fDiv := do_I fun _ _ => rfl
def fNeg (x : D) (μ : Mu) (Q : D → Mu → Prop) : Prop := match x with
  | .int i => Q (.int (-i)) μ
  | _ => False
theorem du_neg : DUn K (rU fun i => .int (-i)) fNeg := by
  intro F μ H x dx Q0 Q s d1 h q
  unfold fNeg at h
  split at h
  · exact ⟨_, d1, q F μ H (.int _) _ Grow.refl s rfl h⟩
  · exact h.elim
/-- == of two flat things of one kind -/
def scalD : D → D → Bool
  | .non, .non => true | .bl _, .bl _ => true | .int _, .int _ => true | .str _, .str _ => true | _, _ => false
def eqF : D → D → Bool
  | .non, .non => true | .bl a, .bl b => a == b | .int a, .int b => a == b | .str a, .str b => a == b | _, _ => false
def fEq : F2 := fun x y μ Q => scalD x y = true ∧ Q (.bl (eqF x y)) μ
def fNe : F2 := fun x y μ Q => scalD x y = true ∧ Q (.bl (!eqF x y)) μ
theorem scal_ok {F : Hp} {x y : D} {v u : V} (h : scalD x y = true) (d1 : DV K F x v) (d2 : DV K F y u) : scal v u = true ∧ decide (v = u) = eqF x y := by
  cases x <;> cases y <;> first | (cases h; done) | skip
  all_goals (obtain rfl : v = _ := d1; obtain rfl : u = _ := d2)
  all_goals first | exact ⟨rfl, dec_int⟩ | exact ⟨rfl, dec_bl⟩ | exact ⟨rfl, dec_str⟩ | exact ⟨rfl, by simp [eqF]⟩
theorem do_eq : DOp K rEq fEq := by
  intro F μ H x y dx dy Q0 Q s d1 d2 h q
  obtain ⟨e1, e2⟩ := scal_ok h.1 d1 d2
  exact ⟨e1, by rw [e2]; exact q F μ H (.bl _) _ Grow.refl s rfl h.2⟩
theorem do_ne : DOp K rNe fNe := by
  intro F μ H x y dx dy Q0 Q s d1 d2 h q
  obtain ⟨e1, e2⟩ := scal_ok h.1 d1 d2
  exact ⟨e1, by rw [e2]; exact q F μ H (.bl _) _ Grow.refl s rfl h.2⟩
/-- x is None -/
def isN : D → Bool
  | .non => true | _ => false
def fIsN : F2 := fun x y μ Q => match y with
  | .non => Q (.bl (isN x)) μ
  | _ => False
def fNotN : F2 := fun x y μ Q => match y with
  | .non => Q (.bl (!isN x)) μ
  | _ => False
theorem isN_ok {F : Hp} {d : D} {v : V} (dv : DV K F d v) : decide (v = .non) = isN d := by
  cases d with
  | non => rw [show v = V.non from dv]; rfl
  | bl b => rw [show v = V.bl b from dv]; rfl
  | int b => rw [show v = V.int b from dv]; rfl
  | str b => rw [show v = V.str b from dv]; rfl
  | «mut» b => rw [show v = V.ref b from dv]; rfl
  | tup l => obtain ⟨a, xs, rfl, _⟩ := dv; rfl
  | lst l => obtain ⟨a, xs, rfl, _⟩ := dv; rfl
  | lsr l => obtain ⟨a, xs, rfl, _⟩ := dv; rfl
  | dK k l => obtain ⟨a, xs, rfl, _⟩ := dv; rfl
  | dT k l => obtain ⟨a, xs, rfl, _⟩ := dv; rfl
  | ins C k l => obtain ⟨a, dx, xs, rfl, _⟩ := dv; rfl
  | exc a d ks l => rw [show v = V.ref a from dv.1]; rfl
  | ob a o => rw [show v = V.ref a from dv.1]; rfl
theorem do_isN : DOp K (fun x y H Q => y = .non ∧ Q (.bl (decide (x = .non))) H) fIsN := by
  intro F μ H x y dx dy Q0 Q s d1 d2 h q
  unfold fIsN at h
  split at h
  · exact ⟨d2, by rw [isN_ok d1]; exact q F μ H (.bl _) _ Grow.refl s rfl h⟩
  · exact h.elim
theorem do_notN : DOp K (fun x y H Q => y = .non ∧ Q (.bl (!decide (x = .non))) H) fNotN := by
  intro F μ H x y dx dy Q0 Q s d1 d2 h q
  unfold fNotN at h
  split at h
  · exact ⟨d2, by rw [isN_ok d1]; exact q F μ H (.bl _) _ Grow.refl s rfl h⟩
  · exact h.elim
/-- xs[i] of a list, a tuple -/
def sv (μ : Mu) : D → Option (List D)
  | .tup l => some l
  | .lst l => some l
  | .mut a => match μ a with
    | some (.lst l) => some l
    | _ => none
  | _ => none
def fIx : F2 := fun x y μ Q => match y with
  | .int i => match sv μ x with
    | some l => match atI l i with
      | some d => Q d μ
      | none => False
    | none => False
  | _ => False
theorem atI_dv {F : Hp} {l : List D} {xs : List V} {i : Int} {d : D} (h : DVs K F l xs) (e : atI l i = some d) : ∃ v, atI xs i = some v ∧ DV K F d v := by
  unfold atI at *
  rw [h.len]
  cases q : ixN l.length i with
  | none => rw [q] at e; cases e
  | some j =>
    rw [q] at e
    exact h.get (i := j) e
theorem do_ix : DOp K (rIx K) fIx := by
  intro F μ H x y dx dy Q0 Q s d1 d2 h q
  unfold fIx at h
  split at h
  · rename_i i
    split at h
    · rename_i l el
      split at h
      · rename_i d ed
        have gH : Grow F H := s.sub
        obtain rfl : y = V.int i := d2
        unfold sv at el
        split at el
        · cases el
          obtain ⟨a, xs, rfl, r, dl⟩ := d1
          obtain ⟨v, e1, e2⟩ := atI_dv dl ed
          exact .inr (.inl ⟨a, xs, i, v, rfl, rfl, gH.st r, e1, q F μ H d v Grow.refl s e2 h⟩)
        · cases el
          obtain ⟨a, xs, rfl, r, dl⟩ := d1
          obtain ⟨v, e1, e2⟩ := atI_dv dl ed
          exact .inl ⟨a, xs, i, v, rfl, rfl, SqL.of (gH _ _ r), e1, q F μ H d v Grow.refl s e2 h⟩
        · rename_i a
          split at el
          · rename_i l' em
            cases el
            obtain rfl : x = V.ref a := d1
            obtain ⟨_, xs, ho, dl⟩ := s.cel a _ em
            obtain ⟨v, e1, e2⟩ := atI_dv dl ed
            exact .inl ⟨a, xs, i, v, rfl, rfl, SqL.of ho, e1, q F μ H d v Grow.refl s e2 h⟩
          · cases el
        · cases el
      · exact h.elim
    · exact h.elim
  · exact h.elim
/-- len of a list, a tuple -/
def fLen (ds : List D) (μ : Mu) (Q : D → Mu → Prop) : Prop := match ds with
  | [x] => match sv μ x with
    | some l => Q (.int (l.length : Nat)) μ
    | none => False
  | _ => False
theorem sv_ok {F H : Hp} {μ : Mu} {x : D} {v : V} {l : List D} (s : Sok K F μ H) (dv : DV K F x v) (e : sv μ x = some l) : ∃ a xs, v = .ref a ∧ (SqL K H a xs ∨ SqT K H a xs) ∧ DVs K F l xs := by
  have gH : Grow F H := s.sub
  unfold sv at e
  split at e
  · cases e
    obtain ⟨a, xs, rfl, r, dl⟩ := dv
    exact ⟨a, xs, rfl, .inr (gH.st r), dl⟩
  · cases e
    obtain ⟨a, xs, rfl, r, dl⟩ := dv
    exact ⟨a, xs, rfl, .inl (SqL.of (gH _ _ r)), dl⟩
  · rename_i a
    split at e
    · rename_i l' em
      cases e
      obtain rfl : v = V.ref a := dv
      obtain ⟨_, xs, ho, dl⟩ := s.cel a _ em
      exact ⟨a, xs, rfl, .inl (SqL.of ho), dl⟩
    · cases e
  · cases e
theorem dc_len : DCa K (fun xs H Q => ∃ p ys, xs = [.ref p] ∧ (SqL K H p ys ∨ SqT K H p ys) ∧ Q (.int ys.length) H) fLen := by
  intro F μ H vs ds Q0 Q s dv h q
  unfold fLen at h
  split at h
  · split at h
    · rename_i l el
      obtain ⟨v, r, rfl, d1, rfl⟩ := dv
      obtain ⟨a, xs, rfl, r, dl⟩ := sv_ok s d1 el
      exact ⟨a, xs, rfl, r, by rw [dl.len]; exact q F μ H (.int _) _ Grow.refl s rfl h⟩
    · exact h.elim
  · exact h.elim
/-- list(xs): a new cell -/
def fList (ds : List D) (μ : Mu) (Q : D → Mu → Prop) : Prop := match ds with
  | [x] => match sv μ x with
    | some l => ∀ p, μ p = none → Q (.mut p) (um μ p (.lst l))
    | none => False
  | _ => False
theorem dc_list : DCa K (fun xs H Q => ∃ p ys, xs = [.ref p] ∧ (SqL K H p ys ∨ SqT K H p ys) ∧ ∀ l, H l = none → Q (.ref l) (upd H l (.lst ys))) fList := by
  intro F μ H vs ds Q0 Q s dv h q
  unfold fList at h
  split at h
  · split at h
    · rename_i l el
      obtain ⟨v, r, rfl, d1, rfl⟩ := dv
      obtain ⟨a, xs, rfl, r, dl⟩ := sv_ok s d1 el
      refine ⟨a, xs, rfl, r, fun p hp => ?_⟩
      have f := s.free hp
      exact q F _ _ (.mut p) _ Grow.refl (s.cell (m := .lst l) f.1 ⟨xs, upd_same, dl⟩) rfl (h p f.2)
    · exact h.elim
  · exact h.elim
def fAbs (ds : List D) (μ : Mu) (Q : D → Mu → Prop) : Prop := match ds with
  | [.int i] => Q (.int (i.natAbs : Nat)) μ
  | _ => False
theorem dc_abs : DCa K (fun xs H Q => ∃ i, xs = [.int i] ∧ Q (.int (if i < 0 then -i else i)) H) fAbs := by
  intro F μ H vs ds Q0 Q s dv h q
  unfold fAbs at h
  split at h
  · rename_i i
    obtain ⟨v, r, rfl, d1, rfl⟩ := dv
    obtain rfl : v = V.int i := d1
    refine ⟨i, rfl, ?_⟩
    have e : (if i < 0 then -i else i) = (i.natAbs : Nat) := by split <;> omega
    rw [e]
    exact q F μ H (.int _) _ Grow.refl s rfl h
  · exact h.elim
def fInt (ds : List D) (μ : Mu) (Q : D → Mu → Prop) : Prop := match ds with
  | [.int i] => Q (.int i) μ
  | _ => False
theorem dc_int : DCa K (fun xs H Q => (∃ i, xs = [.int i] ∧ Q (.int i) H) ∨ ∃ k, xs = [.bl k] ∧ Q (.int (if k then 1 else 0)) H) fInt := by
  intro F μ H vs ds Q0 Q s dv h q
  unfold fInt at h
  split at h
  · rename_i i
    obtain ⟨v, r, rfl, d1, rfl⟩ := dv
    obtain rfl : v = V.int i := d1
    exact .inl ⟨i, rfl, q F μ H (.int _) _ Grow.refl s rfl h⟩
  · exact h.elim
/-- xs[i] = e of a cell -/
def fSetL (o i v : D) (μ : Mu) (N : Mu → Prop) : Prop := match o, i with
  | .mut a, .int k => match μ a with
    | some (.lst l) => match ixN l.length k with
      | some j => N (um μ a (.lst (l.set j v)))
      | none => False
    | _ => False
  | _, _ => False
theorem ds_setL : DSet K rSetL fSetL := by
  intro F μ H o i v do' di dv N0 N s d1 d2 d3 h q
  unfold fSetL at h
  split at h
  · rename_i a k
    split at h
    · rename_i l em
      split at h
      · rename_i j ej
        obtain rfl : o = V.ref a := d1
        obtain rfl : i = V.int k := d2
        obtain ⟨f, xs, ho, dl⟩ := s.cel a _ em
        refine ⟨a, xs, k, j, rfl, rfl, ho, by rw [dl.len]; exact ej, ?_⟩
        exact q F _ _ Grow.refl (s.cell (m := .lst _) f ⟨_, upd_same, dl.set j d3⟩) h
      · exact h.elim
    · exact h.elim
  · exact h.elim
/-- xs.append(e) -/
def fApp (o : D) (ds : List D) (μ : Mu) (Q : D → Mu → Prop) : Prop := match o, ds with
  | .mut a, [d] => match μ a with
    | some (.lst l) => l.length < 100000 ∧ Q .non (um μ a (.lst (l ++ [d])))
    | _ => False
  | _, _ => False
def fPop (o : D) (ds : List D) (μ : Mu) (Q : D → Mu → Prop) : Prop := match o, ds with
  | .mut a, [] => match μ a with
    | some (.lst l) => match l.getLast? with
      | some d => Q d (um μ a (.lst l.dropLast))
      | none => False
    | _ => False
  | _, _ => False
/-- a method of a cell that is a list -/
def wMeL (f : D → List D → Mu → (D → Mu → Prop) → Prop) (o : WEx) (a : WA) : WEx := fun ρ μ Q => o ρ μ fun x μ1 => (∃ p l, x = .mut p ∧ μ1 p = some (.lst l)) ∧ a ρ μ1 fun ds μ2 => f x ds μ2 Q
theorem ty_list {W : WX} {E : EX} {F H : Hp} {μ : Mu} {ρ : En} {σ : L2.St} {x : D} {v : V} (s : Sok K F μ H) (dv : DV K F x v) (h : ∃ p l, x = .mut p ∧ μ p = some (.lst l)) : tyV K "list" v H := by
  obtain ⟨p, l, rfl, e⟩ := h
  obtain rfl : v = V.ref p := dv
  obtain ⟨_, xs, ho, _⟩ := s.cel p _ e
  exact Or.inl ⟨rfl, xs, Or.inl (Or.inl ho)⟩
theorem dn_meL {W : WX} {E : EX} {r : V → List V → Hp → VK → Prop} {f : D → List D → Mu → (D → Mu → Prop) → Prop} {to : TE} {wo : WEx} {tas : TA} {was : WA} (hf : DMe K r f) (ho : Dn K W E to wo) (ha : DnA K W E tas was) : Dn K W E (tBM K "list" r to tas) (wMeL f wo was) := by
  intro F μ H ρ σ Q0 Q s h q
  refine ho F μ H ρ σ _ _ s h fun F1 μ1 H1 dx x g1 s1 dv1 ⟨hm, h1⟩ => ?_
  refine ⟨ty_list (W := W) (E := E) (ρ := ρ) (σ := σ) s1.ok dv1 hm, ha F1 μ1 H1 ρ σ _ _ s1 h1 fun F2 μ2 H2 ds vs g2 s2 dv2 h2 => ?_⟩
  refine hf F2 μ2 H2 x vs dx ds Q0 Q s2.ok (dv1.mono g2) dv2 h2 fun F3 μ3 H3 d v g3 s3 dv h3 => ?_
  exact q F3 μ3 H3 d v (g1.trans (g2.trans g3)) (s2.mono g3 s3) dv h3
theorem dn_meL0 {W : WX} {E : EX} {r : V → List V → Hp → VK → Prop} {f : D → List D → Mu → (D → Mu → Prop) → Prop} {to : TE} {wo : WEx} (hf : DMe K r f) (ho : Dn K W E to wo) : Dn K W E (tBM0 K "list" r to) (wMeL f wo wNil) := by
  intro F μ H ρ σ Q0 Q s h q
  refine ho F μ H ρ σ _ _ s h fun F1 μ1 H1 dx x g1 s1 dv1 ⟨hm, h1⟩ => ?_
  refine ⟨ty_list (W := W) (E := E) (ρ := ρ) (σ := σ) s1.ok dv1 hm, ?_⟩
  refine hf F1 μ1 H1 x [] dx [] Q0 Q s1.ok dv1 rfl h1 fun F3 μ3 H3 d v g3 s3 dv h3 => ?_
  exact q F3 μ3 H3 d v (g1.trans g3) (s1.mono g3 s3) dv h3
theorem dm_app : DMe K rAppend fApp := by
  intro F μ H x vs dx ds Q0 Q s d1 d2 h q
  unfold fApp at h
  split at h
  · rename_i a d
    split at h
    · rename_i l em
      obtain rfl : x = V.ref a := d1
      obtain ⟨y, r, rfl, dy, rfl⟩ := d2
      obtain ⟨f, xs, ho, dl⟩ := s.cel a _ em
      refine ⟨a, xs, y, rfl, rfl, ho, sz5l (by rw [dl.len]; exact h.1), ?_⟩
      exact q F _ _ .non _ Grow.refl (s.cell (m := .lst _) f ⟨_, upd_same, dl.append (DVs.cons dy DVs.nil)⟩) rfl h.2
    · exact h.elim
  · exact h.elim
theorem dm_pop : DMe K rPop fPop := by
  intro F μ H x vs dx ds Q0 Q s d1 d2 h q
  unfold fPop at h
  split at h
  · rename_i a
    split at h
    · rename_i l em
      split at h
      · rename_i d ed
        obtain rfl : x = V.ref a := d1
        obtain rfl : vs = [] := d2
        obtain ⟨f, xs, ho, dl⟩ := s.cel a _ em
        rw [List.getLast?_eq_getElem?] at ed
        obtain ⟨y, e1, dy⟩ := dl.get ed
        refine ⟨a, xs, y, rfl, rfl, ho, by rw [dl.len]; exact e1, ?_⟩
        exact q F _ _ d _ Grow.refl (s.cell (m := .lst _) f ⟨_, upd_same, dl.dropLast⟩) dy h
      · exact h.elim
    · exact h.elim
  · exact h.elim
end
end DL
set_option maxHeartbeats 4000000
namespace DL
open PySem L2 PySem.Spec PyProof.Rows

/-! ### syntax and what it does, over data -/
structure DE (X : Cx) (W : WX) (E : EX) (e : Expr) (t : TE) (w : WEx) : Prop where
  pe : PE X e t
  dn : Dn X.K W E t w
structure DT (X : Cx) (W : WX) (E : EX) (e : Expr) (t : TT) (w : WT) : Prop where
  pe : PT X e t
  dn : DnT X.K W E t w
structure DWt (X : Cx) (W : WX) (E : EX) (e : Expr) (t : TT) (w : WT) : Prop where
  pe : PW X e t
  dn : DnT X.K W E t w
structure DA (X : Cx) (W : WX) (E : EX) (es : List Expr) (t : TA) (w : WA) : Prop where
  pe : PA X es t
  dn : DnA X.K W E t w
structure DS (X : Cx) (W : WX) (E : EX) (st : Stmt) (t : TS) (w : WS) : Prop where
  pe : PS X st t
  dn : DnS X.K W E t w
structure DSs (X : Cx) (W : WX) (E : EX) (st : List Stmt) (t : TS) (w : WS) : Prop where
  pe : PSs X st t
  dn : DnS X.K W E t w
structure DGt (X : Cx) (W : WX) (E : EX) (e : Expr) (t : TG) (w : WG) : Prop where
  pe : PG X e t
  dn : DnG X.K W E t w
structure DGl (X : Cx) (W : WX) (E : EX) (es : List Expr) (t : TGs) (w : WGs) : Prop where
  pe : PGs X es t
  dn : DnGs X.K W E t w
structure DIt (X : Cx) (W : WX) (E : EX) (tg iter : Expr) (t : TI) (w : WI) : Prop where
  pe : PI X tg iter t
  dn : DnI X.K W E t w
section
variable {X : Cx} {W : WX} {E : EX} {a b c d e o i : Expr} {ta tb tc te td : TE} {wa wb wc we wd : WEx} {tt tu : TT} {wt wu : WT} {es : List Expr} {tas : TA} {was : WA} {ts tv : TS} {ws wv : WS} {g : TG} {wg : WG} {gs : TGs} {wgs : WGs} {pos : Pos} {st : Stmt} {p q r : List Stmt}
theorem ev (i : Nat) {x : Str} (hN : X.N[i]? = some x := by rfl) (hv : Vis X.env.scope x := by first | exact Or.inl rfl | exact Or.inr (Or.inl rfl) | exact Or.inr (Or.inr rfl)) (hd : (x == ("__debug__" : Str)) = false := by decide)
    (hcd : (x == ("__classdict__" : Str)) = false := by decide) : DE X W E (.Name x pos) (tVar i) (wVar i) := ⟨pe_var hN hv hd hcd, dn_var⟩
theorem ei {j : Int} {n} : DE X W E (.Constant (.int j) n pos) (tC (.int j)) (wC (.int j)) := ⟨pe_int, dn_int⟩
theorem eb {j : Bool} {n} : DE X W E (.Constant (.bool j) n pos) (tC (.bl j)) (wC (.bl j)) := ⟨pe_bl, dn_bl⟩
theorem en {n} : DE X W E (.Constant .none n pos) (tC .non) (wC .non) := ⟨pe_non, dn_non⟩
theorem es' {x : Str} {n} : DE X W E (.Constant (.str x) n pos) (tC (.str x)) (wC (.str x)) := ⟨pe_str, dn_str⟩
theorem eg {x : Str} {v : V} {u : Value} {dd : D} (hg : Gl X x) (hm : X.mg x = some u) (r : RelV v u) (hf : flat dd = true) (hv : toV dd = v) (hd : (x == ("__debug__" : Str)) = false := by decide) : DE X W E (.Name x pos) (tC v) (wC dd) :=
  ⟨pe_glob hg hm r hd, fun F μ H ρ σ Q0 Q s h q => q F μ H dd v Grow.refl s (by rw [← hv]; exact flat_dv hf) h⟩
theorem eo {op : Operator} {r : R2} {f : F2} (ho : OpR X (binaryOp op) r) (hf : DOp X.K r f) (ha : DE X W E a ta wa) (hb : DE X W E b tb wb) : DE X W E (.BinOp a op b pos) (tOp r ta tb) (wOp f wa wb) := ⟨pe_op ho ha.pe hb.pe, dn_op hf ha.dn hb.dn⟩
theorem eadd (ha : DE X W E a ta wa) (hb : DE X W E b tb wb) : DE X W E (.BinOp a .Add b pos) (tOp (rI0 fun i j => .int (i + j)) ta tb) (wOp fAdd wa wb) := eo op_add do_add ha hb
theorem esub (ha : DE X W E a ta wa) (hb : DE X W E b tb wb) : DE X W E (.BinOp a .Sub b pos) (tOp (rI0 fun i j => .int (i - j)) ta tb) (wOp fSub wa wb) := eo op_sub do_sub ha hb
theorem emul (ha : DE X W E a ta wa) (hb : DE X W E b tb wb) : DE X W E (.BinOp a .Mult b pos) (tOp (rI MulOk fun i j => .int (i * j)) ta tb) (wOp fMul wa wb) := eo op_mulA do_mul ha hb
theorem emod (ha : DE X W E a ta wa) (hb : DE X W E b tb wb) : DE X W E (.BinOp a .Mod b pos) (tOp (rI (fun _ j => 0 < j) fun i j => .int (i % j)) ta tb) (wOp fMod wa wb) := eo op_mod do_mod ha hb
theorem emodN (ha : DE X W E a ta wa) (hb : DE X W E b tb wb) : DE X W E (.BinOp a .Mod b pos) (tOp (rI (fun _ j => j ≠ 0) fun i j => .int (i.fmod j)) ta tb) (wOp fModN wa wb) := eo op_modN do_modN ha hb
theorem epow (ha : DE X W E a ta wa) (hb : DE X W E b tb wb) : DE X W E (.BinOp a .Pow b pos) (tOp (rI CPow fun i j => .int (i ^ j.toNat)) ta tb) (wOp fPow wa wb) := eo op_pow do_pow ha hb
theorem ediv (ha : DE X W E a ta wa) (hb : DE X W E b tb wb) : DE X W E (.BinOp a .FloorDiv b pos) (tOp (rI CDivW fun i j => .int (i / j)) ta tb) (wOp fDiv wa wb) := eo op_fdivW do_div ha hb
theorem eneg (ha : DE X W E a ta wa) : DE X W E (.UnaryOp .USub a pos) (tUn (rU fun i => .int (-i)) ta) (wUn fNeg wa) := ⟨pe_un un_neg ha.pe, dn_un du_neg ha.dn⟩
theorem ec {op : CmpOp} {r : R2} {f : F2} (ho : OpR X (compareOp op) r) (hf : DOp X.K r f) (ha : DE X W E a ta wa) (hb : DE X W E b tb wb) (hm : behindInMarks op b = false := by exact nomark _) : DE X W E (.Compare a [op] [b] pos) (tOp r ta tb) (wOp f wa wb) := ⟨pe_cmpR ho ha.pe hb.pe hm, dn_op hf ha.dn hb.dn⟩
theorem tc' {op : CmpOp} {r : R2} {f : F2} (ho : OpR X (compareOp op) r) (hf : DOp X.K r f) (ha : DE X W E a ta wa) (hb : DE X W E b tb wb) (hm : behindInMarks op b = false := by exact nomark _) : DT X W E (.Compare a [op] [b] pos) (tTest (tOp r ta tb)) (wTe (wOp f wa wb)) := ⟨pt_cmpR ho ha.pe hb.pe hm, dn_te (dn_op hf ha.dn hb.dn)⟩
theorem tval (h : DE X W E a ta wa) (he : ∀ whole, isTrue a X.env whole = (do let v ← whole; standAt a.pos; holding [v] (truthy v)) := by intro _; rfl) : DT X W E a (tB ta) (wTe wa) := ⟨pt_val h.pe he, dn_teB h.dn⟩
theorem tand1 (h : DT X W E a tt wt) : DWt X W E (.BoolOp .And [a] pos) tt wt := ⟨pw_and1 h.pe, h.dn⟩
theorem tor1 (h : DT X W E a tt wt) : DWt X W E (.BoolOp .Or [a] pos) tt wt := ⟨pw_or1 h.pe, h.dn⟩
theorem tand (h : DT X W E a tt wt) (h2 : DWt X W E (.BoolOp .And (b :: es) pos) tu wu) : DWt X W E (.BoolOp .And (a :: b :: es) pos) (tAnd tt tu) (wAnd wt wu) := ⟨pw_and h.pe h2.pe, dn_and h.dn h2.dn⟩
theorem tor (h : DT X W E a tt wt) (h2 : DWt X W E (.BoolOp .Or (b :: es) pos) tu wu) : DWt X W E (.BoolOp .Or (a :: b :: es) pos) (tOr tt tu) (wOr wt wu) := ⟨pw_or h.pe h2.pe, dn_or h.dn h2.dn⟩
theorem tbo (h : DWt X W E a tt wt) : DT X W E a tt wt := ⟨h.pe.pt, h.dn⟩
theorem tnot (h : DT X W E a tt wt) : DT X W E (.UnaryOp .Not a pos) (tNot tt) (wNot wt) := ⟨pt_not h.pe, dn_not h.dn⟩
theorem eone {op} (h : DE X W E a ta wa) : DE X W E (.BoolOp op [a] pos) ta wa := ⟨pe_one h.pe, h.dn⟩
theorem eand (h : DE X W E a ta wa) (h2 : DE X W E (.BoolOp .And (b :: es) pos) tb wb) : DE X W E (.BoolOp .And (a :: b :: es) pos) (tAndV ta tb) (wAndV wa wb) := ⟨pe_and h.pe h2.pe, dn_andV h.dn h2.dn⟩
theorem eor (h : DE X W E a ta wa) (h2 : DE X W E (.BoolOp .Or (b :: es) pos) tb wb) : DE X W E (.BoolOp .Or (a :: b :: es) pos) (tOrV ta tb) (wOrV wa wb) := ⟨pe_or h.pe h2.pe, dn_orV h.dn h2.dn⟩
theorem enot (h : DE X W E a ta wa) : DE X W E (.UnaryOp .Not a pos) (tNotV ta) (wNotV wa) := ⟨pe_not h.pe, dn_notV h.dn⟩
theorem eif (hc : DT X W E c tt wt) (ha : DE X W E a ta wa) (hb : DE X W E b tb wb) : DE X W E (.IfExp c a b pos) (tIf tt ta tb) (wIfE wt wa wb) := ⟨pe_ifExp hc.pe ha.pe hb.pe, dn_ifE hc.dn ha.dn hb.dn⟩
theorem anil : DA X W E [] tNil wNil := ⟨pa_nil, dn_nil⟩
theorem acons (ha : DE X W E e te we) (hr : DA X W E es tas was) (hs : starEach (e :: es) X.env = (false, eval e X.env) :: starEach es X.env := by rfl) : DA X W E (e :: es) (tCons te tas) (wCons we was) := ⟨pa_cons ha.pe hr.pe hs, dn_cons ha.dn hr.dn⟩
theorem etup {x1} (h : DA X W E es tas was) : DE X W E (.Tuple es x1 pos) (tTup tas) (wTup was) := ⟨pe_tup h.pe, dn_tup h.dn⟩
theorem elst (h : DA X W E es tas was) : DE X W E (.List es pos) (tLst tas) (wLst was) := ⟨pe_lst h.pe, dn_lst h.dn⟩
theorem elstF (h : DA X W E es tas was) : DE X W E (.List es pos) (tLst tas) (wLstF was) := ⟨pe_lst h.pe, dn_lstF h.dn⟩
theorem efrz (h : DE X W E a ta wa) : DE X W E a ta (wFrz wa) := ⟨h.pe, dn_frz h.dn⟩
theorem eix (ha : DE X W E a ta wa) (hb : DE X W E b tb wb) (hs : PlainIx b := by exact fun _ _ => rfl) : DE X W E (.Subscript a b pos) (tOp (rIx X.K) ta tb) (wOp fIx wa wb) := ⟨pe_ix ix_seq ha.pe hb.pe hs, dn_op do_ix ha.dn hb.dn⟩
theorem ecb {id : String} {x : Str} {r : List V → Hp → VK → Prop} {f : List D → Mu → (D → Mu → Prop) → Prop} {p : Pos} (hc : CallR X (.builtin id) r) (hf : DCa X.K r f) (hm : X.mg x = none) (ha : DA X W E (e :: es) tas was) (hg : Gl X x := by rfl) (hv : bootBuiltins x = some (.builtin id) := by decide +kernel) (hn : x ≠ "__name__" := by decide) (hdb : (x == ("__debug__" : Str)) = false := by decide)
    (hs : starEach (e :: es) X.env = (false, eval e X.env) :: starEach es X.env := by rfl) (hpl : (backTo pos (starEach es X.env)).any (·.1) = false := by rfl) :
    DE X W E (.Call (.Name x p) (e :: es) [] pos) (tCB r tas) (wCB f was) := ⟨pe_callB hc hg hm hv ha.pe hn hdb hs hpl, dn_cb hf ha.dn⟩
theorem ecty {T : String} {x : Str} {r : List V → Hp → VK → Prop} {f : List D → Mu → (D → Mu → Prop) → Prop} {p : Pos} (hc : CallR X (.type T) r) (hf : DCa X.K r f) (hm : X.mg x = none) (ha : DA X W E (e :: es) tas was) (hg : Gl X x := by rfl) (hv : bootBuiltins x = some (.type T) := by decide +kernel) (hn : x ≠ "__name__" := by decide) (hdb : (x == ("__debug__" : Str)) = false := by decide)
    (hs : starEach (e :: es) X.env = (false, eval e X.env) :: starEach es X.env := by rfl) (hpl : (backTo pos (starEach es X.env)).any (·.1) = false := by rfl) :
    DE X W E (.Call (.Name x p) (e :: es) [] pos) (tCB r tas) (wCB f was) := ⟨pe_callTy hc hg hm hv ha.pe hn hdb hs hpl, dn_cb hf ha.dn⟩
/-! ### statements -/
theorem snil : DSs X W E [] tNext wNext := ⟨pss_nil, dn_next⟩
theorem scons (h1 : DS X W E st ts ws) (h2 : DSs X W E p tv wv) : DSs X W E (st :: p) (tSeq ts tv) (wSeq ws wv) := ⟨pss_cons h1.pe h2.pe, dn_seq h1.dn h2.dn⟩
theorem sone (h1 : DS X W E st ts ws) : DSs X W E [st] ts ws := ⟨pss_one h1.pe, h1.dn⟩
theorem spass : DS X W E (.Pass pos) tNext wNext := ⟨ps_pass, dn_next⟩
theorem sbrk : DS X W E (.Break pos) tBreak wBrk := ⟨ps_break, dn_brk⟩
theorem scnt : DS X W E (.Continue pos) tCont wCnt := ⟨ps_continue, dn_cnt⟩
theorem sret (h : DE X W E a ta wa) : DS X W E (.Return (some a) pos) (tRet ta) (wRet wa) := ⟨ps_ret h.pe, dn_ret h.dn⟩
theorem sretN : DS X W E (.Return none pos) tRetN wRetN := ⟨ps_retN, dn_retN⟩
theorem sexpr (h : DE X W E a ta wa) (hs : swapsWith a none pos.line X.env = pure false := by rfl) : DS X W E (.Expr a pos) (tDrop ta) (wDrop wa) := ⟨ps_expr h.pe hs, dn_drop h.dn⟩
theorem sif (hc : DT X W E c tt wt) (h1 : DSs X W E p ts ws) (h2 : DSs X W E q tv wv) : DS X W E (.If c p q pos) (tIfS tt ts tv) (wIf wt ws wv) := ⟨ps_if hc.pe h1.pe h2.pe, dn_if hc.dn h1.dn h2.dn⟩
theorem sset {i : Nat} {x : Str} {pos' : Pos} (h : DE X W E a ta wa) (hN : X.N.Nodup) (hi : X.N[i]? = some x := by rfl) (hx : Loc X.env.scope x := by first | exact Or.inl rfl | exact Or.inr rfl) (hs : swapsWith a (some (.Name x pos')) pos.line X.env = pure false := by rfl) (hf : X.fn x = true ∨ X.env.scope.names.lookup x = some .local := by first | exact .inl rfl | exact .inr rfl) :
    DS X W E (.Assign [.Name x pos'] a pos) (tAsg ta (gName i)) (wAsg wa (gN i)) := ⟨ps_set hN hi hx h.pe hs hf, dn_asg h.dn dg_name⟩
theorem sasg {tg : Expr} (h : DE X W E a ta wa) (hg : DGt X W E tg g wg) (hs : swapsWithSole [tg] a pos.line X.env = pure false := by rfl) (hw : swappedStores [tg] a X.env = pure none := by rfl) (h1 : (assignEach [tg] X.env).map (·.2) = [assign tg X.env] := by rfl) : DS X W E (.Assign [tg] a pos) (tAsg ta g) (wAsg wa wg) := ⟨ps_asg h.pe hg.pe hs hw h1, dn_asg h.dn hg.dn⟩
theorem gnm (i : Nat) {x : Str} (hN : X.N.Nodup) (hi : X.N[i]? = some x := by rfl) (hx : Loc X.env.scope x := by first | exact Or.inl rfl | exact Or.inr rfl) (hf : X.fn x = true ∨ X.env.scope.names.lookup x = some .local := by first | exact .inl rfl | exact .inr rfl) : DGt X W E (.Name x pos) (gName i) (gN i) := ⟨pg_name hN hi hx hf, dg_name⟩
theorem gnl : DGl X W E [] gNil gNl := ⟨pgs_nil, dg_nil⟩
theorem gcn (h1 : DGt X W E e g wg) (h2 : DGl X W E es gs wgs) (hs : (assignEach (e :: es) X.env).map (·.2) = assign e X.env :: (assignEach es X.env).map (·.2) := by rfl) : DGl X W E (e :: es) (gCons g gs) (gCn wg wgs) := ⟨pgs_cons h1.pe h2.pe hs, dg_cons h1.dn h2.dn⟩
theorem gsl (ho : DE X W E o ta wa) (hi : DE X W E i tb wb) (hp : PE X o ta → PE X i tb → PG X (.Subscript o i pos) (gSub ta tb rSetL) := by exact fun x y => pg_sub x y set_list) : DGt X W E (.Subscript o i pos) (gSub ta tb rSetL) (gSb fSetL wa wb) := ⟨hp ho.pe hi.pe, dg_sub ds_setL ho.dn hi.dn⟩
theorem gtp {n k : Nat} (h : DGl X W E es gs wgs) (hc : X.calm = true := by rfl) (hn : (assignEach es X.env).length = n := by rfl) (hst : (assignEach es X.env).findIdx? (·.1) = none := by rfl) : DGt X W E (.Tuple es k pos) (gTup X.K n gs) (gTp n wgs) := ⟨pg_tup hc h.pe hn hst, dg_tup h.dn⟩
theorem spar {i j : Nat} {x y : Str} {px py pt : Pos} {kt k2 pt2} (ha : DA X W E [a, b] tas was) (hN : X.N.Nodup) (hi : X.N[i]? = some x := by rfl) (hj : X.N[j]? = some y := by rfl) (hij : i ≠ j := by decide)
    (hx : X.env.scope.names.lookup x = some .local := by rfl) (hy : X.env.scope.names.lookup y = some .local := by rfl) (hc : X.calm = true := by rfl)
    (hw : swappedStores [.Tuple [.Name x px, .Name y py] kt pt] (.Tuple [a, b] k2 pt2) X.env = pure (some [x, y]) := by rfl)
    (hs : swapsWithSole [.Tuple [.Name x px, .Name y py] kt pt] (.Tuple [a, b] k2 pt2) pos.line X.env = pure false := by rfl) :
    DS X W E (.Assign [.Tuple [.Name x px, .Name y py] kt pt] (.Tuple [a, b] k2 pt2) pos) (tPar i j tas) (wPar i j was) := ⟨ps_par hc hN hi hj hij hx hy ha.pe hw hs, dn_par ha.dn⟩
theorem swhile (hp : PassesOwn (model X.prog X.w) X.A X.env X.xe) (hc : DT X W E c tt wt) (hb : DSs X W E p ts ws) : DS X W E (.While c p [] pos) (tWhile tt ts) (wWhile wt ws) := ⟨ps_while hp hc.pe hb.pe, dn_while hc.dn hb.dn⟩
theorem sfor {ti : TI} {wi : WI} {tg it : Expr} (hp : PassesOwn (model X.prog X.w) X.A X.env X.xe) (hi : DIt X W E tg it ti wi) (hg : DGt X W E tg g wg) (hb : DSs X W E p ts ws) (hc : X.calm = true := by rfl) (hs : ∀ x, foldedSetIterable it X.env x = pure x := by intro _; rfl) :
    DS X W E (.For tg it p [] pos) (tFor ti g ts) (wFor wi wg ws) := ⟨ps_for hp hc hi.pe hg.pe hb.pe hs, dn_for hi.dn hg.dn hb.dn⟩
theorem il {tg : Expr} (h : DE X W E a ta wa) : DIt X W E tg a (iList X.K ta) (iLs wa) := ⟨pi_list h.pe, di_list h.dn⟩
theorem it {tg : Expr} (h : DE X W E a ta wa) : DIt X W E tg a (iTup X.K ta) (iTp wa) := ⟨pi_tup h.pe, di_tup h.dn⟩
theorem ir1 {tg : Expr} {p' : Pos} (hm : X.mg "range" = none) (h : DA X W E [a] tas was) (hg : Gl X "range" := by rfl) (hs : starEach [a] X.env = [(false, eval a X.env)] := by rfl) : DIt X W E tg (.Call (.Name "range" p') [a] [] pos) (iRng1 tas) (iR1 was) := ⟨pi_range1 hg hm h.pe hs, di_r1 h.dn⟩
theorem ir2 {tg : Expr} {p' : Pos} (hm : X.mg "range" = none) (h : DA X W E [a, b] tas was) (hg : Gl X "range" := by rfl) (hs : starEach [a, b] X.env = [(false, eval a X.env), (false, eval b X.env)] := by rfl) (hs2 : starEach [b] X.env = [(false, eval b X.env)] := by rfl) : DIt X W E tg (.Call (.Name "range" p') [a, b] [] pos) (iRng2 tas) (iR2 was) := ⟨pi_range2 hg hm h.pe hs hs2, di_r2 h.dn⟩
theorem emeL {id m : String} {name : Str} {r : V → List V → Hp → VK → Prop} {f : D → List D → Mu → (D → Mu → Prop) → Prop} {apos : Pos} (slot : Slot "list" name id) (hty : typeOf (.builtin id) = pure (.type "method_descriptor")) (hm : MtR X id r) (hf : DMe X.K r f) (ho : DE X W E o ta wa) (ha : DA X W E (e :: es) tas was)
    (hp : PlainAttrs "list" → Slot "list" name id → typeOf (.builtin id) = pure (.type "method_descriptor") → MtR X id r → PE X o ta → PA X (e :: es) tas → PE X (.Call (.Attribute o name apos) (e :: es) [] pos) (tBM X.K "list" r ta tas) := by exact fun a b c d e f => pe_bm a b c d e f) :
    DE X W E (.Call (.Attribute o name apos) (e :: es) [] pos) (tBM X.K "list" r ta tas) (wMeL f wa was) := ⟨hp PySem.F.plainAttrs_list slot hty hm ho.pe ha.pe, dn_meL hf ho.dn ha.dn⟩
theorem eapp {apos : Pos} (ho : DE X W E o ta wa) (ha : DA X W E (e :: es) tas was)
    (hp : PlainAttrs "list" → Slot "list" "append" "list.append" → typeOf (.builtin "list.append") = pure (.type "method_descriptor") → MtR X "list.append" rAppend → PE X o ta → PA X (e :: es) tas → PE X (.Call (.Attribute o "append" apos) (e :: es) [] pos) (tBM X.K "list" rAppend ta tas) := by exact fun a b c d e f => pe_bm a b c d e f) :
    DE X W E (.Call (.Attribute o "append" apos) (e :: es) [] pos) (tBM X.K "list" rAppend ta tas) (wMeL fApp wa was) := ⟨hp PySem.F.plainAttrs_list PySem.F.slot_list_append PySem.F.type_list_append mt_append ho.pe ha.pe, dn_meL dm_app ho.dn ha.dn⟩
theorem epop {apos : Pos} (ho : DE X W E o ta wa)
    (hp : PlainAttrs "list" → Slot "list" "pop" "list.pop" → typeOf (.builtin "list.pop") = pure (.type "method_descriptor") → MtR X "list.pop" rPop → PE X o ta → PE X (.Call (.Attribute o "pop" apos) [] [] pos) (tBM0 X.K "list" rPop ta) := by exact fun a b c d e => pe_bm0 a b c d e) :
    DE X W E (.Call (.Attribute o "pop" apos) [] [] pos) (tBM0 X.K "list" rPop ta) (wMeL fPop wa wNil) := ⟨hp PySem.F.plainAttrs_list PySem.F.slot_list_pop PySem.F.type_list_pop mt_pop ho.pe, dn_meL0 dm_pop ho.dn⟩
end

/-! ### truth of values -/
/-- the truth of data -/
def truD (μ : Mu) : D → Option Bool
  | .non => some false
  | .bl b => some b
  | .int i => some (i != 0)
  | .tup l => some (!l.isEmpty)
  | .lst l => some (!l.isEmpty)
  | .mut a => match μ a with
    | some (.lst l) => some (!l.isEmpty)
    | some (.dK l) => some (!l.isEmpty)
    | _ => none
  | _ => none
def wTr (a : WEx) : WT := fun ρ μ Q => a ρ μ fun d μ1 => match truD μ1 d with
  | some b => Q b μ1
  | none => False
theorem isE_dvs {K : PySem.W.Frag} {F : Hp} {l : List D} {xs : List V} (h : DVs K F l xs) : xs.isEmpty = l.isEmpty := by
  cases l with
  | nil => rw [show xs = [] from h]; rfl
  | cons d l => obtain ⟨v, vs, rfl, _⟩ := h; rfl
theorem tru_ok' {K : PySem.W.Frag} {F H : Hp} {μ : Mu} {d : D} {v : V} {b : Bool} (s : Sok K F μ H) (dv : DV K F d v) (h : truD μ d = some b) : TruV K v H b := by
  have gH : Grow F H := s.sub
  cases d with
  | non => rw [show v = V.non from dv]; cases h; rfl
  | bl x => rw [show v = V.bl x from dv]; cases h; rfl
  | int x => rw [show v = V.int x from dv]; cases h; rfl
  | str x => cases h
  | tup l => obtain ⟨a, xs, rfl, r, dl⟩ := dv; cases h; exact .inr (.inl ⟨xs, gH.st r, by rw [isE_dvs dl]⟩)
  | lst l => obtain ⟨a, xs, rfl, r, dl⟩ := dv; cases h; exact .inl ⟨xs, SqL.of (gH _ _ r), by rw [isE_dvs dl]⟩
  | lsr l => cases h
  | dK k l => cases h
  | dT k l => cases h
  | ins C k l => cases h
  | exc a d k l => cases h
  | ob a o => cases h
  | «mut» a =>
    obtain rfl : v = V.ref a := dv
    have h : (match μ a with
      | some (.lst l) => some (!l.isEmpty)
      | some (.dK l) => some (!l.isEmpty)
      | _ => none) = some b := h
    split at h
    · rename_i l e
      obtain ⟨_, xs, ho, dl⟩ := s.cel a _ e
      cases h
      exact .inl ⟨xs, SqL.of ho, by rw [isE_dvs dl]⟩
    · rename_i l e
      obtain ⟨_, xs, ho, dl⟩ := s.cel a _ e
      cases h
      refine .inr (.inr ⟨xs, ho, ?_⟩)
      have hl : xs.length = l.length := by have := congrArg List.length dl.1; simpa using this
      cases xs <;> cases l <;> first | rfl | (simp at hl)
    · cases h
theorem dn_tru {K : PySem.W.Frag} {W : WX} {E : EX} {ta : TE} {wa : WEx} (ha : Dn K W E ta wa) : DnT K W E (fun σ H Q => ta σ H fun x H' => ∃ k, TruV K x H' k ∧ Q k H') (wTr wa) := by
  intro F μ H ρ σ Q0 Q s h q
  refine ha F μ H ρ σ _ _ s h fun F1 μ1 H1 dx x g1 s1 dv1 h1 => ?_
  split at h1
  · rename_i b e
    exact ⟨b, tru_ok' s1.ok dv1 e, q F1 μ1 H1 b g1 s1 h1⟩
  · exact h1.elim
theorem ttru {X : Cx} {W : WX} {E : EX} {a : Expr} {ta : TE} {wa : WEx} (h : DE X W E a ta wa) (he : ∀ whole, isTrue a X.env whole = (do let v ← whole; standAt a.pos; holding [v] (truthy v)) := by intro _; rfl) : DT X W E a (fun σ H Q => ta σ H fun x H' => ∃ k, TruV X.K x H' k ∧ Q k H') (wTr wa) := ⟨pt_truth h.pe he, dn_tru h.dn⟩

/-! ### what a def promises, over data -/
/-- arguments, cells, what is wanted of the answer, of an exception (its class, its fields) -/
abbrev Ct := List D → Mu → (D → Mu → Prop) → (Addr → List (Str × D) → Mu → Prop) → Prop
def dwn (Q : D → Mu → Prop) (d : D) (μ : Mu) : Prop := ∃ μ', le μ' μ ∧ Q d μ'
def dwx (E : Addr → List (Str × D) → Mu → Prop) (C : Addr) (fs : List (Str × D)) (μ : Mu) : Prop := ∃ μ', le μ' μ ∧ E C fs μ'
theorem dwn.of {Q : D → Mu → Prop} {d : D} {μ : Mu} (h : Q d μ) : dwn Q d μ := ⟨μ, le.refl, h⟩
theorem dwx.of {E : Addr → List (Str × D) → Mu → Prop} {C : Addr} {fs : List (Str × D)} {μ : Mu} (h : E C fs μ) : dwx E C fs μ := ⟨μ, le.refl, h⟩
def spD (K : PySem.W.Frag) (c : Ct) : Sp := fun vs H Q Ex => ∃ F μ ds Q0 E0, Sok K F μ H ∧ DVs K F ds vs ∧ c ds μ Q0 E0 ∧
  (∀ F' μ' H' d v, Grow F F' → Sok K F' μ' H' → DV K F' d v → dwn Q0 d μ' → Q v H') ∧ ∀ F' μ' H' C dd fs, Grow F F' → Sok K F' μ' H' → ExD K F' dd fs → dwx E0 C fs μ' → Ex (.ref C) dd H'
/-- a call -/
def wCall (c : Ct) (E : EX) (a : WA) : WEx := fun ρ μ Q => a ρ μ fun ds μ1 => c ds μ1 Q fun C fs μ2 => E C fs ρ μ2
section
variable {X : Cx} {W : WX} {E : EX} {k : Nat} {f : Addr} {fd : FuncData} {ps : List Str} {c : Ct} {x : Str} {p pos : Pos} {e : Expr} {es : List Expr} {tas : TA} {was : WA}
theorem dn_call {K : PySem.W.Frag} (ha : DnA K W E tas was) : Dn K W E (tCallS (spD K c) (WE W) tas) (wCall c E was) := by
  intro F μ H ρ σ Q0 Q s h q
  refine ha F μ H ρ σ _ _ s h fun F1 μ1 H1 ds vs g1 s1 dv h1 => ?_
  refine ⟨F1, μ1, ds, _, _, s1.ok, dv, h1, fun F2 μ2 H2 d v g2 s2 dv2 ⟨μ3, l, h2⟩ => ?_, fun F2 μ2 H2 C dd fs g2 s2 ex ⟨μ3, l, h2⟩ => ?_⟩
  · exact q F2 μ3 H2 d v (g1.trans g2) ((s1.mono g2 s2).weak l) dv2 h2
  · exact s1.wok F2 μ3 H2 ρ σ C dd fs g2 (s2.weak l) (s1.env.mono g2) ex h2
theorem ecall (tk : L2N.Takes X W) (F : FnOk X.prog X.w X.K X.mg X.base (L2N.CX X.prog X.w) k f fd ps (spD X.K c)) (hr : Room k X.A) (hm : X.mg x = some (.ref f)) (hk : PySem.W.keepIn X.K (.ref f) = true) (hb : Binds X.K fd ps []) (ha : DA X W E (e :: es) tas was)
    (hg : Gl X x := by rfl) (hdb : (x == ("__debug__" : Str)) = false := by decide) (he : starEach (e :: es) X.env = (false, eval e X.env) :: starEach es X.env := by rfl) (hpl : (backTo pos (starEach es X.env)).any (·.1) = false := by rfl) :
    DE X W E (.Call (.Name x p) (e :: es) [] pos) (tCallS (spD X.K c) (WE W) tas) (wCall c E was) := ⟨pe_callS F hr hg hm hk hb (fun σ => L2N.passAt tk σ) ha.pe hdb he hpl, dn_call ha.dn⟩
end
/-- the slots at a def's entry -/
def st0 (n : Nat) (ds : List D) : En := ds.map some ++ List.replicate (n - ds.length) none
theorem env_start {K : PySem.W.Frag} {F : Hp} {N : List Str} {ds : List D} {vs : List V} (h : DVs K F ds vs) (hl : ds.length ≤ N.length) : EnvOk K F (st0 N.length ds) (L2.start N vs) := by
  have el := h.len
  refine ⟨?_, fun i d e => ?_⟩
  · unfold st0 L2.start
    rw [List.length_append, List.length_append, List.length_map, List.length_map, List.length_replicate, List.length_replicate, el]
  · unfold st0 at e
    by_cases hi : i < ds.length
    · rw [List.getElem?_append_left (by simpa using hi), List.getElem?_map] at e
      cases q : ds[i]? with
      | none => rw [q] at e; cases e
      | some d' =>
        rw [q] at e; cases e
        obtain ⟨v, e1, dv⟩ := h.get q
        refine ⟨v, ?_, dv⟩
        unfold L2.start
        rw [List.getElem?_append_left (by simp [el, hi]), List.getElem?_map, e1]
        rfl
    · rw [List.getElem?_append_right (by simpa using hi), List.getElem?_replicate] at e
      split at e <;> cases e
def rets (Q : D → Mu → Prop) : DEnds := { nx := fun _ μ => dwn Q .non μ, rt := fun d μ => dwn Q d μ }
section
variable {P : Program} {w : World} {K : PySem.W.Frag} {mg : Str → Option Value} {base : Heap}
/-- THE RULE for a def -/
theorem okD {x qual : Str} {st : Stmt} {f : Addr} {fd : FuncData} {N ps : List Str} {k : Nat} {c : Ct} (F : Fun K x qual st f fd) (S : FnScope N ps (defScope st)) (hn : ps.length ≤ N.length) (hl : ∀ ds μ Q E, c ds μ Q E → ds.length = ps.length)
    (hb : ∀ (X : Cx) (W : WX) (E : EX) (cdv : Value) (A : Around) (outer : List Env) (s : Shared) (H : Hp) (Ex : XK), X = cxOf (L2N.CX P w) P w K mg base N qual (defScope st) f cdv A outer s H Ex → L2N.Takes X W → PassesOwn (model X.prog X.w) X.A X.env X.xe → Room k X.A →
      ∃ t ws, DSs X W E (defBody st) t ws ∧ ∀ ds μ Q E0, c ds μ Q E0 → E = (fun C fs _ μ => dwx E0 C fs μ) → ws (rets Q) (st0 N.length ds) μ) : FnOk P w K mg base (L2N.CX P w) (k + 1) f fd ps (spD K c) := by
  obtain ⟨oc, od, kV, dc, pm, an, cdv, ct, sl, rfl, lk, hcd⟩ := F.ex
  refine fn_of lk hcd S (fun vs H Q E h => ?_) (fun A outer s H vs Q Ex hr h => ?_)
  · obtain ⟨F, μ, ds, Q0, E0, _, dv, hc, _⟩ := h
    rw [dv.len]; exact hl _ _ _ _ hc
  · obtain ⟨F0, μ, ds, Q0, E0, sk, dv, hc, hq, he⟩ := h
    obtain ⟨t, ws, hd, hw⟩ := hb _ (fun cls d _ H => Ex cls d H) (fun C fs _ μ => dwx E0 C fs μ) cdv A outer s H Ex rfl (L2N.takes_of rfl rfl rfl rfl) (passes_of rfl) hr
    refine ⟨t, hd.pe, hd.dn F0 μ H _ _ (rets Q0) _ ⟨sk, env_start dv (by rw [hl _ _ _ _ hc]; exact hn), fun F' μ' H' ρ σ C d fs g s' _ ex h' => he F' μ' H' C d fs g s' ex h'⟩ (hw ds μ Q0 E0 hc rfl) ⟨fun F' μ' H' ρ' σ' g s' h' => ?_, fun F' μ' H' d v g s' dv' h' => ?_, fun F' μ' H' ρ' σ' g s' h' => ?_, fun F' μ' H' ρ' σ' g s' h' => ?_⟩⟩
    · exact hq F' μ' H' .non .non g s'.ok rfl h'
    · exact hq F' μ' H' d v g s' dv' h'
    · exact h'.elim
    · exact h'.elim
end

/-! ### raise, try -/
/-- raise C() -/
def wRaise (C : Addr) (E : EX) : WS := fun _ ρ μ => E C [] ρ μ
theorem sraise0 {X : Cx} {W : WX} {E : EX} {C : Addr} {e : Expr} {pos : Pos} (tk : L2N.Takes X W) (hp : L2N.PMk X e (fun _ H Q => Q (.ref C) none H)) (hc : X.calm = true := by rfl) : DS X W E (.Raise (some e) none pos) (fun _ σ H => W (.ref C) none σ H) (wRaise C E) :=
  ⟨L2N.ps_raise hc tk hp, fun F μ H ρ σ D0 Ds s h e => s.wok F μ H ρ σ C none [] Grow.refl s.ok s.env (.inl ⟨rfl, rfl⟩) h⟩
end DL
set_option maxHeartbeats 4000000
namespace DL
open PySem L2 PySem.Spec PyProof.Rows

/-! ### defs by their names -/
structure DfOk (P : Program) (w : World) (K : PySem.W.Frag) (mg : Str → Option Value) (base : Heap) (x : Str) (k : Nat) (ps : List Str) (c : Ct) : Prop where
  ex : ∃ f fd, FnOk P w K mg base (L2N.CX P w) k f fd ps (spD K c) ∧ mg x = some (.ref f) ∧ PySem.W.keepIn K (.ref f) = true ∧ Binds K fd ps []
structure Dfn (K : PySem.W.Frag) (mg : Str → Option Value) (x qual : Str) (st : Stmt) (ps : List Str) : Prop where
  ex : ∃ f fd, Fun K x qual st f fd ∧ mg x = some (.ref f) ∧ Binds K fd ps []
section
variable {X : Cx} {W : WX} {E : EX} {k : Nat} {ps : List Str} {c : Ct} {x : Str} {p pos : Pos} {e : Expr} {es : List Expr} {tas : TA} {was : WA}
theorem ecall2 (tk : L2N.Takes X W) (h : DfOk X.prog X.w X.K X.mg X.base x k ps c) (hr : Room k X.A) (ha : DA X W E (e :: es) tas was)
    (hg : Gl X x := by rfl) (hdb : (x == ("__debug__" : Str)) = false := by decide) (he : starEach (e :: es) X.env = (false, eval e X.env) :: starEach es X.env := by rfl) (hpl : (backTo pos (starEach es X.env)).any (·.1) = false := by rfl) :
    DE X W E (.Call (.Name x p) (e :: es) [] pos) (tCallS (spD X.K c) (WE W) tas) (wCall c E was) := by
  obtain ⟨f, fd, G, hm, hk, hb⟩ := h.ex
  exact ecall tk G hr hm hk hb ha hg hdb he hpl
end

/-! ### an own exception class without __init__ -/
structure Xc (K : PySem.W.Frag) (mg : Str → Option Value) (x : Str) (C : Addr) : Prop where
  g : mg x = some (.ref C)
  k : PySem.W.keepIn K (.ref C) = true
  q : PySem.W.excIn K C [.type "ValueError", .type "Exception", .type "BaseException", .type "object"] "ValueError.__new__" = true
  b : PySem.W.subIn K (.ref C) (.type "BaseException") = some true
  t : PySem.W.typeIn K (.ref C) = some (.type "type")
theorem pmk_own0 {X : Cx} {C : Addr} {x : Str} {p pos : Pos} (T : Xc X.K X.mg x C) (hg : Gl X x := by rfl) (hdb : (x == ("__debug__" : Str)) = false := by decide) : L2N.PMk X (.Call (.Name x p) [] [] pos) (fun _ H Q => Q (.ref C) none H) := by
  intro pins s σ H Q I h
  refine wpAny_Call_Name_kw (ld_glob I hg T.g ?_ hdb)
  refine PySem.W.callWith_K0 I.kIn T.k ?_
  obtain ⟨bm, N, nm, qn, bs, hdct, sn, sub, ab, col, dd, k0, k1, k2, k3, k5, mN, hC, hN, hni, U⟩ := exc_obj I.kIn T.q
  obtain ⟨hp1, g1, d1, tk1, os1⟩ := s
  show wpAny _ _ (call (.ref C) []) _ _ _
  exact wpAny_call_exc_subT PySem.F.excBase_ValueError U hC hN hni (fun h' e' hm => L2N.mk_of I hm (raises_own T.b T.t) h (I.hok.gone hm.new)) (Nat.zero_le _)
end DL
set_option maxHeartbeats 4000000
namespace DL
open PySem L2 PySem.Spec PyProof.Rows
/-! ### words for the pure part -/
theorem if_dec {p : Prop} [Decidable p] {a b : Prop} : (if decide p = true then a else b) = (if p then a else b) := by simp only [decide_eq_true_eq]
theorem atI_0 {α : Type} {l : List α} {i : Nat} : atI l (i : Int) = l[i]? := by
  unfold atI ixN
  rw [if_pos (by omega)]
  by_cases h : (i : Int) < l.length
  · rw [if_pos h]; simp
  · rw [if_neg h, List.getElem?_eq_none (by omega)]; rfl
theorem atI_c0 {α : Type} {a : α} {l : List α} : atI (a :: l) 0 = some a := atI_0 (i := 0)
theorem atI_c1 {α : Type} {a b : α} {l : List α} : atI (a :: b :: l) 1 = some b := atI_0 (i := 1)
theorem atI_c2 {α : Type} {a b c : α} {l : List α} : atI (a :: b :: c :: l) 2 = some c := atI_0 (i := 2)
theorem atI_c3 {α : Type} {a b c d : α} {l : List α} : atI (a :: b :: c :: d :: l) 3 = some d := atI_0 (i := 3)
theorem atI_c4 {α : Type} {a b c d e : α} {l : List α} : atI (a :: b :: c :: d :: e :: l) 4 = some e := atI_0 (i := 4)
theorem atI_c5 {α : Type} {a b c d e f : α} {l : List α} : atI (a :: b :: c :: d :: e :: f :: l) 5 = some f := atI_0 (i := 5)
theorem atI_c6 {α : Type} {a b c d e f g : α} {l : List α} : atI (a :: b :: c :: d :: e :: f :: g :: l) 6 = some g := atI_0 (i := 6)
theorem ixN_70 : ixN 7 0 = some 0 := rfl
theorem ixN_71 : ixN 7 1 = some 1 := rfl
theorem ixN_72 : ixN 7 2 = some 2 := rfl
theorem ixN_73 : ixN 7 3 = some 3 := rfl
theorem ixN_74 : ixN 7 4 = some 4 := rfl
theorem ixN_75 : ixN 7 5 = some 5 := rfl
theorem ixN_76 : ixN 7 6 = some 6 := rfl
theorem ite_T {a b : Prop} : (if true = true then a else b) = a := by simp
theorem ite_F {a b : Prop} : (if false = true then a else b) = b := by simp
theorem eqF_int {a b : Int} : eqF (.int a) (.int b) = decide (a = b) := by show (a == b) = _; by_cases h : a = b <;> simp [h]
theorem eqF_bl {a b : Bool} : eqF (.bl a) (.bl b) = (a == b) := rfl
theorem eqF_str {a b : Str} : eqF (.str a) (.str b) = decide (a = b) := by show (a == b) = _; by_cases h : a = b <;> simp [h]
theorem scal_int {a b : Int} : scalD (.int a) (.int b) = true := rfl
theorem scal_bl {a b : Bool} : scalD (.bl a) (.bl b) = true := rfl
theorem scal_str {a b : Str} : scalD (.str a) (.str b) = true := rfl
theorem if_ndec {p : Prop} [Decidable p] {a b : Prop} : (if (!decide p) = true then a else b) = (if p then b else a) := by by_cases h : p <;> simp [h]
theorem if_nb {p : Bool} {a b : Prop} : (if (!p) = true then a else b) = (if p = true then b else a) := by cases p <;> simp

/-! ### division of any size -/
theorem op_fdivG {X : Cx} (PR : ∀ pins σ H s, Inv X pins σ H s → PylongRoom (model X.prog X.w) X.A s) : OpR X (binaryOp .FloorDiv) (rI (fun _ j => j ≠ 0) fun i j => .int (i.fdiv j)) := by
  intro pins s σ H x y v u Q I rx ry h
  obtain ⟨i, j, rfl, rfl, hj, q⟩ := h
  obtain ⟨t, rfl⟩ := rx
  obtain ⟨t', rfl⟩ := ry
  exact PyProof.Rows.floordiv_int hj ⟨.int _, H, I.tok _, ⟨_, rfl⟩, q⟩ (.inr (PR pins σ H s I))
def fDivG : F2 := fI (fun _ j => j ≠ 0) fun i j => .int (i.fdiv j)
theorem do_divG {K : PySem.W.Frag} : DOp K (rI (fun _ j => j ≠ 0) fun i j => .int (i.fdiv j)) fDivG := do_I fun _ _ => rfl
theorem pyroom {X : Cx} (hS : X.base.NoSeer) (ht : X.prog.given.tree = none) (hst : X.stack = X.env :: X.outer) (hgen : X.env.scope.isGenerator = false) (hco : X.env.scope.isCoroutine = false) (hr : Room 35 X.A) :
    ∀ pins σ H s, Inv X pins σ H s → PylongRoom (model X.prog X.w) X.A s := fun pins σ H s I => by
  have hd : X.A.depth + Builtin.pylongFrames < recursionLimit := by
    have := hr.dp
    have e : Builtin.pylongFrames = 100 := rfl
    omega
  exact PylongRoom.of I.nolimit hd (SeerAt.of (hS.keeps I.bk) ht (by rw [I.ok.frames, hst]) hgen hco I.ok.blt I.ok.glob)
section
variable {X : Cx} {W : WX} {E : EX} {a b : Expr} {ta tb : TE} {wa wb : WEx} {pos : Pos}
theorem edivG (PR : ∀ pins σ H s, Inv X pins σ H s → PylongRoom (model X.prog X.w) X.A s) (ha : DE X W E a ta wa) (hb : DE X W E b tb wb) : DE X W E (.BinOp a .FloorDiv b pos) (tOp (rI (fun _ j => j ≠ 0) fun i j => .int (i.fdiv j)) ta tb) (wOp fDivG wa wb) := eo (op_fdivG PR) do_divG ha hb
end
/-! ### sizes -/
def Bd (n : Nat) (x : Int) : Prop := x.natAbs < 2 ^ n
theorem Bd.mono {n m : Nat} {x : Int} (h : Bd n x) (l : n ≤ m) : Bd m x := Nat.lt_of_lt_of_le h (Nat.pow_le_pow_right (by decide) l)
theorem Bd.mul {n m : Nat} {x y : Int} (h : Bd n x) (h' : Bd m y) : Bd (n + m) (x * y) := wide_lt h h'
theorem Bd.add {n : Nat} {x y : Int} (h : Bd n x) (h' : Bd n y) : Bd (n + 1) (x + y) := by
  unfold Bd at *
  rw [Nat.pow_succ]
  omega
theorem Bd.sub {n : Nat} {x y : Int} (h : Bd n x) (h' : Bd n y) : Bd (n + 1) (x - y) := by
  unfold Bd at *
  rw [Nat.pow_succ]
  omega
theorem Bd.le {n : Nat} {x y : Int} (h : Bd n x) (l : y.natAbs ≤ x.natAbs) : Bd n y := Nat.lt_of_le_of_lt l h
theorem mulOk {n m : Nat} {x y : Int} (h : Bd n x) (h' : Bd m y) (l : n + m ≤ 999998) : MulOk x y :=
  ⟨(wide_mul (Bd.mono h (Nat.le_succ n)) (Bd.mono h' (Nat.le_succ m)) (Nat.succ_pos _) (Nat.succ_pos _) (by omega)).ok⟩
theorem mulL {x y : Int} (h : -(2 ^ 64) < x ∧ x < 2 ^ 64) : MulOk x y := ⟨CMul.ok (.inl h)⟩
theorem mulR {x y : Int} (h : -(2 ^ 64) < y ∧ y < 2 ^ 64) : MulOk x y := ⟨CMul.ok (.inr h)⟩
theorem atI_in {α : Type} {l : List α} {i : Int} (h0 : 0 ≤ i) (h1 : i < l.length) : ∃ d, atI l i = some d ∧ d ∈ l ∧ l[i.toNat]? = some d := by
  have e : atI l i = l[i.toNat]? := by
    have := atI_0 (l := l) (i := i.toNat)
    rw [Int.toNat_of_nonneg h0] at this
    exact this
  have h2 : i.toNat < l.length := by omega
  exact ⟨l[i.toNat], by rw [e]; exact List.getElem?_eq_getElem h2, List.getElem_mem h2, List.getElem?_eq_getElem h2⟩
end DL
set_option maxHeartbeats 4000000
namespace DL
open PySem L2 PySem.Spec PyProof.Rows
/-! ### calls with defaults and keywords -/
structure CB (K : PySem.W.Frag) (fd : FuncData) (ps : List Str) (n : Nat) (ks : List Str) (gV : List V → List V → List V) : Prop where
  ex : ∃ g : List Value → List Value → List Value, (∀ (s : Shared) (us ws : List Value), K.In s.heap → us.length = n → ws.length = ks.length → BindsTo s fd ⟨us, ks.zip ws⟩ (ps.zip (g us ws))) ∧
    ∀ {vs : List V} {us : List Value} {zs : List V} {ws : List Value}, vs.length = n → zs.length = ks.length → Vals vs us → Vals zs ws → Vals (gV vs zs) (g us ws)
structure DfG (P : Program) (w : World) (K : PySem.W.Frag) (mg : Str → Option Value) (base : Heap) (x : Str) (k : Nat) (ps : List Str) (n : Nat) (ks : List Str) (gV : List V → List V → List V) (c : Ct) : Prop where
  ex : ∃ f fd, FnOk P w K mg base (L2N.CX P w) k f fd ps (spD K c) ∧ mg x = some (.ref f) ∧ PySem.W.keepIn K (.ref f) = true ∧ CB K fd ps n ks gV
def tCallG (n m : Nat) (sp : Sp) (gV : List V → List V → List V) (E : L2.St → XK) (t tk : TA) : TE := fun σ H Q => t σ H fun vs H1 => tk σ H1 fun zs H2 => vs.length = n ∧ zs.length = m ∧ sp (gV vs zs) H2 Q (E σ)
section
variable {X : Cx} {CX : CXT} {k n : Nat} {f : Addr} {fd : FuncData} {ps ks : List Str} {sp : Sp} {E : L2.St → XK} {x : Str} {p pos : Pos} {e : Expr} {es : List Expr} {kws : List Keyword} {t tk : TA} {gV : List V → List V → List V}
theorem run_cb {pins : List (Addr × Obj)} {σ : L2.St} {H : Hp} {s : Shared} {Q : VK} {us ws : List Value} {vs zs : List V} (F : FnOk X.prog X.w X.K X.mg X.base CX k f fd ps sp) (hr : Room k X.A) (hb : CB X.K fd ps n ks gV) (hx : PassesAt CX X σ (E σ))
    (I : Inv X pins σ H s) (r : Vals vs us) (rz : Vals zs ws) (l1 : vs.length = n) (l2 : zs.length = ks.length) (h : sp (gV vs zs) H Q (E σ)) : wpAny (model X.prog X.w) X.A (call (.ref f) us (ks.zip ws)) (EP X pins σ Q) X.xe s := by
  obtain ⟨g, b1, b2⟩ := hb.ex
  have run := F.run X.A X.stack s H ⟨us, ks.zip ws⟩ (g us ws) (gV vs zs) Q (E σ) hr I.env0 (b1 s us ws I.kIn (by rw [← r.length]; exact l1) (by rw [← rz.length]; exact l2)) (b2 l1 l2 r rz) h
  refine wpAny_call (codeAny_mono run fun res s' hq => ?_)
  match res, hq with
  | .error er, hq => exact hx pins H s er s' I hq
  | .ok (.ret u), hq => exact I.after hq
theorem pe_cb (F : FnOk X.prog X.w X.K X.mg X.base CX k f fd ps sp) (hr : Room k X.A) (hg : Gl X x) (hm : X.mg x = some (.ref f)) (hk : PySem.W.keepIn X.K (.ref f) = true) (hb : CB X.K fd ps n [] gV) (hx : ∀ σ, PassesAt CX X σ (E σ))
    (ha : PA X (e :: es) t) (hdb : (x == ("__debug__" : Str)) = false := by decide) (he : starEach (e :: es) X.env = (false, eval e X.env) :: starEach es X.env := by rfl) (hpl : (backTo pos (starEach es X.env)).any (·.1) = false := by rfl) :
    PE X (.Call (.Name x p) (e :: es) [] pos) (tCallG n 0 sp gV E t tNil) := by
  refine ⟨fun pins s σ H Q I h => wpAny_Call_Name_kw (ld_glob I hg hm ?_ hdb)⟩
  refine PySem.W.callWith_K (h₀ := X.base) I.ok.mod.kin hk (thn (ha.run pos pins s σ H _ I h) fun us s1 hh => ?_) he hpl
  obtain ⟨vs, H1, I1, r, l1, _, q⟩ := hh
  exact ⟨I1.kIn, run_cb (ks := []) (ws := []) (zs := []) F hr hb (hx σ) I1 r .nil l1 rfl q⟩
theorem pe_cbK (F : FnOk X.prog X.w X.K X.mg X.base CX k f fd ps sp) (hr : Room k X.A) (hg : Gl X x) (hm : X.mg x = some (.ref f)) (hk : PySem.W.keepIn X.K (.ref f) = true) (hb : CB X.K fd ps n ks gV) (hx : ∀ σ, PassesAt CX X σ (E σ))
    (ha : PA X (e :: es) t) (hkw : PK X kws tk) (hks : (backToKw pos (keywordEach kws X.env)).filterMap (·.1) = ks := by rfl) (hall : (backToKw pos (keywordEach kws X.env)).all (·.1.isSome) = true := by rfl)
    (hdb : (x == ("__debug__" : Str)) = false := by decide) (he : starEach (e :: es) X.env = (false, eval e X.env) :: starEach es X.env := by rfl)
    (hpl : ((backTo pos (starEach (e :: es) X.env)).any (·.1) || (backToKw pos (keywordEach kws X.env)).any (·.1.isNone)) = false := by rfl) :
    PE X (.Call (.Name x p) (e :: es) kws pos) (tCallG n ks.length sp gV E t tk) := by
  refine ⟨fun pins s σ H Q I h => wpAny_Call_Name_kw (ld_glob I hg hm ?_ hdb)⟩
  refine PySem.W.callWith_KW (h₀ := X.base) I.ok.mod.kin hk hall (thn (ha.run pos pins s σ H _ I h) fun us s1 hh => ?_) hpl he
  obtain ⟨vs, H1, I1, r, q⟩ := hh
  refine thn (hkw.run pos pins s1 σ H1 _ I1 q) fun ws s2 hh2 => ?_
  obtain ⟨zs, H2, I2, rz, l1, l2, q2⟩ := hh2
  refine ⟨I2.kIn, ?_⟩
  rw [hks]
  exact run_cb F hr hb (hx σ) I2 r rz l1 l2 q2
theorem pe_cbK0 (F : FnOk X.prog X.w X.K X.mg X.base CX k f fd ps sp) (hr : Room k X.A) (hg : Gl X x) (hm : X.mg x = some (.ref f)) (hk : PySem.W.keepIn X.K (.ref f) = true) (hb : CB X.K fd ps 0 ks gV) (hx : ∀ σ, PassesAt CX X σ (E σ))
    (hkw : PK X kws tk) (hks : (backToKw pos (keywordEach kws X.env)).filterMap (·.1) = ks := by rfl) (hall : (backToKw pos (keywordEach kws X.env)).all (·.1.isSome) = true := by rfl)
    (hdb : (x == ("__debug__" : Str)) = false := by decide)
    (hpl : ((backTo pos (starEach [] X.env)).any (·.1) || (backToKw pos (keywordEach kws X.env)).any (·.1.isNone)) = false := by rfl) :
    PE X (.Call (.Name x p) [] kws pos) (tCallG 0 ks.length sp gV E tNil tk) := by
  refine ⟨fun pins s σ H Q I h => wpAny_Call_Name_kw (ld_glob I hg hm ?_ hdb)⟩
  refine PySem.W.callWith_KW0 (h₀ := X.base) I.ok.mod.kin hk hall (thn (hkw.run pos pins s σ H _ I h) fun ws s2 hh2 => ?_) hpl
  obtain ⟨zs, H2, I2, rz, l1, l2, q2⟩ := hh2
  refine ⟨I2.kIn, ?_⟩
  rw [hks]
  exact run_cb F hr hb (hx σ) I2 .nil rz l1 l2 q2
end
structure DK (X : Cx) (W : WX) (E : EX) (kws : List Keyword) (t : TA) (w : WA) : Prop where
  pe : PK X kws t
  dn : DnA X.K W E t w
def wCallG (n m : Nat) (c : Ct) (gD : List D → List D → List D) (E : EX) (a k : WA) : WEx := fun ρ μ Q => a ρ μ fun ds μ1 => k ρ μ1 fun es μ2 => ds.length = n ∧ es.length = m ∧ c (gD ds es) μ2 Q fun C fs μ3 => E C fs ρ μ3
/-- how data follow values -/
def GD (K : PySem.W.Frag) (n m : Nat) (gV : List V → List V → List V) (gD : List D → List D → List D) : Prop := ∀ F ds es vs zs, ds.length = n → es.length = m → DVs K F ds vs → DVs K F es zs → DVs K F (gD ds es) (gV vs zs)
section
variable {X : Cx} {W : WX} {E : EX} {k n : Nat} {ps ks : List Str} {c : Ct} {x nm : Str} {p pos kpos : Pos} {e : Expr} {es : List Expr} {kws : List Keyword} {ta : TE} {wa : WEx} {tas tks : TA} {was wks : WA} {gV : List V → List V → List V} {gD : List D → List D → List D}
theorem knil : DK X W E [] tNil wNil := ⟨pk_nil, dn_nil⟩
theorem kcons (ha : DE X W E e ta wa) (hr : DK X W E kws tks wks) (hp : PE X e ta → PK X kws tks → PK X (⟨nm, e, kpos⟩ :: kws) (tCons ta tks) := by exact fun a b => pk_cons a b) : DK X W E (⟨nm, e, kpos⟩ :: kws) (tCons ta tks) (wCons wa wks) := ⟨hp ha.pe hr.pe, dn_cons ha.dn hr.dn⟩
theorem dn_callG {K : PySem.W.Frag} {n m : Nat} (hG : GD K n m gV gD) (ha : DnA K W E tas was) (hk : DnA K W E tks wks) : Dn K W E (tCallG n m (spD K c) gV (WE W) tas tks) (wCallG n m c gD E was wks) := by
  intro F μ H ρ σ Q0 Q s h q
  refine ha F μ H ρ σ _ _ s h fun F1 μ1 H1 ds vs g1 s1 dv h1 => ?_
  refine hk F1 μ1 H1 ρ σ _ _ s1 h1 fun F2 μ2 H2 es zs g2 s2 dz h2 => ?_
  obtain ⟨l1, l2, h3⟩ := h2
  refine ⟨by rw [dv.len]; exact l1, by rw [dz.len]; exact l2, F2, μ2, gD ds es, _, _, s2.ok, hG F2 ds es vs zs l1 l2 (dv.mono g2) dz, h3, fun F3 μ3 H3 d v g3 s3 dv2 hd => ?_, fun F3 μ3 H3 C dd fs g3 s3 ex hd => ?_⟩
  · obtain ⟨μ4, l, h4⟩ := hd
    exact q F3 μ4 H3 d v (g1.trans (g2.trans g3)) ((s2.mono g3 s3).weak l) dv2 h4
  · obtain ⟨μ4, l, h4⟩ := hd
    exact s2.wok F3 μ4 H3 ρ σ C dd fs g3 (s3.weak l) (s2.env.mono g3) ex h4
theorem ecallD (tk : L2N.Takes X W) (h : DfG X.prog X.w X.K X.mg X.base x k ps n [] gV c) (hG : GD X.K n 0 gV gD) (hr : Room k X.A) (ha : DA X W E (e :: es) tas was)
    (hg : Gl X x := by rfl) (hdb : (x == ("__debug__" : Str)) = false := by decide) (he : starEach (e :: es) X.env = (false, eval e X.env) :: starEach es X.env := by rfl) (hpl : (backTo pos (starEach es X.env)).any (·.1) = false := by rfl) :
    DE X W E (.Call (.Name x p) (e :: es) [] pos) (tCallG n 0 (spD X.K c) gV (WE W) tas tNil) (wCallG n 0 c gD E was wNil) := by
  obtain ⟨f, fd, G, hm, hk, hb⟩ := h.ex
  exact ⟨pe_cb G hr hg hm hk hb (fun σ => L2N.passAt tk σ) ha.pe hdb he hpl, dn_callG hG ha.dn dn_nil⟩
theorem ecallK (tk : L2N.Takes X W) (h : DfG X.prog X.w X.K X.mg X.base x k ps n ks gV c) (hG : GD X.K n ks.length gV gD) (hr : Room k X.A) (ha : DA X W E (e :: es) tas was) (hkw : DK X W E kws tks wks)
    (hg : Gl X x := by rfl) (hks : (backToKw pos (keywordEach kws X.env)).filterMap (·.1) = ks := by rfl) (hall : (backToKw pos (keywordEach kws X.env)).all (·.1.isSome) = true := by rfl) (hdb : (x == ("__debug__" : Str)) = false := by decide) (he : starEach (e :: es) X.env = (false, eval e X.env) :: starEach es X.env := by rfl)
    (hpl : ((backTo pos (starEach (e :: es) X.env)).any (·.1) || (backToKw pos (keywordEach kws X.env)).any (·.1.isNone)) = false := by rfl) :
    DE X W E (.Call (.Name x p) (e :: es) kws pos) (tCallG n ks.length (spD X.K c) gV (WE W) tas tks) (wCallG n ks.length c gD E was wks) := by
  obtain ⟨f, fd, G, hm, hk, hb⟩ := h.ex
  exact ⟨pe_cbK G hr hg hm hk hb (fun σ => L2N.passAt tk σ) ha.pe hkw.pe hks hall hdb he hpl, dn_callG hG ha.dn hkw.dn⟩
theorem ecallK0 (tk : L2N.Takes X W) (h : DfG X.prog X.w X.K X.mg X.base x k ps 0 ks gV c) (hG : GD X.K 0 ks.length gV gD) (hr : Room k X.A) (hkw : DK X W E kws tks wks)
    (hg : Gl X x := by rfl) (hks : (backToKw pos (keywordEach kws X.env)).filterMap (·.1) = ks := by rfl) (hall : (backToKw pos (keywordEach kws X.env)).all (·.1.isSome) = true := by rfl) (hdb : (x == ("__debug__" : Str)) = false := by decide)
    (hpl : ((backTo pos (starEach [] X.env)).any (·.1) || (backToKw pos (keywordEach kws X.env)).any (·.1.isNone)) = false := by rfl) :
    DE X W E (.Call (.Name x p) [] kws pos) (tCallG 0 ks.length (spD X.K c) gV (WE W) tNil tks) (wCallG 0 ks.length c gD E wNil wks) := by
  obtain ⟨f, fd, G, hm, hk, hb⟩ := h.ex
  exact ⟨pe_cbK0 G hr hg hm hk hb (fun σ => L2N.passAt tk σ) hkw.pe hks hall hdb hpl, dn_callG hG dn_nil hkw.dn⟩
end
section
variable {P : Program} {w : World} {K : PySem.W.Frag} {mg : Str → Option Value} {base : Heap}
/-- the rule for a def with defaults -/
theorem okDD {x qual : Str} {st : Stmt} {f : Addr} {fd : FuncData} {dvs : List V} {kwd : List (Str × V)} {N ps : List Str} {k : Nat} {c : Ct} (F : FunD K x qual (defArgs st) (defBody st) (defScope st) dvs kwd f fd) (S : FnScope N ps (defScope st)) (hn : ps.length ≤ N.length) (hl : ∀ ds μ Q E, c ds μ Q E → ds.length = ps.length)
    (hb : ∀ (X : Cx) (W : WX) (E : EX) (cdv : Value) (A : Around) (outer : List Env) (s : Shared) (H : Hp) (Ex : XK), X = cxOf (L2N.CX P w) P w K mg base N qual (defScope st) f cdv A outer s H Ex → L2N.Takes X W → PassesOwn (model X.prog X.w) X.A X.env X.xe → Room k X.A →
      ∃ t ws, DSs X W E (defBody st) t ws ∧ ∀ ds μ Q E0, c ds μ Q E0 → E = (fun C fs _ μ => dwx E0 C fs μ) → ws (rets Q) (st0 N.length ds) μ) : FnOk P w K mg base (L2N.CX P w) (k + 1) f fd ps (spD K c) := by
  refine F.ok S (fun vs H Q E h => ?_) (fun cdv A outer s H vs Q Ex hr h => ?_)
  · obtain ⟨F, μ, ds, Q0, E0, _, dv, hc, _⟩ := h
    rw [dv.len]; exact hl _ _ _ _ hc
  · obtain ⟨F0, μ, ds, Q0, E0, sk, dv, hc, hq, he⟩ := h
    obtain ⟨t, ws, hd, hw⟩ := hb _ (fun cls d _ H => Ex cls d H) (fun C fs _ μ => dwx E0 C fs μ) cdv A outer s H Ex rfl (L2N.takes_of rfl rfl rfl rfl) (passes_of rfl) hr
    refine ⟨t, hd.pe, hd.dn F0 μ H _ _ (rets Q0) _ ⟨sk, env_start dv (by rw [hl _ _ _ _ hc]; exact hn), fun F' μ' H' ρ σ C d fs g s' _ ex h' => he F' μ' H' C d fs g s' ex h'⟩ (hw ds μ Q0 E0 hc rfl) ⟨fun F' μ' H' ρ' σ' g s' h' => ?_, fun F' μ' H' d v g s' dv' h' => ?_, fun F' μ' H' ρ' σ' g s' h' => h'.elim, fun F' μ' H' ρ' σ' g s' h' => h'.elim⟩⟩
    · exact hq F' μ' H' .non .non g s'.ok rfl h'
    · exact hq F' μ' H' d v g s' dv' h'
end
end DL
set_option maxHeartbeats 4000000
namespace DL
open PySem L2 PySem.Spec PyProof.Rows
/-! ### never reached -/
theorem snever {X : Cx} {W : WX} {E : EX} {sts : List Stmt} : DSs X W E sts tNever wNever := ⟨pss_never, dn_never⟩
/-! ### slices -/
abbrev WO := En → Mu → (Option Int → Mu → Prop) → Prop
def oNo : WO := fun _ μ Q => Q none μ
def oSo (a : WEx) : WO := fun ρ μ Q => a ρ μ fun d μ1 => match d with
  | .int i => Q (some i) μ1
  | _ => False
def DnO (K : PySem.W.Frag) (W : WX) (E : EX) (t : TO) (w : WO) : Prop := ∀ F μ H ρ σ (Q0 : Option Int → Mu → Prop) (Q : Option Int → Hp → Prop), S0 K W E F μ H ρ σ → w ρ μ Q0 → (∀ F' μ' H' o, Grow F F' → S0 K W E F' μ' H' ρ σ → Q0 o μ' → Q o H') → t σ H Q
structure DO (X : Cx) (W : WX) (E : EX) (e : Option Expr) (t : TO) (w : WO) : Prop where
  pe : PO X e t
  dn : DnO X.K W E t w
def cutD (xs : List D) (lo hi : Option Int) : List D := (xs.drop (HT.sIx xs.length 0 lo)).take (HT.sIx xs.length xs.length hi - HT.sIx xs.length 0 lo)
def wSl (f : D → Option Int → Option Int → Mu → (D → Mu → Prop) → Prop) (a : WEx) (l u : WO) : WEx := fun ρ μ Q => a ρ μ fun d μ1 => l ρ μ1 fun i μ2 => u ρ μ2 fun j μ3 => f d i j μ3 Q
/-- of a list: a new list for good -/
def lvr (μ : Mu) : D → Option (List D)
  | .lst l => some l
  | .lsr l => some l
  | .mut a => match μ a with
    | some (.lst l) => some l
    | _ => none
  | _ => none
def fSlL (d : D) (i j : Option Int) (μ : Mu) (Q : D → Mu → Prop) : Prop := match lvr μ d with
  | some l => Q (.lst (cutD l i j)) μ
  | none => False
def fSlT (d : D) (i j : Option Int) (μ : Mu) (Q : D → Mu → Prop) : Prop := match d with
  | .tup l => ¬ (HT.sIx l.length 0 i = 0 ∧ HT.sIx l.length l.length j = l.length) ∧ Q (.tup (cutD l i j)) μ
  | _ => False
section
variable {X : Cx} {W : WX} {E : EX} {K : PySem.W.Frag} {e : Expr} {te : TE} {we : WEx} {lo hi : Option Expr} {tl th : TO} {wl wh : WO} {pos p2 : Pos}
theorem onone : DO X W E none tNoPart oNo := ⟨po_none, fun F μ H ρ σ Q0 Q s h q => q F μ H none Grow.refl s h⟩
theorem osome (h : DE X W E e te we) : DO X W E (some e) (tPart te) (oSo we) := ⟨po_some h.pe, by
  intro F μ H ρ σ Q0 Q s hh q
  refine h.dn F μ H ρ σ _ _ s hh fun F1 μ1 H1 d v g1 s1 dv h1 => ?_
  split at h1
  · exact ⟨_, dv, q F1 μ1 H1 _ g1 s1 h1⟩
  · exact h1.elim⟩
theorem lvr_ok {F H : Hp} {μ : Mu} {x : D} {v : V} {l : List D} (s : Sok K F μ H) (dv : DV K F x v) (e : lvr μ x = some l) : ∃ a xs, v = .ref a ∧ SqL K H a xs ∧ DVs K F l xs := by
  have gH : Grow F H := s.sub
  unfold lvr at e
  split at e
  · cases e
    obtain ⟨a, xs, rfl, r, dl⟩ := dv
    exact ⟨a, xs, rfl, SqL.of (gH _ _ r), dl⟩
  · cases e
    obtain ⟨a, xs, rfl, r, dl⟩ := dv
    exact ⟨a, xs, rfl, gH.sl r, dl⟩
  · rename_i a
    split at e
    · rename_i l' em
      cases e
      obtain rfl : v = V.ref a := dv
      obtain ⟨_, xs, ho, dl⟩ := s.cel a _ em
      exact ⟨a, xs, rfl, SqL.of ho, dl⟩
    · cases e
  · cases e
theorem cut_dvs {F : Hp} {l : List D} {xs : List V} (h : DVs K F l xs) (i j : Option Int) : DVs K F (cutD l i j) (cutV xs i j) := by
  unfold cutD cutV
  rw [h.len]
  exact (h.drop _).take _
theorem dn_sl {r : V → Option Int → Option Int → Hp → VK → Prop} {f : D → Option Int → Option Int → Mu → (D → Mu → Prop) → Prop}
    (hf : ∀ F μ H x dx i j Q0 (Q : VK), Sok K F μ H → DV K F dx x → f dx i j μ Q0 → (∀ F' μ' H' d v, Grow F F' → Sok K F' μ' H' → DV K F' d v → Q0 d μ' → Q v H') → r x i j H Q)
    (he : Dn K W E te we) (hl : DnO K W E tl wl) (hh : DnO K W E th wh) : Dn K W E (tSl r te tl th) (wSl f we wl wh) := by
  intro F μ H ρ σ Q0 Q s h q
  refine he F μ H ρ σ _ _ s h fun F1 μ1 H1 d v g1 s1 dv h1 => ?_
  refine hl F1 μ1 H1 ρ σ _ _ s1 h1 fun F2 μ2 H2 i g2 s2 h2 => ?_
  refine hh F2 μ2 H2 ρ σ _ _ s2 h2 fun F3 μ3 H3 j g3 s3 h3 => ?_
  refine hf F3 μ3 H3 v d i j Q0 Q s3.ok (dv.mono (g2.trans g3)) h3 fun F4 μ4 H4 d4 v4 g4 s4 dv4 h4 => ?_
  exact q F4 μ4 H4 d4 v4 (g1.trans (g2.trans (g3.trans g4))) (s3.mono g4 s4) dv4 h4
theorem eslL (he : DE X W E e te we) (hl : DO X W E lo tl wl) (hh : DO X W E hi th wh) : DE X W E (.Subscript e (.Slice lo hi none p2) pos) (tSl (rSlL X.K) te tl th) (wSl fSlL we wl wh) :=
  ⟨pe_slice sl_list he.pe hl.pe hh.pe, dn_sl (fun F μ H x dx i j Q0 Q s dv h q => by
    unfold fSlL at h
    split at h
    · rename_i l el
      obtain ⟨a, xs, rfl, r, dl⟩ := lvr_ok s dv el
      refine ⟨a, xs, rfl, r, fun p hp => ?_⟩
      have f := s.free hp
      exact q _ μ _ (.lst _) _ (Grow.new f.1) (s.put hp) ⟨p, _, rfl, upd_same, (cut_dvs dl i j).mono (Grow.new f.1)⟩ h
    · exact h.elim) he.dn hl.dn hh.dn⟩
theorem eslT (he : DE X W E e te we) (hl : DO X W E lo tl wl) (hh : DO X W E hi th wh) : DE X W E (.Subscript e (.Slice lo hi none p2) pos) (tSl (rSlT X.K) te tl th) (wSl fSlT we wl wh) :=
  ⟨pe_slice sl_tup he.pe hl.pe hh.pe, dn_sl (fun F μ H x dx i j Q0 Q s dv h q => by
    unfold fSlT at h
    split at h
    · rename_i l
      obtain ⟨a, xs, rfl, r, dl⟩ := dv
      have gH : Grow F H := s.sub
      refine ⟨a, xs, rfl, gH.st r, by rw [dl.len]; exact h.1, fun p hp => ?_⟩
      have f := s.free hp
      exact q _ μ _ (.tup _) _ (Grow.new f.1) (s.put hp) ⟨p, _, rfl, upd_same, (cut_dvs dl i j).mono (Grow.new f.1)⟩ h.2
    · exact h.elim) he.dn hl.dn hh.dn⟩
end
/-! ### xs + ys -/
/-- of two lists: a new one for good -/
def fCat : F2 := fun x y μ Q => match lv μ x, lv μ y with
  | some l, some m => l.length + m.length ≤ 100000 ∧ Q (.lst (l ++ m)) μ
  | _, _ => False
theorem lv_ok {K : PySem.W.Frag} {F H : Hp} {μ : Mu} {x : D} {v : V} {l : List D} (s : Sok K F μ H) (dv : DV K F x v) (e : lv μ x = some l) : ∃ a xs, v = .ref a ∧ H a = some (.lst xs) ∧ DVs K F l xs := by
  unfold lv at e
  split at e
  · cases e
    obtain ⟨a, xs, rfl, r, dl⟩ := dv
    exact ⟨a, xs, rfl, s.sub _ _ r, dl⟩
  · rename_i a
    split at e
    · rename_i l' em
      cases e
      obtain rfl : v = V.ref a := dv
      obtain ⟨_, xs, ho, dl⟩ := s.cel a _ em
      exact ⟨a, xs, rfl, ho, dl⟩
    · cases e
  · cases e
theorem do_cat {K : PySem.W.Frag} : DOp K rCat fCat := by
  intro F μ H x y dx dy Q0 Q s d1 d2 h q
  unfold fCat at h
  split at h
  · rename_i l m el em
    obtain ⟨a, xs, rfl, ha, dl⟩ := lv_ok s d1 el
    obtain ⟨b, ys, rfl, hb, dm⟩ := lv_ok s d2 em
    refine ⟨a, b, xs, ys, rfl, rfl, ha, hb, sz5 (by rw [dl.len, dm.len]; exact h.1), fun p hp => ?_⟩
    have f := s.free hp
    exact q _ μ _ (.lst _) _ (Grow.new f.1) (s.put hp) ⟨p, _, rfl, upd_same, (dl.append dm).mono (Grow.new f.1)⟩ h.2
  · exact h.elim
theorem ecat {X : Cx} {W : WX} {E : EX} {a b : Expr} {ta tb : TE} {wa wb : WEx} {pos : Pos} (ha : DE X W E a ta wa) (hb : DE X W E b tb wb) : DE X W E (.BinOp a .Add b pos) (tOp rCat ta tb) (wOp fCat wa wb) := eo op_cat do_cat ha hb
/-! ### isinstance of a built-in class -/
inductive Ty where
  | non | bl | int | str | tup | lst | dic
  deriving DecidableEq
def Ty.nm : Ty → String
  | .non => "NoneType" | .bl => "bool" | .int => "int" | .str => "str" | .tup => "tuple" | .lst => "list" | .dic => "dict"
def isB (t T : Ty) : Bool := t == T || (t == .bl && T == .int)
theorem kit_all : ∀ t T : Ty, T ≠ .non → kitB t.nm T.nm = some (isB t T) := by
  intro t T h
  cases T <;> first | exact absurd rfl h | (cases t <;> decide +kernel)
def tyD (μ : Mu) : D → Option Ty
  | .non => some .non | .bl _ => some .bl | .int _ => some .int | .str _ => some .str | .tup _ => some .tup | .lst _ => some .lst | .lsr _ => some .lst | .dK _ _ => some .dic | .dT _ _ => some .dic
  | .mut a => match μ a with
    | some (.lst _) => some .lst
    | some (.dK _) => some .dic
    | some (.dT _) => some .dic
    | _ => none
  | .ins _ _ _ => none
  | .exc _ _ _ _ => none
  | .ob _ _ => none
def fIsi (T : Ty) (d : D) (μ : Mu) (Q : D → Mu → Prop) : Prop := T ≠ .non ∧ match tyD μ d with
  | some t => Q (.bl (isB t T)) μ
  | none => False
theorem sqt_ty {K : PySem.W.Frag} {H : Hp} {a : Addr} {xs : List V} (h : SqT K H a xs) : TyX K H (.ref a) (.type "tuple") := by
  rcases h with (h | ⟨o, h⟩) | ⟨o, its, n, e, c, _⟩
  · exact .base (.tup h)
  · exact .fTuple h
  · exact .kTuple e c
theorem sql_ty {K : PySem.W.Frag} {H : Hp} {a : Addr} {xs : List V} (h : SqL K H a xs) : TyX K H (.ref a) (.type "list") := by
  rcases h with (h | ⟨o, h⟩) | ⟨o, its, n, e, c, _⟩
  · exact .base (.lst h)
  · exact .base (.frz h)
  · exact .kList e c
theorem ty_ok {K : PySem.W.Frag} {F H : Hp} {μ : Mu} {d : D} {v : V} {t : Ty} (s : Sok K F μ H) (dv : DV K F d v) (e : tyD μ d = some t) : TyX K H v (.type t.nm) := by
  have gH : Grow F H := s.sub
  cases d with
  | non => cases e; rw [show v = V.non from dv]; exact .base .non
  | bl b => cases e; rw [show v = V.bl b from dv]; exact .base (.bl b)
  | int b => cases e; rw [show v = V.int b from dv]; exact .base (.int b)
  | str b => cases e; rw [show v = V.str b from dv]; exact .base (.str b)
  | tup l => cases e; obtain ⟨a, xs, rfl, r, _⟩ := dv; exact sqt_ty (gH.st r)
  | lst l => cases e; obtain ⟨a, xs, rfl, r, _⟩ := dv; exact .base (.lst (gH _ _ r))
  | lsr l => cases e; obtain ⟨a, xs, rfl, r, _⟩ := dv; exact sql_ty (gH.sl r)
  | dK k l => cases e; obtain ⟨a, xs, rfl, r, _⟩ := dv; exact .base (.dK (gH _ _ r))
  | dT k l => cases e; obtain ⟨a, xs, rfl, r, _⟩ := dv; exact .base (.dT (gH _ _ r))
  | ins C k l => cases e
  | exc a d k l => cases e
  | ob a o => cases e
  | «mut» a =>
    obtain rfl : v = V.ref a := dv
    have e : (match μ a with
      | some (.lst _) => some Ty.lst
      | some (.dK _) => some Ty.dic
      | some (.dT _) => some Ty.dic
      | _ => none) = some t := e
    split at e
    · rename_i l em; cases e; obtain ⟨_, xs, ho, _⟩ := s.cel a _ em; exact .base (.lst ho)
    · rename_i l em; cases e; obtain ⟨_, xs, ho, _⟩ := s.cel a _ em; exact .base (.dK ho)
    · rename_i l em; cases e; obtain ⟨_, xs, ho, _⟩ := s.cel a _ em; exact .base (.dT ho)
    · cases e
theorem eisi {X : Cx} {W : WX} {E : EX} {a : Expr} {ta : TE} {wa : WEx} {p p2 pos : Pos} {TN : Str} (T : Ty) (hm : X.mg "isinstance" = none) (hmT : X.mg TN = none) (hvT : bootBuiltins TN = some (.type T.nm)) (ha : DE X W E a ta wa) (hg : Gl X "isinstance" := by rfl) (hgT : Gl X TN := by rfl)
    (hnT : TN ≠ "__name__" := by decide) (hdT : (TN == ("__debug__" : Str)) = false := by decide)
    (hp : X.mg "isinstance" = none → PE X a ta → PE X (.Name TN p2) (tC (.ty T.nm)) → PE X (.Call (.Name "isinstance" p) [a, .Name TN p2] [] pos) (tCB (rIsi X.K) (tCons ta (tCons (tC (.ty T.nm)) tNil))) := by exact fun m x y => pe_callB call_isi (by rfl) m (by decide +kernel) (pa_cons x (pa_cons y pa_nil))) :
    DE X W E (.Call (.Name "isinstance" p) [a, .Name TN p2] [] pos) (tCB (rIsi X.K) (tCons ta (tCons (tC (.ty T.nm)) tNil))) (wUn (fIsi T) wa) := by
  refine ⟨hp hm ha.pe (pe_bltn hgT hmT hvT rfl hnT hdT), ?_⟩
  intro F μ H ρ σ Q0 Q s h q
  refine ha.dn F μ H ρ σ _ _ s h fun F1 μ1 H1 d v g1 s1 dv h1 => ?_
  unfold fIsi at h1
  obtain ⟨hT, h1⟩ := h1
  split at h1
  · rename_i t et
    exact ⟨v, .ty T.nm, .type t.nm, .type T.nm, isB t T, rfl, .ty _, ty_ok s1.ok dv et, kit_ty (kit_all t T hT), q F1 μ1 H1 (.bl _) _ g1 s1 rfl h1⟩
  · exact h1.elim
end DL
set_option maxHeartbeats 4000000
namespace DL
open PySem L2 PySem.Spec PyProof.Rows HotX L2H
/-! ### where an exception is handled: walking a list to its end -/
theorem listEnd_hot {prog : Program} {w : World} {A : Around} {E : Value → Shared → Prop} {s : Shared} {it l hx : Addr} {i : Nat} {its : Array Value} {Q : Option Value → Shared → Prop} (hot : HotAt A hx s.heap) (hit : s.heap.IsListIter it l i) (hne : hx ≠ it)
    (hl : s.heap.IsList l its) (hx' : its[i]? = none) (hQ : ∀ h', (∀ b o, b ≠ it → s.heap.get? b = some o → h'.get? b = some o) → Q none { s with heap := h' }) : wpAny (model prog w) A (pyNext (.ref it)) Q E s := by
  obtain ⟨oi, gi, ci, di⟩ := id hit
  obtain ⟨ol, gl, _, nl, dl⟩ := hl
  obtain ⟨hh, o1, v1, g1, d1, c1⟩ := hot
  unfold pyNext
  refine wpAny_bind (wpAny_attempt (wpAny_callSpecial?_slot (name := Str.ofString "__next__") hit.typeIs slot_listiter_next (wpAny_call_entry slot_listiter_next hit.typeIs entry_listiter_next ?_ (args_listiter_next _))))
  show wpAny _ _ (field (.ref it) 0 >>= _) _ _ _
  refine wpAny_bind (wpAny_field gi di (x := .ref l) rfl ?_)
  show wpAny _ _ (if (Value.ref l == Value.none) = true then _ else _) _ _ _
  rw [if_neg (show ¬ (Value.ref l == Value.none) = true from Bool.false_ne_true)]
  show wpAny _ _ (field (.ref it) 1 >>= _) _ _ _
  refine wpAny_bind (wpAny_field gi di (x := .int i 0) rfl ?_)
  show wpAny _ _ (seqItems? (.ref l) >>= _) _ _ _
  refine wpAny_bind (wpAny_seqItems gl dl ?_)
  simp only [Int.toNat_natCast, hx']
  refine wpAny_bind (wpAny_rule (wpAny_bind (wpAny_setField gi di (by simp) ?_)))
  show wpAny _ _ (newExc (.type "StopIteration") [] >>= _) _ _ _
  refine wpAny_bind ?_
  simp only [newExc, newTuple]
  have k1 : ∀ b o, b ≠ it → s.heap.get? b = some o → (s.heap.update it (Obj.mapFields (·.setIfInBounds 0 Value.none))).get? b = some o := fun b o hb e => by rw [Heap.get?_update_other _ _ (Ne.symm hb)]; exact e
  refine wpAny_bind (wpAny_newObj_type ?_ (by size_fits))
  refine wpAny_bind (m := firstArgMember _ _) (wpAny_of_eq (a := Value.none) (by first | rfl | (simp only [firstArgMember]; rfl)) ?_)
  refine wpAny_newObj_type ?_ (by size_fits)
  refine raiseNew_hot ⟨hh, o1, v1, Heap.get?_push_of_some _ (Heap.get?_push_of_some _ (k1 hx o1 hne g1)), d1, c1⟩ (Nat.ne_of_lt (Heap.lt_size (Heap.get?_push_of_some _ (k1 hx o1 hne g1)))) (Heap.get?_push_size _ rfl) rfl (by first | (simp; done) | (simp; omega) | (simp only [Array.size_append]; simp; omega)) ?_
  refine wpAny_bind (wpAny_isInstance (T := "StopIteration") (b := true) ⟨_, Heap.get?_update_self _ (Heap.get?_push_size _ rfl) rfl, rfl⟩ isSubtype_stop ?_)
  refine wpAny_pure (hQ _ fun b o hb e => ?_)
  rw [Heap.get?_update_other _ _ (Nat.ne_of_gt (Heap.lt_size (Heap.get?_push_of_some _ (k1 b o hb e))))]
  exact Heap.get?_push_of_some _ (Heap.get?_push_of_some _ (k1 b o hb e))
section
variable {X : Cx}
/-- a list's comprehension there -/
theorem lc_hot {pins : List (Addr × Obj)} {s : Shared} {σ : L2.St} {H : Hp} {Q : VK} {elt tg l : Expr} {ifs : List Expr} {sc : Scope} {own : List (Str × Nat)} {pos ps : Pos} {tl : TE} {g : TG} {tt : TT} {te : TE}
    (hot : HotC X) (nd : X.N.Nodup) (I : Inv X pins σ H s) (hl : PE X l tl) (ok : BlkOk X.N X.env.scope sc own) (hg : ∀ u J C cl fp, PG (X.blk u J sc (compEnvC sc cl C X.env) fp) tg g)
    (ht : ∀ u J C cl fp, PTs (X.blk u J sc (compEnvC sc cl C X.env) fp) ifs tt) (he : ∀ u J C cl fp, PE (X.blk u J sc (compEnvC sc cl C X.env) fp) elt te) (hs : ∀ x, foldedSetIterable l X.env x = pure x)
    (h : tLc (iList X.K tl) g tt te (own.map (·.2)) σ H Q) : wpAny (model X.prog X.w) X.A (comprehension (.ListComp elt [⟨tg, l, ifs, 0⟩] sc pos) sc X.env ps (newList []) false (eval l X.env) none) (EP X pins σ Q) X.xe s := by
  have fr : ∀ y ∈ sc.names, y.2 = .free → ∃ c, X.env.cells.lookup y.1 = some c := fun y hy e => (ok.free y hy e).elim (fun k => I.ok.has _ (.inl k)) fun k => I.ok.has _ (.inr k)
  refine wpAny_comprehension_free (use := none) rfl hs (closure_ok fr) ok.kind (fun y hy e => by rw [ok.uniq y hy, e]) (thn (hl.run pins s σ H _ I h) fun xv s1 ⟨x, H1, I1, r1, a, ex, ⟨xs0, hq0⟩, q⟩ => ?_)
  subst ex
  cases r1
  obtain ⟨its, rv, pl, hz⟩ := I1.list hq0
  refine wpAny_pyIter_list pl.isList ?_
  generalize hit : s1.heap.objs.size = it
  have fpI : FpOk X pins H1 it := I1.fpOk (Nat.le_of_eq hit) (I1.hok.fresh (Nat.le_of_eq hit))
  generalize hu2 : ({ s1 with heap := s1.heap.push { cls := .type "list_iterator", data := .fields #[.ref a, .int 0 0] } } : Shared) = u2
  have I2 : Inv X pins σ H1 u2 := by rw [← hu2]; exact I1.kept (t' := s1.toks) fun b o e => Heap.get?_push_of_some _ e
  have li2 : u2.heap.IsListIter it a 0 := by rw [← hu2, ← hit]; exact ⟨_, Heap.get?_push_size _ rfl, rfl, rfl⟩
  have T := turn_list (P := X.prog) (w := X.w) (K := X.K) (tg := tg) a it
  refine wpAny_newObj_type (newEnv_comp ?_) (Nat.zero_le _)
  generalize hD : u2.heap.objs.size = D
  have lt2 : it < u2.heap.objs.size := by obtain ⟨o, e, _⟩ := id li2; exact Heap.lt_size e
  have hDn : H1 D = none := I2.hok.fresh (Nat.le_of_eq hD)
  obtain ⟨W, ⟨m0, w0⟩, turn⟩ := q D hDn
  generalize hu3 : ({ u2 with heap := u2.heap.push { cls := .type "list", data := .seq ([] : List Value).toArray } } : Shared) = u3
  have I3 : Inv X pins σ (upd H1 D (.lst [])) u3 := by
    rw [← hu3]
    refine I2.laid (t' := u2.toks) (fun b o e => Heap.get?_push_of_some _ e) (Nat.le_of_eq hD) ⟨Nat.zero_le _, [], 0, .nil, ?_⟩
    rw [← hD]; exact Heap.get?_push_size _ rfl
  have e3 : u3.heap = u2.heap.push { cls := .type "list", data := .seq ([] : List Value).toArray } := by rw [← hu3]
  have nDi : it ≠ D := by rw [← hD]; exact Nat.ne_of_lt lt2
  have fp3 : ∀ b ∈ [it], FpOk X pins (upd H1 D (.lst [])) b ∧ b < u3.heap.objs.size := fun b hb => by
    obtain rfl : b = it := by simpa using hb
    exact ⟨⟨by rw [upd_ne nDi]; exact fpI.1, fpI.2⟩, by rw [e3, Heap.size_push]; exact Nat.lt_succ_of_lt lt2⟩
  have lt3 := (fp3 it (by simp)).2
  have li3 : u3.heap.IsListIter it a 0 := T.keep 0 _ _ li2 fun b _ o e => by rw [e3]; exact Heap.get?_push_of_some _ e
  have I4 := block_start I3 ok nd fp3
  have pg := hg u3 (upd H1 D (.lst [])) u3.heap.objs.size (cellsFrom (u3.heap.objs.size + 1) sc.names (cloFrom X.env.cells sc.names [])) [it]
  have pt := ht u3 (upd H1 D (.lst [])) u3.heap.objs.size (cellsFrom (u3.heap.objs.size + 1) sc.names (cloFrom X.env.cells sc.names [])) [it]
  have pe := he u3 (upd H1 D (.lst [])) u3.heap.objs.size (cellsFrom (u3.heap.objs.size + 1) sc.names (cloFrom X.env.cells sc.names [])) [it]
  show codeAny _ _ (.compStart (.ListComp elt [⟨tg, l, ifs, 0⟩] sc pos) 0 (.ref it) (.ref D) (compEnvC sc (cellsFrom (u3.heap.objs.size + 1) sc.names (cloFrom X.env.cells sc.names [])) u3.heap.objs.size X.env)) (compPost (model X.prog X.w) X.A X.xe none (EP X pins σ Q) (.ref D) u3.heap.objs.size) { u3 with heap := pushCells (u3.heap.push { cls := .type "dict", data := .dict #[] }) sc.names }
  generalize hce : compEnvC sc (cellsFrom (u3.heap.objs.size + 1) sc.names (cloFrom X.env.cells sc.names [])) u3.heap.objs.size X.env = ce at I4 pg pt pe ⊢
  have cL : ce.locals = u3.heap.objs.size := by subst hce; rfl
  generalize hH3 : upd H1 D (.lst []) = H3 at I3 I4 pg pt pe w0 fp3
  generalize hu4 : ({ u3 with heap := pushCells (u3.heap.push { cls := .type "dict", data := .dict #[] }) sc.names } : Shared) = u4 at I4 ⊢
  have li4 : u4.heap.IsListIter it a 0 := T.keep 0 _ _ li3 fun b _ o e => by rw [← hu4]; exact pushCells_keeps _ _ _ _ (Heap.get?_push_of_some _ e)
  have stat : ∀ {τ : L2.St} {H' : Hp} {u : Shared}, Inv (X.blk u3 H3 sc ce [it]) [] τ H' u → H' it = none → ∀ b ∈ [it], FpOk (X.blk u3 H3 sc ce [it]) [] H' b := fun {τ H' u} J hn b hb => by
    obtain rfl : b = it := by simpa using hb
    exact ⟨hn, (J.ok.exf b hb).1, J.ok.exfs b hb, .inl hb, fun x c e => (J.ok.exf b hb).2 x c e, fun p hp => absurd (show p ∈ ([] : List (Addr × Obj)) ++ [] from hp) (by simp)⟩
  have loop : codeAny (model X.prog X.w) X.A (.compLoop (.ListComp elt [⟨tg, l, ifs, 0⟩] sc pos) 0 (.ref it) (.ref D) ce) (compPost (model X.prog X.w) X.A X.xe none (EP X pins σ Q) (.ref D) u3.heap.objs.size) u4 := by
    refine compLoop_any (fun n u => ∃ i H', Inv (X.blk u3 H3 sc ce [it]) [] (wipe σ (own.map (·.2))) H' u ∧ u.heap.IsListIter it a i ∧ H' it = none ∧ W i n H') ?_ m0 ⟨0, H3, I4, li4, (fp3 it (by simp)).1.1, w0⟩
    rintro n u5 ⟨i, H5, I5, li5, n5, w5⟩
    rcases turn i n H5 w5 with ⟨⟨xs, hq, hx⟩, qq⟩ | ⟨⟨xs, x, hq, hx⟩, Nx, hNx, step⟩
    · obtain ⟨jts, rj, pj, hzj⟩ := I5.list hq
      have hf := (fp3 it (by simp)).1
      have I7 : Inv X pins σ H5 u5 := I3.call' (ch := [it]) I5.os I5.base I5.hok I5.bare fun b hb => by
        obtain rfl : b = it := by simpa using hb
        exact ⟨hf.2.2.2.1, hf.2.1, hf.2.2.2.2.1, hf.2.2.2.2.2⟩
      obtain ⟨p, ⟨hh, v1, d1, c1⟩, hp⟩ := hot
      have nC : H5 u3.heap.objs.size = none := by have z : H5 ce.locals = none := I5.free; rw [cL] at z; exact z
      obtain ⟨m, hn, _⟩ := I5.loc
      have hn : u5.heap.Ns ce.locals m := hn
      rw [cL] at hn
      have lj := rj.length
      refine listEnd_hot (hx := p.1) ⟨hh, p.2, v1, (I7.pin p (List.mem_append_left _ hp)).1, d1, c1⟩ li5 (hf.2.2.2.2.2 p (List.mem_append_left _ hp)) pj.isList (by simp; omega) fun h' kk => ?_
      have I8 : Inv X pins σ H5 { u5 with heap := h' } := I7.turned (t' := u5.toks) kk n5 hf.2.1 hf.2.2.2.1 hf.2.2.2.2.1 hf.2.2.2.2.2
      have fC : FpOk X pins H5 u3.heap.objs.size := I3.fpOk (Nat.le_refl _) nC
      obtain ⟨o, es, ep, eo, dd, rr⟩ := hn
      refine ⟨m, ⟨o, es, ep, kk _ o (Nat.ne_of_gt lt3) eo, dd, rr⟩, fun h'' sb => ?_⟩
      exact ⟨.ref D, H5, I8.turned (t' := u5.toks) (fun b o hb e => (sb.2 b hb).trans e) fC.1 fC.2.1 fC.2.2.2.1 fC.2.2.2.2.1 fC.2.2.2.2.2, rfl, qq⟩
    · obtain ⟨jts, rj, pj, hzj⟩ := I5.list hq
      obtain ⟨uv, hu, ru⟩ := rj.get hx
      obtain ⟨f0, f1, f2, f3, f4, f5⟩ := stat I5 n5 it (by simp)
      refine wpAny_pyNext_list_item li5 pj.isList (x := uv) (by simpa using hu) fun h6 li6 sb => ?_
      have I6 : Inv (X.blk u3 H3 sc ce [it]) [] (wipe σ (own.map (·.2))) H5 { u5 with heap := h6 } := I5.turned (t' := u5.toks) (fun b o hb e => (sb.2 b hb).trans e) f0 f1 f3 f4 f5
      obtain ⟨o, eo, co, dj⟩ := id li6
      refine go_of (s := { u5 with heap := h6 }) eo co dj (by decide) ?_
      have I6' := I6.pinned (stat I6 n5) (T.obj (i + 1) h6 li6)
      have yl : (Itl X.K a).yld i H5 x H5 := ⟨rfl, fun ys hy => by rw [I6.list_inj hy hq]; exact hx⟩
      refine thnF (pg.run _ _ _ H5 x uv _ I6' ru (step x H5 yl)) fun _ u8 ⟨σ8, H8, I8, hw8, q8⟩ => ?_
      refine thnF (pt.run _ u8 σ8 H8 _ I8 q8) fun b u9 ⟨H9, I9, q9⟩ => ?_
      have fin : ∀ {u : Shared} {H' : Hp}, Inv (X.blk u3 H3 sc ce [it]) ([] ++ pinsAt [it] h6) σ8 H' u → Nx H' → ∃ m, m < n ∧ ∃ i H', Inv (X.blk u3 H3 sc ce [it]) [] (wipe σ (own.map (·.2))) H' u ∧ u.heap.IsListIter it a i ∧ H' it = none ∧ W i m H' := fun {u H'} J nx => by
        obtain ⟨m', hm, w'⟩ := hNx H' nx
        have pp := J.pin (it, o) (List.mem_append_right _ (List.mem_append_right _ (mem_pinsAt (by simp) eo)))
        have ll : (wipe σ (own.map (·.2))).length = σ8.length := by rw [← hw8, wipe_length]
        exact ⟨m', hm, i + 1, H', (J.unpinned (pins := [])).weak ll (fun j v e => by rw [← hw8] at e; exact (wipe_some e).1), ⟨o, pp.1, co, dj⟩, pp.2.1, w'⟩
      cases b with
      | false =>
        simp only [Bool.false_eq_true, if_false] at q9 ⊢
        exact fin I9 q9
      | true =>
        simp only [if_true] at q9 ⊢
        refine thnF (pe.run _ u9 σ8 H9 _ I9 q9) fun z u10 ⟨yv, H10, I10, r10, acc, hD10, hz10, nx⟩ => ?_
        exact app_ok (X := X.blk u3 H3 sc ce [it]) I10 hD10 hz10 r10 fun u11 I11 => fin I11 nx
  exact codeAny_compStart_list loop (T.self X.A 0 _ _ _ li4 loop)
theorem pe_lcH {elt tg l : Expr} {ifs : List Expr} {sc : Scope} {own : List (Str × Nat)} {pos : Pos} {tl : TE} {g : TG} {tt : TT} {te : TE} (hot : HotC X) (nd : X.N.Nodup) (hl : PE X l tl) (ok : BlkOk X.N X.env.scope sc own)
    (hg : ∀ u J C cl fp, PG (X.blk u J sc (compEnvC sc cl C X.env) fp) tg g) (ht : ∀ u J C cl fp, PTs (X.blk u J sc (compEnvC sc cl C X.env) fp) ifs tt) (he : ∀ u J C cl fp, PE (X.blk u J sc (compEnvC sc cl C X.env) fp) elt te) (hs : ∀ x, foldedSetIterable l X.env x = pure x) :
    PE X (.ListComp elt [⟨tg, l, ifs, 0⟩] sc pos) (tLc (iList X.K tl) g tt te (own.map (·.2))) := ⟨fun pins s σ H Q I h => by rw [eval_ListComp]; exact lc_hot hot nd I hl ok hg ht he hs h⟩
end
end DL
set_option maxHeartbeats 4000000
namespace DL
open PySem L2 PySem.Spec PyProof.Rows HotX L2H
/-! ### list comprehensions, over data -/
def wip {α : Type} (l : List (Option α)) : List Nat → List (Option α)
  | [] => l
  | v :: vs => (wip l vs).set v none
theorem wip_eq (σ : L2.St) : ∀ vs : List Nat, wip σ vs = wipe σ vs
  | [] => rfl
  | v :: vs => by
    show (wip σ vs).set v none = (wipe σ vs).set v none
    rw [wip_eq σ vs]
theorem wip_get {α : Type} (l : List (Option α)) (j : Nat) : ∀ vs : List Nat, (wip l vs)[j]? = if j ∈ vs then l[j]?.map (fun _ => none) else l[j]?
  | [] => by simp [wip]
  | v :: vs => by
    show ((wip l vs).set v none)[j]? = _
    have ih := wip_get l j vs
    have len : (wip l vs).length = l.length := by
      clear ih
      induction vs with
      | nil => rfl
      | cons u us q => show ((wip l us).set u none).length = _; rw [List.length_set, q]
    by_cases e : v = j
    · subst e
      rw [List.getElem?_set]
      simp only [if_true, List.mem_cons, true_or, len]
      by_cases h : v < l.length
      · rw [if_pos h, List.getElem?_eq_getElem h]; rfl
      · rw [if_neg h, List.getElem?_eq_none (by omega)]; rfl
    · rw [List.getElem?_set_ne e, ih]
      simp only [List.mem_cons, show (j = v) = False from eq_false (fun z => e z.symm), false_or]
theorem wip_set {α : Type} (l : List (Option α)) (x : Option α) {i : Nat} {vs : List Nat} (h : i ∈ vs) : wip ((wip l vs).set i x) vs = wip l vs := by
  refine List.ext_getElem? fun j => ?_
  rw [wip_get, wip_get]
  by_cases hj : j ∈ vs
  · rw [if_pos hj, if_pos hj]
    by_cases e : i = j
    · subst e
      rw [List.getElem?_set]
      simp only [if_true]
      have e1 := wip_get l i vs
      rw [if_pos hj] at e1
      by_cases q : i < (wip l vs).length
      · rw [if_pos q]
        rw [List.getElem?_eq_getElem q] at e1
        cases z : l[i]? with
        | none => rw [z] at e1; cases e1
        | some u => rfl
      · rw [if_neg q]
        rw [List.getElem?_eq_none (by omega)] at e1
        exact e1
    · rw [List.getElem?_set_ne e, wip_get, if_pos hj]
      cases l[j]? <;> rfl
  · rw [if_neg hj, if_neg hj, List.getElem?_set_ne (fun e => hj (by rw [← e]; exact h)), wip_get, if_neg hj]
theorem EnvOk.wip {K : PySem.W.Frag} {F : Hp} {ρ : En} {σ : L2.St} {vs : List Nat} (h : EnvOk K F ρ σ) : EnvOk K F (DL.wip ρ vs) (DL.wip σ vs) := by
  refine ⟨?_, fun j d e => ?_⟩
  · induction vs with
    | nil => exact h.1
    | cons u us q => show ((DL.wip ρ us).set u none).length = ((DL.wip σ us).set u none).length; rw [List.length_set, List.length_set, q]
  · rw [wip_get] at e ⊢
    by_cases hj : j ∈ vs
    · rw [if_pos hj] at e
      cases z : ρ[j]? with
      | none => rw [z] at e; cases e
      | some u => rw [z] at e; cases e
    · rw [if_neg hj] at e ⊢
      exact h.2 j d e
theorem EnvOk.clr {K : PySem.W.Frag} {F : Hp} {ρ : En} {σ : L2.St} {i : Nat} (h : EnvOk K F ρ σ) : EnvOk K F (ρ.set i none) (σ.set i none) := EnvOk.wip (vs := [i]) h
/-- [e for i in ..]: p is the new list; I of the turn and the cells -/
def wLc (wi : WI) (i : Nat) (vs : List Nat) (tt : WT) (te : WEx) : WEx := fun ρ μ Q => wi ρ μ fun k μ1 => ∀ p, μ1 p = none → ∃ I : Nat → Mu → Prop, I 0 (um μ1 p (.lst [])) ∧ (∀ j μ, I j μ → k.ok μ) ∧
  (∀ j d μ, k.items[j]? = some d → I j μ → tt ((wip ρ vs).set i (some d)) μ fun b μ3 => if b = true then te ((wip ρ vs).set i (some d)) μ3 fun y μ4 => ∃ acc, μ4 p = some (.lst acc) ∧ acc.length < 100000 ∧ I (j + 1) (um μ4 p (.lst (acc ++ [y]))) else I (j + 1) μ3) ∧ ∀ μ, I k.items.length μ → Q (.mut p) μ
section
variable {K : PySem.W.Frag} {W : WX} {E : EX}
theorem dn_lc {ti : TI} {wi : WI} {tt : TT} {wt : WT} {te : TE} {we : WEx} {i : Nat} {vs : List Nat} (hi : DnI K W E ti wi) (ht : DnT K W E tt wt) (he : Dn K W E te we) (hv : i ∈ vs) : Dn K W E (tLc ti (gName i) tt te vs) (wLc wi i vs wt we) := by
  intro F μ H ρ σ Q0 Q s h q
  refine hi F μ H ρ σ _ _ s h fun F1 μ1 H1 J k g1 s1 kk hk => ?_
  intro p hp
  have fr := s1.ok.free hp
  obtain ⟨I, i0, hok, step, done⟩ := hk p fr.2
  refine ⟨fun j m H' => m = k.items.length - j ∧ j ≤ k.items.length ∧ ∃ F' μ', Grow F1 F' ∧ S0 K W E F' μ' H' ρ σ ∧ I j μ', ⟨_, rfl, Nat.zero_le _, F1, _, Grow.refl, s1.mono Grow.refl (s1.ok.cell (m := .lst []) fr.1 ⟨[], upd_same, DVs.nil⟩), i0⟩, ?_⟩
  rintro j m H2 ⟨rfl, hl, F2, μ2, g2, s2, i2⟩
  by_cases hlt : j < k.items.length
  · refine .inr ⟨kk.go F2 μ2 H2 j g2 s2.ok (hok j μ2 i2) hlt, fun H' => j + 1 ≤ k.items.length ∧ ∃ F' μ', Grow F1 F' ∧ S0 K W E F' μ' H' ρ σ ∧ I (j + 1) μ', fun H' hN => ⟨k.items.length - (j + 1), by omega, rfl, hN.1, hN.2⟩, fun x H3 y => ?_⟩
    obtain ⟨F3, d, g3, s3, ed, dv⟩ := kk.yld F2 μ2 H2 j x H3 g2 s2.ok (hok j μ2 i2) hlt y
    have h3 := step j d μ2 ed i2
    rw [← wip_eq]
    refine ⟨by rw [← wip_eq]; exact wip_set σ (some x) hv, ?_⟩
    have S3 : S0 K W E F3 μ2 H3 ρ σ := s2.mono g3 s3
    refine ht F3 μ2 H3 _ _ _ _ ⟨s3, (S3.env.wip (vs := vs)).set dv, S3.wok⟩ h3 fun F4 μ4 H4 b g4 s4 h4 => ?_
    have S4 : S0 K W E F4 μ4 H4 ρ σ := S3.mono g4 s4.ok
    cases b with
    | false =>
      simp only [Bool.false_eq_true, if_false] at h4 ⊢
      exact ⟨hlt, F4, μ4, g2.trans (g3.trans g4), S4, h4⟩
    | true =>
      simp only [if_true] at h4 ⊢
      refine he F4 μ4 H4 _ _ _ _ s4 h4 fun F5 μ5 H5 dy yv g5 s5 dvy ⟨acc, ea, la, h5⟩ => ?_
      obtain ⟨f5, xs, ho, dl⟩ := s5.ok.cel p _ ea
      exact ⟨xs, ho, sz5l (by rw [dl.len]; exact la), hlt, F5, _, g2.trans (g3.trans (g4.trans g5)), (S4.mono g5 s5.ok).mono Grow.refl (s5.ok.cell (m := .lst _) f5 ⟨_, upd_same, dl.append (DVs.cons dvy DVs.nil)⟩), h5⟩
  · have ei : j = k.items.length := by omega
    subst ei
    exact .inl ⟨kk.stop F2 μ2 H2 _ g2 s2.ok (hok _ μ2 i2) (Nat.le_refl _), q F2 μ2 H2 (.mut p) (.ref p) (g1.trans g2) s2 rfl (done μ2 i2)⟩
end
structure DTs (X : Cx) (W : WX) (E : EX) (ifs : List Expr) (t : TT) (w : WT) : Prop where
  pe : PTs X ifs t
  dn : DnT X.K W E t w
def wYes : WT := fun _ μ Q => Q true μ
theorem tsnil {X : Cx} {W : WX} {E : EX} : DTs X W E [] tYes wYes := ⟨pts_nil, fun F μ H ρ σ Q0 Q s h q => q F μ H true Grow.refl s h⟩
theorem tsone {X : Cx} {W : WX} {E : EX} {c : Expr} {t : TT} {w : WT} (h : DT X W E c t w) : DTs X W E [c] t w := ⟨pts_one h.pe, h.dn⟩
/-- the reading that w alone gives -/
def tOfT (K : PySem.W.Frag) (W : WX) (E : EX) (w : WT) : TT := fun σ H Q => ∃ F μ ρ Q0, S0 K W E F μ H ρ σ ∧ w ρ μ Q0 ∧ ∀ F' μ' H' b, Grow F F' → S0 K W E F' μ' H' ρ σ → Q0 b μ' → Q b H'
def tOfE (K : PySem.W.Frag) (W : WX) (E : EX) (w : WEx) : TE := fun σ H Q => ∃ F μ ρ Q0, S0 K W E F μ H ρ σ ∧ w ρ μ Q0 ∧ PQ K W E F ρ σ Q0 Q
theorem dn_ofT {K : PySem.W.Frag} {W : WX} {E : EX} {w : WT} : DnT K W E (tOfT K W E w) w := fun F μ H ρ σ Q0 Q s h q => ⟨F, μ, ρ, Q0, s, h, q⟩
theorem dn_ofE {K : PySem.W.Frag} {W : WX} {E : EX} {w : WEx} : Dn K W E (tOfE K W E w) w := fun F μ H ρ σ Q0 Q s h q => ⟨F, μ, ρ, Q0, s, h, q⟩
theorem DTs.of {X : Cx} {W : WX} {E : EX} {ifs : List Expr} {t : TT} {w : WT} (h : DTs X W E ifs t w) : PTs X ifs (tOfT X.K W E w) := ⟨fun pins s σ H Q I ⟨F, μ, ρ, Q0, s0, hw, q⟩ => h.pe.run pins s σ H Q I (h.dn F μ H ρ σ Q0 Q s0 hw q)⟩
theorem DE.of {X : Cx} {W : WX} {E : EX} {e : Expr} {t : TE} {w : WEx} (h : DE X W E e t w) : PE X e (tOfE X.K W E w) := ⟨fun pins s σ H Q I ⟨F, μ, ρ, Q0, s0, hw, q⟩ => h.pe.run pins s σ H Q I (h.dn F μ H ρ σ Q0 Q s0 hw q)⟩
section
variable {X : Cx} {W : WX} {E : EX} {elt l : Expr} {n : Str} {np pos : Pos} {ifs : List Expr} {sc : Scope} {own : List (Str × Nat)} {tl te : TE} {wl we : WEx} {tt : TT} {wt : WT} {i : Nat}
theorem elcH (hot : HotC X) (nd : X.N.Nodup) (own : List (Str × Nat)) (i : Nat) {vs : List Nat} (hl : DE X W E l tl wl) (hg : ∀ u J C cl fp, PG (X.blk u J sc (compEnvC sc cl C X.env) fp) (.Name n np) (gName i)) (ht : ∀ u J C cl fp, ∃ tt, DTs (X.blk u J sc (compEnvC sc cl C X.env) fp) W E ifs tt wt)
    (he : ∀ u J C cl fp, ∃ te, DE (X.blk u J sc (compEnvC sc cl C X.env) fp) W E elt te we) (hvs : own.map (·.2) = vs := by rfl) (ok : blkC X.N X.env.scope sc own = true := by rfl) (hv : i ∈ own.map (·.2) := by decide) (hs : ∀ x, foldedSetIterable l X.env x = pure x := by intro _; rfl) :
    DE X W E (.ListComp elt [⟨.Name n np, l, ifs, 0⟩] sc pos) (tLc (iList X.K tl) (gName i) (tOfT X.K W E wt) (tOfE X.K W E we) vs) (wLc (iLs wl) i vs wt we) := by
  subst hvs
  exact ⟨pe_lcH hot nd hl.pe (blkOk_by ok) hg (fun u J C cl fp => (ht u J C cl fp).elim fun _ h => h.of) (fun u J C cl fp => (he u J C cl fp).elim fun _ h => h.of) hs, dn_lc (di_list hl.dn) dn_ofT dn_ofE hv⟩
end
theorem gnmP {X : Cx} {x : Str} {pos : Pos} (i : Nat) (hN : X.N.Nodup) (hi : X.N[i]? = some x := by rfl) (hx : Loc X.env.scope x := by first | exact Or.inl rfl | exact Or.inr rfl) (hf : X.fn x = true ∨ X.env.scope.names.lookup x = some .local := by first | exact .inl rfl | exact .inr rfl) : PG X (.Name x pos) (gName i) := pg_name hN hi hx hf
/-! ### a def called where an exception of the class C is handled -/
/-- the exception at a, of the class C, is handled in X -/
def HotE (X : Cx) (a C : Addr) : Prop := ∃ oe, (a, oe) ∈ X.pn ∧ Hot1 X.A (a, oe) ∧ L2N.Zn (.ref C) none oe
theorem HotE.c {X : Cx} {a C : Addr} (h : HotE X a C) : HotC X := let ⟨oe, m, h1, _⟩ := h; ⟨(a, oe), h1, m⟩
structure FnHC (P : Program) (w : World) (K : PySem.W.Frag) (mg : Str → Option Value) (base : Heap) (CX : CXT) (k : Nat) (f : Addr) (fd : FuncData) (ps : List Str) (sp : Addr → Addr → Sp) : Prop where
  len : ∀ a C vs H Q E, sp a C vs H Q E → vs.length = ps.length
  run : ∀ (A : Around) (outer : List Env) (s : Shared) (H : Hp) (args : Args) (us : List Value) (vs : List V) (Q : VK) (E : XK) (p : Addr × Obj) (C : Addr), RoomH k A → Hot1 A p → L2N.Zn (.ref C) none p.2 → PinOk outer H s p → Env0 P w K mg base A outer s H →
    BindsTo s fd args (ps.zip us) → Vals vs us → sp p.1 C vs H Q E → codeAny (model P w) A (.call (.ref f) args) (CR CX outer P w H s Q E) s
section
variable {P : Program} {w : World} {K : PySem.W.Frag} {mg : Str → Option Value} {base : Heap}
theorem fnHC_of {x qual : Str} {st : Stmt} {f : Addr} {fd : FuncData} {N ps : List Str} {k : Nat} {CX : CXT} {sp : Addr → Addr → Sp} (F : Fun K x qual st f fd) (S : FnScope N ps (defScope st)) (len : ∀ a C vs H Q E, sp a C vs H Q E → vs.length = ps.length)
    (hb : ∀ (cdv : Value) (A : Around) (outer : List Env) (s : Shared) (H : Hp) (vs : List V) (Q : VK) (E : XK) (p : Addr × Obj) (C : Addr), Hot1 A p → L2N.Zn (.ref C) none p.2 → RoomH k (A.deeper (envOfC qual (defScope st) s.heap.objs.size f cdv)) → sp p.1 C vs H Q E →
      ∃ t, PSs (cxH CX P w K mg base N qual (defScope st) f cdv A outer s H E p) (defBody st) t ∧ t { nx := fun _ H' => Q .non H', rt := Q } (L2.start N vs) H) : FnHC P w K mg base CX (k + 1) f fd ps sp := by
  obtain ⟨oc, od, kV, dc, pm, an, cv, ct, sl, rfl, lk, hcd⟩ := F.ex
  refine ⟨len, fun A outer s H args us vs Q E p C hr hot hz hpin e0 hbd r hsp => ?_⟩
  have hlen := len _ _ _ _ _ _ hsp
  have inK : K.In s.heap := e0.mod.kin.keeps fun b o e => (e0.bs b o e).1
  refine codeAny_call_function hr.depth (inK _ _ lk) rfl S.co S.gen rfl (PySem.W.codeRec_of inK hcd) (hbd _ _ _ _ ?_)
  refine wpAny_newFunctionEnv_cells S.kind (fun ⟨n, v⟩ hy => ?_) fun env he s1 x => ?_
  · rcases S.par n (List.of_mem_zip hy).1 with q | q
    · exact .inl q
    · exact .inr ⟨q, PySem.W.cellsFrom_some _ _ _ (.inl q)⟩
  subst he
  refine ⟨(e0.mod.nolimit.keeps fun b o e => (e0.bs b o e).1).keeps x.toInCall.keep, codeAny_func ?_⟩
  obtain ⟨t, ht, hq⟩ := hb cv A outer s H vs Q E p C hot hz (hr.deeper _) hsp
  have I := inv_startH (CX := CX) (E := E) S hpin e0 hlen r x
  refine wpAny_mono (ht.run [] s1 (L2.start N vs) H _ I hq) (fun fl s' hs => ?_) fun e s' hs => hs
  match fl, hs with
  | .ret u, ⟨v, σ', H', J, rv, q⟩ => exact ⟨v, H', J.os, J.bare, J.base, J.hok, rv, q⟩
  | .next, ⟨σ', H', J, q⟩ => exact ⟨V.non, H', J.os, J.bare, J.base, J.hok, rfl, q⟩
  | .brk, ⟨_, _, _, q⟩ => exact q.elim
  | .cont, ⟨_, _, _, q⟩ => exact q.elim
theorem FnHC.call {X : Cx} {k : Nat} {f : Addr} {fd : FuncData} {ps : List Str} {sp : Addr → Addr → Sp} {CX : CXT} {E : L2.St → XK} {a C : Addr} {x : Str} {q pos : Pos} {e : Expr} {es : List Expr} {t : TA} (F : FnHC X.prog X.w X.K X.mg X.base CX k f fd ps sp) (hr : RoomH k X.A) (hc : HotE X a C) (hg : Gl X x) (hm : X.mg x = some (.ref f))
    (hk : PySem.W.keepIn X.K (.ref f) = true) (hb : Binds X.K fd ps []) (hx : ∀ σ, PassesAt CX X σ (E σ)) (ha : PA X (e :: es) t) (hdb : (x == ("__debug__" : Str)) = false) (he : starEach (e :: es) X.env = (false, eval e X.env) :: starEach es X.env) (hpl : (backTo pos (starEach es X.env)).any (·.1) = false) :
    PE X (.Call (.Name x q) (e :: es) [] pos) (tCallS (sp a C) E t) := by
  refine ⟨fun pins s σ H Q I h => wpAny_Call_Name_kw (ld_glob I hg hm ?_ hdb)⟩
  refine PySem.W.callWith_K (h₀ := X.base) I.ok.mod.kin hk (thn (ha.run pos pins s σ H _ I h) fun us s1 ⟨vs, H1, I1, r, z⟩ => ⟨I1.kIn, ?_⟩) he hpl
  obtain ⟨oe, hm, h1, hz⟩ := hc
  have bb := hb s1 us I1.kIn (by rw [List.append_nil, ← r.length]; exact F.len _ _ _ _ _ _ z)
  rw [List.append_nil] at bb
  have pp := I1.pin (a, oe) (List.mem_append_left _ hm)
  refine wpAny_call (codeAny_mono (F.run X.A X.stack s1 H1 ⟨us, []⟩ us vs Q (E σ) (a, oe) C hr h1 hz ⟨pp.1, pp.2.1, fun w => (List.mem_cons.mp (I1.stkSub a w)).elim pp.2.2.1 pp.2.2.2.1, pp.2.2.2.2⟩ I1.env0 bb r z) fun res s' hq => ?_)
  match res, hq with
  | .error er, hq => exact hx σ pins H1 s1 er s' I1 hq
  | .ok (.ret u), hq => exact I1.after hq
end
abbrev CtH := Addr → Addr → Ct
structure DfH (P : Program) (w : World) (K : PySem.W.Frag) (mg : Str → Option Value) (base : Heap) (x : Str) (k : Nat) (ps : List Str) (c : CtH) : Prop where
  ex : ∃ f fd, FnHC P w K mg base (L2N.CX P w) k f fd ps (fun a C => spD K (c a C)) ∧ mg x = some (.ref f) ∧ PySem.W.keepIn K (.ref f) = true ∧ Binds K fd ps []
section
variable {P : Program} {w : World} {K : PySem.W.Frag} {mg : Str → Option Value} {base : Heap}
theorem okH {x qual : Str} {st : Stmt} {f : Addr} {fd : FuncData} {N ps : List Str} {k : Nat} {c : CtH} (F : Fun K x qual st f fd) (S : FnScope N ps (defScope st)) (hn : ps.length ≤ N.length) (hl : ∀ a C ds μ Q E, c a C ds μ Q E → ds.length = ps.length) (PC : Addr → Prop) (hPC : ∀ a C ds μ Q E, c a C ds μ Q E → PC C)
    (hb : ∀ (X : Cx) (W : WX) (E : EX) (cdv : Value) (A : Around) (outer : List Env) (s : Shared) (H : Hp) (Ex : XK) (p : Addr × Obj) (C : Addr), X = cxH (L2N.CX P w) P w K mg base N qual (defScope st) f cdv A outer s H Ex p → PC C → HotE X p.1 C → L2N.Takes X W → PassesOwn (model X.prog X.w) X.A X.env X.xe → RoomH k X.A →
      ∃ t ws, DSs X W E (defBody st) t ws ∧ ∀ ds μ Q E0, c p.1 C ds μ Q E0 → E = (fun C fs _ μ => dwx E0 C fs μ) → ws (rets Q) (st0 N.length ds) μ) : FnHC P w K mg base (L2N.CX P w) (k + 1) f fd ps (fun a C => spD K (c a C)) := by
  refine fnHC_of F S (fun a C vs H Q E h => ?_) (fun cdv A outer s H vs Q Ex p C hot hz hr h => ?_)
  · obtain ⟨F, μ, ds, Q0, E0, _, dv, hc, _⟩ := h
    rw [dv.len]; exact hl _ _ _ _ _ _ hc
  · obtain ⟨F0, μ, ds, Q0, E0, sk, dv, hc, hq, he⟩ := h
    obtain ⟨t, ws, hd, hw⟩ := hb _ (fun cls d _ H => Ex cls d H) (fun C fs _ μ => dwx E0 C fs μ) cdv A outer s H Ex p C rfl (hPC _ _ _ _ _ _ hc) ⟨p.2, List.mem_cons_self, hot, hz⟩ (L2N.takes_of rfl rfl rfl rfl) (passes_of rfl) hr
    refine ⟨t, hd.pe, hd.dn F0 μ H _ _ (rets Q0) _ ⟨sk, env_start dv (by rw [hl _ _ _ _ _ _ hc]; exact hn), fun F' μ' H' ρ σ C d fs g s' _ ex h' => he F' μ' H' C d fs g s' ex h'⟩ (hw ds μ Q0 E0 hc rfl) ⟨fun F' μ' H' ρ' σ' g s' h' => hq F' μ' H' .non .non g s'.ok rfl h', fun F' μ' H' d v g s' dv' h' => hq F' μ' H' d v g s' dv' h', fun F' μ' H' ρ' σ' g s' h' => h'.elim, fun F' μ' H' ρ' σ' g s' h' => h'.elim⟩⟩
end
section
variable {X : Cx} {W : WX} {E : EX} {k : Nat} {ps : List Str} {c : CtH} {x : Str} {p pos : Pos} {e : Expr} {es : List Expr} {tas : TA} {was : WA} {a C : Addr}
theorem ecallH (tk : L2N.Takes X W) (h : DfH X.prog X.w X.K X.mg X.base x k ps c) (hc : HotE X a C) (hr : RoomH k X.A) (ha : DA X W E (e :: es) tas was)
    (hg : Gl X x := by rfl) (hdb : (x == ("__debug__" : Str)) = false := by decide) (he : starEach (e :: es) X.env = (false, eval e X.env) :: starEach es X.env := by rfl) (hpl : (backTo pos (starEach es X.env)).any (·.1) = false := by rfl) :
    DE X W E (.Call (.Name x p) (e :: es) [] pos) (tCallS (spD X.K (c a C)) (WE W) tas) (wCall (c a C) E was) := by
  obtain ⟨f, fd, G, hm, hk, hb⟩ := h.ex
  exact ⟨G.call hr hc hg hm hk hb (fun σ => L2N.passAt tk σ) ha.pe hdb he hpl, dn_call ha.dn⟩
/-! ### isinstance of it -/
theorem call_isx (hc : HotE X a C) (ex : ExcC X.K C) : CallR X (.builtin "isinstance") (rIsE X.K C a) := by
  intro pins s σ H xs us Q I r h
  obtain ⟨cl, cv, b, rfl, hcv, e, q⟩ := h
  obtain ⟨u1, u2, rfl, r1, r2⟩ := vals2 r
  cases r1
  have ec := hcv _ r2
  subst ec
  obtain ⟨oe, hm, ⟨_, vs, hv, _⟩, hz⟩ := hc
  have gt := (I.pin (a, oe) (List.mem_append_left _ hm)).1
  have J : PySem.W.InstAt s.heap a oe C none := by
    obtain ⟨oc, od, oda, osl⟩ := oe
    obtain ⟨h1, h2, _⟩ := hz
    dsimp only at h1 h2 hv
    subst h1 h2 hv
    exact ⟨gt, rfl, rfl, trivial⟩
  exact PySem.W.kia_one (PySem.W.handS_kitx_exc ex.hg ex.hk ex.hs ex.hd ex.ha ex.hn ex.ht ex.hm) I.kIn J e (fun z => nomatch z) fun tk => ⟨.bl b, H, I.kept (t' := tk) fun _ _ z => z, rfl, q⟩
def wIsx (b : Bool) (a : Addr) (w : WEx) : WEx := fun ρ μ Q => w ρ μ fun d μ1 => d = .mut a ∧ Q (.bl b) μ1
variable {o : Expr} {te : TE} {we : WEx} {p2 : Pos} {Y : Addr} {y : Str} {b : Bool}
theorem dn_isx {K : PySem.W.Frag} {cl : V} {cv : Value} (hv : ∀ u, RelV cl u → u = cv) (hk : PySem.W.kitOne K (.ref C) cv = some b) (he : Dn K W E te we) : Dn K W E (tCB (rIsE K C a) (tCons te (tCons (tC cl) tNil))) (wIsx b a we) := by
  intro F μ H ρ σ Q0 Q s h q
  refine he F μ H ρ σ _ _ s h fun F1 μ1 H1 d v g1 s1 dv h1 => ?_
  obtain ⟨rfl, h1⟩ := h1
  obtain rfl : v = V.ref a := dv
  exact ⟨cl, cv, b, rfl, hv, hk, q F1 μ1 H1 (.bl b) _ g1 s1 rfl h1⟩
theorem eisx (hc : HotE X a C) (ex : ExcC X.K C) (hmi : X.mg "isinstance" = none) (hy : X.mg y = some (.ref Y)) (hk : PySem.W.kitOne X.K (.ref C) (.ref Y) = some b) (he : DE X W E o te we) (hg : Gl X "isinstance" := by rfl) (hgy : Gl X y := by rfl) (hdb : (y == ("__debug__" : Str)) = false := by decide)
    (hp : X.mg "isinstance" = none → CallR X (.builtin "isinstance") (rIsE X.K C a) → PE X o te → PE X (.Name y p2) (tC (.ref Y)) → PE X (.Call (.Name "isinstance" p) [o, .Name y p2] [] pos) (tCB (rIsE X.K C a) (tCons te (tCons (tC (.ref Y)) tNil))) := by exact fun m z x y => pe_callB z (by rfl) m (by decide +kernel) (pa_cons x (pa_cons y pa_nil))) :
    DE X W E (.Call (.Name "isinstance" p) [o, .Name y p2] [] pos) (tCB (rIsE X.K C a) (tCons te (tCons (tC (.ref Y)) tNil))) (wIsx b a we) :=
  ⟨hp hmi (call_isx hc ex) he.pe (pe_glob hgy hy rfl hdb), dn_isx (fun u r => r) hk he.dn⟩
theorem eisxN (hc : HotE X a C) (ex : ExcC X.K C) (hmi : X.mg "isinstance" = none) (h : ∃ Y, X.mg y = some (.ref Y) ∧ PySem.W.kitOne X.K (.ref C) (.ref Y) = some b) (he : DE X W E o te we) (hg : Gl X "isinstance" := by rfl) (hgy : Gl X y := by rfl) (hdb : (y == ("__debug__" : Str)) = false := by decide)
    (hp : X.mg "isinstance" = none → CallR X (.builtin "isinstance") (rIsE X.K C a) → PE X o te → PE X (.Name y p2) (tC (.ref h.choose)) → PE X (.Call (.Name "isinstance" p) [o, .Name y p2] [] pos) (tCB (rIsE X.K C a) (tCons te (tCons (tC (.ref h.choose)) tNil))) := by exact fun m z x y => pe_callB z (by rfl) m (by decide +kernel) (pa_cons x (pa_cons y pa_nil))) :
    DE X W E (.Call (.Name "isinstance" p) [o, .Name y p2] [] pos) (tCB (rIsE X.K C a) (tCons te (tCons (tC (.ref h.choose)) tNil))) (wIsx b a we) :=
  ⟨hp hmi (call_isx hc ex) he.pe (pe_glob hgy h.choose_spec.1 rfl hdb), dn_isx (fun u r => r) h.choose_spec.2 he.dn⟩
theorem eisxB (hc : HotE X a C) (ex : ExcC X.K C) (T : String) (hmi : X.mg "isinstance" = none) (hy : X.mg y = none) (hvT : bootBuiltins y = some (.type T)) (hk : PySem.W.kitOne X.K (.ref C) (.type T) = some b) (he : DE X W E o te we) (hg : Gl X "isinstance" := by rfl) (hgy : Gl X y := by rfl)
    (hn : y ≠ "__name__" := by decide) (hdb : (y == ("__debug__" : Str)) = false := by decide)
    (hp : X.mg "isinstance" = none → CallR X (.builtin "isinstance") (rIsE X.K C a) → PE X o te → PE X (.Name y p2) (tC (.ty T)) → PE X (.Call (.Name "isinstance" p) [o, .Name y p2] [] pos) (tCB (rIsE X.K C a) (tCons te (tCons (tC (.ty T)) tNil))) := by exact fun m z x y => pe_callB z (by rfl) m (by decide +kernel) (pa_cons x (pa_cons y pa_nil))) :
    DE X W E (.Call (.Name "isinstance" p) [o, .Name y p2] [] pos) (tCB (rIsE X.K C a) (tCons te (tCons (tC (.ty T)) tNil))) (wIsx b a we) :=
  ⟨hp hmi (call_isx hc ex) he.pe (pe_bltn hgy hy hvT rfl hn hdb), dn_isx (fun u r => r) hk he.dn⟩
end
/-! ### try: body, except x as n: suite -/
theorem room_mark {k : Nat} {A : Around} {h : Option Value} (r : Room k A) : RoomH k (A.mark h) := ⟨r.dp, r.un⟩
def noW : WX := fun _ _ _ _ => False
def noE : EX := fun _ _ _ _ => False
theorem takes_no {X : Cx} : L2N.Takes X noW := fun u s' ⟨_, _, _, _, _, _, _, _, _, _, _, _, _, _, _, _, z⟩ => z.elim
def clrD (i : Nat) (D : DEnds) : DEnds := { nx := fun ρ μ => D.nx (ρ.set i none) μ, rt := D.rt, bk := fun ρ μ => D.bk (ρ.set i none) μ, ct := fun ρ μ => D.ct (ρ.set i none) μ }
/-- P: the classes that are caught -/
def wTry (P : Addr → Prop) (i : Nat) (wb : EX → WS) (ws : Addr → Addr → WS) : WS := fun D ρ μ => wb (fun C fs ρ1 μ1 => fs = [] ∧ P C ∧ ∀ a, μ1 a = none → ws a C (clrD i D) (ρ1.set i (some (.mut a))) μ1) D ρ μ
def tSuite (ts : Addr → Addr → TS) : Addr → Value → Option Addr → TS := fun a cls d => match cls, d with
  | .ref C, none => ts a C
  | _, _ => tNever
/-- the reading that w alone gives -/
def tOfS (K : PySem.W.Frag) (w : EX → WS) (W : WX) : TS := fun Ds σ H => ∃ E F μ ρ D0, S0 K W E F μ H ρ σ ∧ w E D0 ρ μ ∧ EndsOk K W E F D0 Ds
theorem pss_of {X : Cx} {W : WX} {sts : List Stmt} {w : EX → WS} (h : ∀ E, ∃ t, DSs X W E sts t (w E)) : PSs X sts (tOfS X.K w W) := ⟨fun pins s σ H Ds I ⟨E, F, μ, ρ, D0, s0, hw, e⟩ => (h E).elim fun t d => d.pe.run pins s σ H Ds I (d.dn F μ H ρ σ D0 Ds s0 hw e)⟩
section
variable {X : Cx} {W : WX} {E : EX} {P : Addr → Prop} {i : Nat} {x n : Str} {c : Value} {np pos pos' : Pos} {body suite : List Stmt} {b₀ : Stmt} {wb : EX → WS} {ws : Addr → Addr → WS}
theorem stry (tk : L2N.Takes X W) (hP : ∀ C, P C → PySem.W.exmOne X.K (.ref C) c = some true) (hc : Names X x c) (hN : X.N.Nodup)
    (hb : ∀ (W : WX) (E : EX) (pn : List (Addr × Obj)) (xe : Value → Shared → Prop), L2N.Takes (X.tr pn xe) W → ∃ t, DSs (X.tr pn xe) W E body t (wb E))
    (hsu : ∀ (a C : Addr) (pn : List (Addr × Obj)), HotE (X.suite a pn) a C → L2N.Takes (X.suite a pn) noW → ∃ t, DSs (X.suite a pn) noW noE (b₀ :: suite) t (ws a C))
    (hs : X.stack = X.env :: X.outer := by rfl) (hf : X.env.frame = some X.env.locals := by rfl) (hi : X.N[i]? = some n := by rfl) (hln : X.env.kindOf n = some .local := by rfl) :
    DS X W E (.Try body [.ExceptHandler (some (.Name x np)) (some n) (b₀ :: suite) pos'] [] [] pos) (fun D σ H => tOfS X.K wb (wAs X.K c i (tSuite fun a C => fun Ds σ H => ∃ F μ ρ D0, S0 X.K noW noE F μ H ρ σ ∧ ws a C D0 ρ μ ∧ EndsOk X.K noW noE F D0 Ds) W D) D σ H) (wTry P i wb ws) := by
  have hot : ∀ a C oe pn, L2N.Zn (.ref C) none oe → (∃ vs, oe.data = .fields vs) → HotE (X.suite a ((a, oe) :: pn)) a C := fun a C oe pn hz ⟨vs, hv⟩ => ⟨oe, List.mem_cons_self, ⟨rfl, vs, hv, hz.2.2 vs hv⟩, hz⟩
  refine ⟨L2N.ps_try_as hs hf hN hi hln hc tk (fun W' pn xe tk' _ => pss_of fun E => hb W' E pn xe tk') (fun a oe cls d pn hz hv => ?_), ?_⟩
  · unfold tSuite
    split
    · obtain ⟨t, su⟩ := hsu a _ _ (hot a _ oe pn hz hv) takes_no
      exact ⟨fun pins s σ H Ds I ⟨F, μ, ρ, D0, s0, hw, e⟩ => su.pe.run pins s σ H Ds I (su.dn F μ H ρ σ D0 Ds s0 hw e)⟩
    · exact pss_never
  · intro F μ H ρ σ D0 Ds s h e
    refine ⟨fun C fs ρ1 μ1 => fs = [] ∧ P C ∧ ∀ a, μ1 a = none → ws a C (clrD i D0) (ρ1.set i (some (.mut a))) μ1, F, μ, ρ, D0, ⟨s.ok, s.env, fun F1 μ1 H1 ρ1 σ1 C d fs g1 s1 env1 ex1 ⟨ef, hPC, hw⟩ => ?_⟩, h, fun F1 μ1 H1 ρ1 σ1 g1 s1 h1 => e.nx F1 μ1 H1 ρ1 σ1 g1 ⟨s1.ok, s1.env, s.wok.mono g1⟩ h1, e.rt, fun F1 μ1 H1 ρ1 σ1 g1 s1 h1 => e.bk F1 μ1 H1 ρ1 σ1 g1 ⟨s1.ok, s1.env, s.wok.mono g1⟩ h1, fun F1 μ1 H1 ρ1 σ1 g1 s1 h1 => e.ct F1 μ1 H1 ρ1 σ1 g1 ⟨s1.ok, s1.env, s.wok.mono g1⟩ h1⟩
    subst ef
    have ed : d = none := ex1.elim (fun z => z.2) fun z => absurd rfl z.1
    subst ed
    refine ⟨true, hP C hPC, fun _ a ha => ?_, fun z => nomatch z⟩
    have back : ∀ {N0 : En → Mu → Prop} {N : L2.St → Hp → Prop}, PN X.K W E F N0 N → PN X.K noW noE F1 (fun ρ μ => N0 (ρ.set i none) μ) (fun σ H => N (σ.set i none) H) := fun {N0 N} hn F2 μ2 H2 ρ2 σ2 g2 s2 h2 => hn F2 μ2 H2 _ _ (g1.trans g2) ⟨s2.ok, s2.env.clr, s.wok.mono (g1.trans g2)⟩ h2
    exact ⟨F1, μ1, _, clrD i D0, ⟨s1, env1.set (d := .mut a) (v := .ref a) rfl, fun _ _ _ _ _ _ _ _ _ _ _ _ z => z.elim⟩, hw a (s1.free ha).2, back e.nx, fun F2 μ2 H2 d v g2 s2 dv h2 => e.rt F2 μ2 H2 d v (g1.trans g2) s2 dv h2, back e.bk, back e.ct⟩
end
end DL
set_option maxHeartbeats 4000000
namespace DL
open PySem L2 PySem.Spec PyProof.Rows
/-! ### calls by keywords, with defaults: how they bind -/
theorem cbF {K : PySem.W.Frag} {x qual : Str} {st : Stmt} {f : Addr} {fd : FuncData} {ps ks : List Str} {n : Nat} (F : Fun K x qual st f fd) (g : {α : Type} → List α → List α → List α)
    (hrel : ∀ {vs : List V} {us : List Value} {zs : List V} {ws : List Value}, vs.length = n → zs.length = ks.length → Vals vs us → Vals zs ws → Vals (g vs zs) (g us ws))
    (h : ∀ (kV doc pm : Value) (an : Option Addr) (cdv ct : Value) (us ws : List Value), us.length = n → ws.length = ks.length → bindArgs (PySem.W.fnOf x qual (defArgs st) (defBody st) (defScope st) .none kV doc pm an cdv ct) ⟨us, ks.zip ws⟩ = pure (ps.zip (g us ws))) : CB K fd ps n ks g := by
  obtain ⟨oc, od, kV, dc, pm, an, cv, ct, sl, rfl, lk, hcd⟩ := F.ex
  exact ⟨g, fun s us ws _ l1 l2 => .of_eq (h kV dc pm an cv ct us ws l1 l2), hrel⟩
theorem cbD {K : PySem.W.Frag} {x qual : Str} {st : Stmt} {f : Addr} {fd : FuncData} {ps ks : List Str} {dvs : List V} {n : Nat} (F : FunD K x qual (defArgs st) (defBody st) (defScope st) dvs [] f fd) (hd : dvs ≠ []) (g : {α : Type} → List α → List α → List α → List α)
    (hrel : ∀ {vs ds : List V} {us its : List Value} {zs : List V} {ws : List Value}, vs.length = n → zs.length = ks.length → Vals vs us → Vals ds its → Vals zs ws → Vals (g vs ds zs) (g us its ws))
    (h : ∀ (T : Addr) (kV doc pm : Value) (an : Option Addr) (cdv ct : Value) (us its ws : List Value), us.length = n → its.length = dvs.length → ws.length = ks.length →
      ∃ k, bindArgs (PySem.W.fnOf x qual (defArgs st) (defBody st) (defScope st) (.ref T) kV doc pm an cdv ct) ⟨us, ks.zip ws⟩ = seqItems? (.ref T) >>= k ∧ k (some its.toArray) = pure (ps.zip (g us its ws))) : CB K fd ps n ks (fun vs zs => g vs dvs zs) := by
  obtain ⟨oc, od, dV, kV, dc, pm, an, cv, ct, sl, rfl, lk, hcd, hD, hK⟩ := F.ex
  rcases hD with ⟨e, _⟩ | ⟨_, T, o, its, m, rfl, lT, oT, rT⟩
  · exact absurd e hd
  · refine ⟨fun us ws => g us its ws, fun s us ws X l1 l2 => BindsTo.of_looks fun M => ?_, fun l1 l2 r1 r2 => hrel l1 l2 r1 rT r2⟩
    obtain ⟨k, e1, e2⟩ := h T kV dc pm an cv ct us its ws l1 rT.length.symm l2
    rw [e1]
    exact looks_items X lT oT (.of_pure e2)
section
variable {X : Cx} {W : WX} {E : EX} {k n m : Nat} {ps ks : List Str} {c : Ct} {x nm : Str} {p pos kpos : Pos} {e : Expr} {es : List Expr} {kws : List Keyword} {ta : TE} {wa : WEx} {tas tks : TA} {was wks : WA} {gV : List V → List V → List V} {gD : List D → List D → List D}
theorem ecallKm (tk : L2N.Takes X W) (h : DfG X.prog X.w X.K X.mg X.base x k ps n ks gV c) (hG : GD X.K n m gV gD) (hr : Room k X.A) (ha : DA X W E (e :: es) tas was) (hkw : DK X W E kws tks wks) (hkm : ks.length = m := by rfl)
    (hg : Gl X x := by rfl) (hks : (backToKw pos (keywordEach kws X.env)).filterMap (·.1) = ks := by rfl) (hall : (backToKw pos (keywordEach kws X.env)).all (·.1.isSome) = true := by rfl) (hdb : (x == ("__debug__" : Str)) = false := by decide) (he : starEach (e :: es) X.env = (false, eval e X.env) :: starEach es X.env := by rfl)
    (hpl : ((backTo pos (starEach (e :: es) X.env)).any (·.1) || (backToKw pos (keywordEach kws X.env)).any (·.1.isNone)) = false := by rfl) :
    DE X W E (.Call (.Name x p) (e :: es) kws pos) (tCallG n m (spD X.K c) gV (WE W) tas tks) (wCallG n m c gD E was wks) := by
  subst hkm
  exact ecallK tk h hG hr ha hkw hg hks hall hdb he hpl
theorem ecallK0m (tk : L2N.Takes X W) (h : DfG X.prog X.w X.K X.mg X.base x k ps 0 ks gV c) (hG : GD X.K 0 m gV gD) (hr : Room k X.A) (hkw : DK X W E kws tks wks) (hkm : ks.length = m := by rfl)
    (hg : Gl X x := by rfl) (hks : (backToKw pos (keywordEach kws X.env)).filterMap (·.1) = ks := by rfl) (hall : (backToKw pos (keywordEach kws X.env)).all (·.1.isSome) = true := by rfl) (hdb : (x == ("__debug__" : Str)) = false := by decide)
    (hpl : ((backTo pos (starEach [] X.env)).any (·.1) || (backToKw pos (keywordEach kws X.env)).any (·.1.isNone)) = false := by rfl) :
    DE X W E (.Call (.Name x p) [] kws pos) (tCallG 0 m (spD X.K c) gV (WE W) tNil tks) (wCallG 0 m c gD E wNil wks) := by
  subst hkm
  exact ecallK0 tk h hG hr hkw hg hks hall hdb hpl
end
theorem kcons2 {X : Cx} {W : WX} {E : EX} {nm : Str} {kpos : Pos} {e : Expr} {kws : List Keyword} {ta : TE} {wa : WEx} {tks : TA} {wks : WA} (ha : DE X W E e ta wa) (hr : DK X W E kws tks wks) : DK X W E (⟨nm, e, kpos⟩ :: kws) (tCons ta tks) (wCons wa wks) := ⟨pk_cons ha.pe hr.pe, dn_cons ha.dn hr.dn⟩
/-- a def that is called so -/
structure DfnG (K : PySem.W.Frag) (mg : Str → Option Value) (x qual : Str) (st : Stmt) (ps : List Str) (n : Nat) (ks : List Str) (gV : List V → List V → List V) : Prop where
  ex : ∃ f fd, Fun K x qual st f fd ∧ mg x = some (.ref f) ∧ CB K fd ps n ks gV
structure DfnD (K : PySem.W.Frag) (mg : Str → Option Value) (x qual : Str) (st : Stmt) (dvs : List V) : Prop where
  ex : ∃ f fd, FunD K x qual (defArgs st) (defBody st) (defScope st) dvs [] f fd ∧ mg x = some (.ref f)
theorem DfnG.of {K : PySem.W.Frag} {mg : Str → Option Value} {x qual : Str} {st : Stmt} {ps : List Str} {n : Nat} {ks : List Str} (D : Dfn K mg x qual st ps) (g : {α : Type} → List α → List α → List α)
    (hrel : ∀ {vs : List V} {us : List Value} {zs : List V} {ws : List Value}, vs.length = n → zs.length = ks.length → Vals vs us → Vals zs ws → Vals (g vs zs) (g us ws))
    (h : ∀ (kV doc pm : Value) (an : Option Addr) (cdv ct : Value) (us ws : List Value), us.length = n → ws.length = ks.length → bindArgs (PySem.W.fnOf x qual (defArgs st) (defBody st) (defScope st) .none kV doc pm an cdv ct) ⟨us, ks.zip ws⟩ = pure (ps.zip (g us ws))) : DfnG K mg x qual st ps n ks g := by
  obtain ⟨f, fd, F, hm, _⟩ := D
  exact ⟨f, fd, F, hm, cbF F g hrel h⟩
/-! ### two at once by keywords: the other way round -/
def rev2 {α : Type} (_ zs : List α) : List α := match zs with
  | [a, b] => [b, a]
  | _ => []
theorem rev2_rel {vs : List V} {us : List Value} {zs : List V} {ws : List Value} (_ : vs.length = 0) (l : zs.length = 2) (_ : Vals vs us) (r : Vals zs ws) : Vals (rev2 vs zs) (rev2 us ws) := by
  cases r with
  | nil => cases l
  | cons r1 r =>
    cases r with
    | nil => cases l
    | cons r2 r =>
      cases r with
      | nil => exact .cons r2 (.cons r1 .nil)
      | cons r3 r => cases l
theorem rev2_gd {K : PySem.W.Frag} : GD K 0 2 rev2 rev2 := by
  intro F ds es vs zs l1 l2 d1 d2
  match es, l2 with
  | [a, b], _ =>
    obtain ⟨v, r, rfl, da, u, r2, rfl, db, e⟩ := d2
    obtain rfl : r2 = [] := e
    exact DVs.cons db (DVs.cons da DVs.nil)
/-! ### the defaults behind, then the keywords (or either) -/
def fillV (dvs : List V) (vs _ : List V) : List V := vs ++ dvs
def fillD (dds : List D) (ds _ : List D) : List D := ds ++ dds
theorem fill_gd {K : PySem.W.Frag} {n : Nat} {i : Int} : GD K n 0 (fillV [.int i]) (fillD [.int i]) := by
  intro F ds es vs zs l1 l2 d1 d2
  exact d1.append (DVs.cons rfl DVs.nil)
def catV {α : Type} (vs zs : List α) : List α := vs ++ zs
theorem cat_gd {K : PySem.W.Frag} {n m : Nat} : GD K n m catV catV := fun F ds es vs zs _ _ d1 d2 => d1.append d2
end DL
set_option maxHeartbeats 4000000
namespace DL
open PySem L2 PySem.Spec PyProof.Rows
/-! ### the end: the law's def, called; the base tells that nobody looks -/
section
variable {P : Program} {w : World} {K : PySem.W.Frag} {mg mb : Str → Option Value} {CX : CXT} {k : Nat} {fa a : Addr} {fd : FuncData} {x : Str} {sp : Sp} {u : Shared} {vs : List Value} {ns : List Int}
theorem call_from (KX : K.In u.heap) (gG : u.heap.Ns mainGlobals mg) (gB : u.heap.Ns builtinsNs mb) (bb : ∀ x : Str, x ≠ "__name__" → mb x = bootBuiltins x) (lim : u.heap.NoLimit) (seer : u.heap.NoSeer) (gn : u.gens = #[])
    (ga : u.heap.get? a = some { cls := .type "list", data := .seq vs.toArray }) (room : Room k callerA) (F : ∀ base : Heap, K.In base → base.Ns mainGlobals mg → base.NoSeer → FnOk P w K mg base CX k fa fd [x] sp)
    (bind : ∀ (s : Shared) (v : Value), BindsTo s fd ⟨[v], []⟩ [(x, v)]) (noX : ∀ H e s', CX [] H u (fun _ _ _ => False) e s' → False) (H : Hp) (only : Only H) (tell : sp [.ref a] H (fun v _ => v = .bl true) fun _ _ _ => False)
    (hok : HOk P w H u.heap) (one : ∀ b, H b ≠ none → b = a) (inK : H a ≠ none → K.lookup a = none) :
    codeAny (model P w) callerA (.call (.ref fa) ⟨[.ref a], []⟩) (fun r s' => r = .ok (.ret (.bool true)) ∧ OldK u.heap s'.heap ∧ s'.os = u.os ∧ AllBare s'.gens) u := by
  have free : ∀ {b : Addr} {o : Obj}, u.heap.get? b = some o → (b = a → False) → H b = none := fun {b o} _ n => by
    cases q : H b with
    | none => rfl
    | some z => exact (n (one b (by rw [q]; exact fun e => nomatch e))).elim
  have ndict : ∀ {b : Addr} {o : Obj} {es : Array DictEntry} {ep : Nat}, u.heap.get? b = some o → o.data = .dict es ep → (hidT u.heap H).get? b = some o := fun {b o es ep} e d => hidT_get e (free e fun z => by
    subst z
    rw [ga] at e
    cases e
    cases d)
  have nsT : ∀ {b : Addr} {m : Str → Option Value}, u.heap.Ns b m → (hidT u.heap H).Ns b m := fun {b m} ⟨o, es, ep, e, d, r⟩ => ⟨o, es, ep, ndict e d, d, r⟩
  have inB : K.In (hidT u.heap H) := fun b o e => hidT_get (KX b o e) (by
    cases q : H b with
    | none => rfl
    | some z =>
      obtain rfl := one b (by rw [q]; exact fun e => nomatch e)
      rw [inK (by rw [q]; exact fun e => nomatch e)] at e
      cases e)
  have seerB : (hidT u.heap H).NoSeer := by
    obtain ⟨⟨mc, s1, s2⟩, ⟨mm, t1, t2⟩, ⟨m3, i1, i2⟩, ⟨mg', bm, ob, g1, g2, g3, g4, g5⟩⟩ := seer
    refine ⟨⟨mc, nsT s1, s2⟩, ⟨mm, nsT t1, t2⟩, ⟨m3, nsT i1, i2⟩, ⟨mg', bm, ob, nsT g1, g2, hidT_get g3 (free g3 fun z => ?_), g4, g5⟩⟩
    subst z
    rw [ga] at g3
    cases g3
    have z : Value.type "list" = Value.type "module" := g4
    injection z with z
    exact absurd z (by decide)
  obtain ⟨ml, l1, l2⟩ := lim
  have env : Env0 P w K mg (hidT u.heap H) callerA [] u H := ⟨rfl, ⟨inB, nsT gG, ⟨mb, nsT gB, bb⟩, ⟨ml, nsT l1, l2⟩⟩, fun b o e => of_hidT e, Nat.le_of_eq (hidT_size _ _), trivial, fun b hb => (nomatch hb), hok, .of_eq gn⟩
  refine codeAny_mono ((F _ inB (nsT gG) seerB).run callerA [] u H ⟨[.ref a], []⟩ [.ref a] [.ref a] _ _ room env (bind u (.ref a)) (.cons rfl .nil) tell) fun r s' h => ?_
  match r, h with
  | .error e, h => exact (noX H e s' h).elim
  | .ok .next, h => exact h.elim
  | .ok .brk, h => exact h.elim
  | .ok .cont, h => exact h.elim
  | .ok (.ret v), ⟨y, H', os, bare, un, hok', ry, q⟩ =>
    have q' : y = V.bl true := q
    subst q'
    obtain rfl : v = Value.bool true := ry
    refine ⟨rfl, OldK.of_keep fun b o e => ?_, os, bare⟩
    rcases only b with z | ⟨ob, xs, z⟩
    · exact un.keep b o e z (by intro i; cases i) (by simp)
    · obtain ⟨e1, _⟩ := hok b _ z
      obtain ⟨e2, _⟩ := hok' b _ (un.frzs b ob _ z)
      rw [e] at e1
      cases e1
      exact e2
end
theorem walk_seer {l : PySem.W.OpenLaw} {n k : Nat} {q : Program} {loose : List Str} {XP : (Str → Option Value) → Heap → Prop} {YP : World → Heap → Prop} {d : DefRec} {K : Params → PySem.W.Frag} {CX : World → CXT} {sp : PySem.W.Frag → Sp} {x : Str}
    (hn : l.most = some n) (hn2 : n ≤ sizeLine) (hdf : d.params.defaults = []) (hr : Room k callerA) (himp : importsNone q = true) (hY : ∀ (w : World) (h : Heap), YP w h → (K w.params).In h)
    (F : ∀ (w : World) (mg : Str → Option Value) (fa : Addr) (h : Heap), (K w.params).In h → h.Ns mainGlobals mg → mg d.name = some (.ref fa) → ∃ fd : FuncData, (∀ (s : Shared) (u : Value), BindsTo s fd ⟨[u], []⟩ [(x, u)]) ∧
      ∀ base : Heap, (K w.params).In base → base.Ns mainGlobals mg → base.NoSeer → FnOk l.prog w (K w.params) mg base (CX w) k fa fd [x] (sp (K w.params)))
    (hsp : ∀ (K : PySem.W.Frag) (H : Hp) (a : Addr) (ns : List Int), ns.length ≤ n → Only H → SqL K H a (ns.map V.int) → sp K [.ref a] H (fun v _ => v = .bl true) fun _ _ _ => False)
    (noX : ∀ (w : World) (H : Hp) (s : Shared) (e : Value) (s' : Shared), CX w [] H s (fun _ _ _ => False) e s' → False) : PySem.W.WalkO q loose XP YP l.row.toRowW d [] (fun f vs => PySem.call f vs) := by
  refine Att.attach_call hn hdf fun w s₀ u mg mb fa o pm cd doc a vs ns G Y ho hd hcd hmg ga hi hlen gn => ?_
  have KX := hY w _ Y
  obtain ⟨fd, hb, hF⟩ := F w mg fa _ KX G.T.g hmg
  have lenV := hi.length
  have szl : ns.length ≤ sizeLine := Nat.le_trans hlen hn2
  have rv := vals_ints hi
  cases hk : (K w.params).lookup a with
  | some ob =>
    have e := KX a ob hk
    rw [ga] at e
    cases e
    refine call_from KX G.T.g G.T.b G.T.builtins G.T.nolimit (G.T.seer himp) gn ga hr hF hb (fun H e s' => noX w H _ e s') (fun _ => none) (fun _ => .inl rfl) (hsp _ _ a ns hlen (fun _ => .inl rfl) (.inr ⟨_, vs.toArray, _, hk, rfl, rfl, rfl, by rw [List.size_toArray, lenV]; exact szl, by simpa using rv⟩)) (fun b z y => ?_) (fun b z => absurd rfl z) fun z => absurd rfl z
    have y : (none : Option HO) = some z := y
    cases y
  | none =>
    have on : Only (fun b => if b = a then some (.frz { cls := .type "list", data := .seq vs.toArray } (.lst (ns.map V.int))) else none) := fun b => by
      by_cases z : b = a
      · exact .inr ⟨_, _, if_pos z⟩
      · exact .inl (if_neg z)
    refine call_from KX G.T.g G.T.b G.T.builtins G.T.nolimit (G.T.seer himp) gn ga hr hF hb (fun H e s' => noX w H _ e s') _ on (hsp _ _ a ns hlen on (.inl (.inr ⟨_, if_pos rfl⟩))) (fun b z y => ?_) (fun b z => ?_) fun _ => hk
    · by_cases hb : b = a
      · have y' := (if_pos hb).symm.trans y
        cases y'
        subst hb
        exact ⟨ga, by rw [List.length_map]; exact szl, vs, _, rv, ga⟩
      · have y' := (if_neg hb).symm.trans y
        cases y'
    · by_cases hb : b = a
      · exact hb
      · exact (z (if_neg hb)).elim
/-! ### what stands behind the top -/
/-- a def's parts -/
def FnP (K : PySem.W.Frag) (x : Str) (st : Stmt) : Prop := ∃ (f : Addr) (oc : Value) (od : Option Addr) (kV dc pm : Value) (an : Option Addr) (cd ct : Value) (sl : Array (Option Value)), PySem.W.nsIn K mainGlobals x = some (some (.ref f)) ∧
  K.lookup f = some ⟨oc, od, .func (PySem.W.fnOf x x (defArgs st) (defBody st) (defScope st) .none kV dc pm an cd ct), sl⟩ ∧ PySem.W.codeIn K cd x = true ∧ PySem.W.keepIn K (.ref f) = true
theorem fnp_mk {K : PySem.W.Frag} {x : Str} {st : Stmt} {f : Addr} {oc : Value} {od : Option Addr} {kV dc pm : Value} {an : Option Addr} {cd ct : Value} {sl : Array (Option Value)} (a : PySem.W.nsIn K mainGlobals x = some (some (.ref f)))
    (l : K.lookup f = some ⟨oc, od, .func (PySem.W.fnOf x x (defArgs st) (defBody st) (defScope st) .none kV dc pm an cd ct), sl⟩) (c : PySem.W.codeIn K cd x = true) (k : PySem.W.keepIn K (.ref f) = true) : FnP K x st := ⟨f, oc, od, kV, dc, pm, an, cd, ct, sl, a, l, c, k⟩
theorem FnP.dfn {K : PySem.W.Frag} {h : Heap} {mg : Str → Option Value} {x : Str} {st : Stmt} {ps : List Str} (p : FnP K x st) (X : K.In h) (G : h.Ns mainGlobals mg)
    (hb : ∀ (kV doc pm : Value) (an : Option Addr) (cdv ct : Value) (us : List Value), us.length = ps.length → bindArgs (PySem.W.fnOf x x (defArgs st) (defBody st) (defScope st) .none kV doc pm an cdv ct) ⟨us, []⟩ = pure (ps.zip us)) : Dfn K mg x x st ps := by
  obtain ⟨f, oc, od, kV, dc, pm, an, cd, ct, sl, a, l, c, k⟩ := p
  have F := fun_mk (st := st) l c k
  exact ⟨f, _, F, PySem.W.mg_of X G a, F.binds hb⟩
/-- one with an integer as its default -/
def FnPD (K : PySem.W.Frag) (x : Str) (st : Stmt) (i : Int) : Prop := ∃ (f T : Addr) (oc : Value) (od : Option Addr) (kV dc pm : Value) (an : Option Addr) (cd ct : Value) (sl : Array (Option Value)) (to : Obj) (tk : Tok) (tn : Nat), PySem.W.nsIn K mainGlobals x = some (some (.ref f)) ∧
  K.lookup f = some ⟨oc, od, .func (PySem.W.fnOf x x (defArgs st) (defBody st) (defScope st) (.ref T) kV dc pm an cd ct), sl⟩ ∧ PySem.W.codeIn K cd x = true ∧ PySem.W.keepIn K (.ref f) = true ∧ K.lookup T = some to ∧ to.data = .seq #[.int i tk] tn
theorem fnpd_mk {K : PySem.W.Frag} {x : Str} {st : Stmt} {i : Int} {f T : Addr} {oc : Value} {od : Option Addr} {kV dc pm : Value} {an : Option Addr} {cd ct : Value} {sl : Array (Option Value)} {tc : Value} {td : Option Addr} {tsl : Array (Option Value)} {tk : Tok} {tn : Nat} (a : PySem.W.nsIn K mainGlobals x = some (some (.ref f)))
    (l : K.lookup f = some ⟨oc, od, .func (PySem.W.fnOf x x (defArgs st) (defBody st) (defScope st) (.ref T) kV dc pm an cd ct), sl⟩) (c : PySem.W.codeIn K cd x = true) (k : PySem.W.keepIn K (.ref f) = true) (t : K.lookup T = some ⟨tc, td, .seq #[.int i tk] tn, tsl⟩) : FnPD K x st i := ⟨f, T, oc, od, kV, dc, pm, an, cd, ct, sl, _, tk, tn, a, l, c, k, t, rfl⟩
theorem FnPD.dfn {K : PySem.W.Frag} {h : Heap} {mg : Str → Option Value} {x : Str} {st : Stmt} {i : Int} (p : FnPD K x st i) (X : K.In h) (G : h.Ns mainGlobals mg) : DfnD K mg x x st [.int i] := by
  obtain ⟨f, T, oc, od, kV, dc, pm, an, cd, ct, sl, to, tk, tn, a, l, c, k, t, e⟩ := p
  have hD : DflV K (.ref T) [V.int i] := Or.inr ⟨(fun z => nomatch z), T, to, [Value.int i tk], tn, rfl, t, e, Paired.cons ⟨tk, rfl⟩ .nil⟩
  have FD : FunD K x x (defArgs st) (defBody st) (defScope st) [V.int i] [] f _ := ⟨⟨oc, od, _, kV, dc, pm, an, cd, ct, sl, rfl, l, c, hD, Or.inl rfl⟩, k⟩
  exact ⟨f, _, FD, PySem.W.mg_of X G a⟩
def FnPX {K : PySem.W.Frag} {h : Heap} (_ : K.In h) (x : Str) (st : Stmt) : Prop := FnP K x st
def FnPDX {K : PySem.W.Frag} {h : Heap} (_ : K.In h) (x : Str) (st : Stmt) (i : Int) : Prop := FnPD K x st i
end DL
set_option maxHeartbeats 4000000
namespace DL
open PySem L2 PySem.Spec PyProof.Rows
/-! ### the end over a head that tells facts -/
theorem walk_seerE {l : PySem.W.OpenLaw} {n k : Nat} {q : Program} {loose : List Str} {XP : (Str → Option Value) → Heap → Prop} {YP : World → Heap → Prop} {d : DefRec} {CX : World → CXT} {x : Str}
    (hn : l.most = some n) (hn2 : n ≤ sizeLine) (hdf : d.params.defaults = []) (hr : Room k callerA) (himp : importsNone q = true)
    (F : ∀ (w : World) (mg : Str → Option Value) (fa : Addr) (h : Heap), YP w h → h.Ns mainGlobals mg → mg d.name = some (.ref fa) → ∃ (K : PySem.W.Frag) (fd : FuncData) (sp : Sp), K.In h ∧ (∀ (s : Shared) (u : Value), BindsTo s fd ⟨[u], []⟩ [(x, u)]) ∧
      (∀ (H : Hp) (a : Addr) (ns : List Int), ns.length ≤ n → Only H → SqL K H a (ns.map V.int) → sp [.ref a] H (fun v _ => v = .bl true) fun _ _ _ => False) ∧
      ∀ base : Heap, K.In base → base.Ns mainGlobals mg → base.NoSeer → FnOk l.prog w K mg base (CX w) k fa fd [x] sp)
    (noX : ∀ (w : World) (H : Hp) (s : Shared) (e : Value) (s' : Shared), CX w [] H s (fun _ _ _ => False) e s' → False) : PySem.W.WalkO q loose XP YP l.row.toRowW d [] (fun f vs => PySem.call f vs) := by
  refine Att.attach_call hn hdf fun w s₀ u mg mb fa o pm cd doc a vs ns G Y ho hd hcd hmg ga hi hlen gn => ?_
  obtain ⟨K, fd, sp, KX, hb, hsp, hF⟩ := F w mg fa _ Y G.T.g hmg
  have lenV := hi.length
  have szl : ns.length ≤ sizeLine := Nat.le_trans hlen hn2
  have rv := vals_ints hi
  cases hk : K.lookup a with
  | some ob =>
    have e := KX a ob hk
    rw [ga] at e
    cases e
    refine call_from KX G.T.g G.T.b G.T.builtins G.T.nolimit (G.T.seer himp) gn ga hr hF hb (fun H e s' => noX w H _ e s') (fun _ => none) (fun _ => .inl rfl) (hsp _ a ns hlen (fun _ => .inl rfl) (.inr ⟨_, vs.toArray, _, hk, rfl, rfl, rfl, by rw [List.size_toArray, lenV]; exact szl, by simpa using rv⟩)) (fun b z y => ?_) (fun b z => absurd rfl z) fun z => absurd rfl z
    have y : (none : Option HO) = some z := y
    cases y
  | none =>
    have on : Only (fun b => if b = a then some (.frz { cls := .type "list", data := .seq vs.toArray } (.lst (ns.map V.int))) else none) := fun b => by
      by_cases z : b = a
      · exact .inr ⟨_, _, if_pos z⟩
      · exact .inl (if_neg z)
    refine call_from KX G.T.g G.T.b G.T.builtins G.T.nolimit (G.T.seer himp) gn ga hr hF hb (fun H e s' => noX w H _ e s') _ on (hsp _ a ns hlen on (.inl (.inr ⟨_, if_pos rfl⟩))) (fun b z y => ?_) (fun b z => ?_) fun _ => hk
    · by_cases hb : b = a
      · have y' := (if_pos hb).symm.trans y
        cases y'
        subst hb
        exact ⟨ga, by rw [List.length_map]; exact szl, vs, _, rv, ga⟩
      · have y' := (if_neg hb).symm.trans y
        cases y'
    · by_cases hb : b = a
      · exact hb
      · exact (z (if_neg hb)).elim
/-- a def's datum: no defaults -/
def df (x : Str) (st : Stmt) : He.DefD := ⟨(x, none), x, x, defArgs st, defBody st, defScope st, [], []⟩
def dfI (x : Str) (st : Stmt) (i : Int) : He.DefD := ⟨(x, none), x, x, defArgs st, defBody st, defScope st, [.int i], []⟩
theorem dfn_of {K : PySem.W.Frag} {h : Heap} {mg : Str → Option Value} {fa : List He.Fa} {fn : List He.DefD} (X : K.In h) (G : h.Ns mainGlobals mg) (c : He.SaysD fa fn K) {x : Str} {st : Stmt} {ps : List Str} (i j : Nat) (hi : fn[i]? = some (df x st)) (hj : fa[j]? = some (.glo x))
    (hb : ∀ (kV doc pm : Value) (an : Option Addr) (cdv ct : Value) (us : List Value), us.length = ps.length → bindArgs (PySem.W.fnOf x x (defArgs st) (defBody st) (defScope st) .none kV doc pm an cdv ct) ⟨us, []⟩ = pure (ps.zip us)) : Dfn K mg x x st ps := by
  obtain ⟨fd, F⟩ := c.def_ i hi
  obtain ⟨oc, od, dV, kV, dc, pm, an, cd, ct, sl, e, l, cc, hD, _⟩ := F.ex
  have hg := He.glo_ok X G (c.fact j hj)
  have hD : DflV K dV [] := hD
  rcases hD with ⟨_, rfl⟩ | ⟨z, _⟩
  · have F2 : Fun K x x st _ fd := ⟨⟨oc, od, kV, dc, pm, an, cd, ct, sl, e, l, cc⟩, F.kp⟩
    exact ⟨_, fd, F2, hg, F2.binds hb⟩
  · exact absurd rfl z
theorem dfd_of {K : PySem.W.Frag} {h : Heap} {mg : Str → Option Value} {fa : List He.Fa} {fn : List He.DefD} (X : K.In h) (G : h.Ns mainGlobals mg) (c : He.SaysD fa fn K) {x : Str} {st : Stmt} {k : Int} (i j : Nat) (hi : fn[i]? = some (dfI x st k)) (hj : fa[j]? = some (.glo x)) : DfnD K mg x x st [.int k] := by
  obtain ⟨fd, F⟩ := c.def_ i hi
  exact ⟨_, fd, F, He.glo_ok X G (c.fact j hj)⟩
/-- the law's promise, of a script of whole numbers -/
theorem law_sp {K : PySem.W.Frag} {c : Ct} {H : Hp} {a : Addr} {ns : List Int} {n : Nat} (hl : ns.length ≤ n) (hs : SqL K H a (ns.map V.int)) (hc : ∀ μ Q E, Q (.bl true) μ → c [.lsr (ns.map D.int)] μ Q E) : spD K c [.ref a] H (fun v _ => v = .bl true) fun _ _ _ => False := by
  refine ⟨H, fun _ => none, [.lsr (ns.map D.int)], fun d _ => d = .bl true, fun _ _ _ => False, ⟨fun _ _ e => e, fun _ _ e => (nomatch e)⟩, ⟨_, _, rfl, ⟨a, _, rfl, hs, DVs.of_ints⟩, rfl⟩, hc _ _ _ rfl, fun F' μ' H' d v g s' dv hq => ?_, fun F' μ' H' C dd fs g s' ex hq => ?_⟩
  · obtain ⟨μ2, _, rfl⟩ := hq
    exact dv
  · obtain ⟨μ2, _, z⟩ := hq
    exact z
end DL
set_option maxHeartbeats 4000000
namespace DL
open PySem L2 PySem.Spec PyProof.Rows
/-! ### objects: fields -/
def fieldsD (μ : Mu) : D → Option (Addr × List (Str × D))
  | .mut a => match μ a with
    | some (.ins C fs) => some (C, fs)
    | _ => none
  | .ins C fs l => some (C, fs.zip l)
  | _ => none
/-- PC: the classes that such an object may have here -/
def wFld (PC : Addr → Prop) (f : Str) (a : WEx) : WEx := fun ρ μ Q => a ρ μ fun d μ1 => match fieldsD μ1 d with
  | some (C, fs) => PC C ∧ match fs.lookup f with
    | some v => Q v μ1
    | none => False
  | none => False
theorem kd_look {K : PySem.W.Frag} {F : Hp} {f : Str} : ∀ {fs : List (Str × D)} {ys : List (Str × V)} {d : D}, KD K F fs ys → fs.lookup f = some d → ∃ v, ys.lookup f = some v ∧ DV K F d v
  | [], _, _, _, h => by cases h
  | (g, e) :: fs, ys, d, ⟨h1, h2⟩, h => by
    obtain ⟨v, r, e2, dv, dr⟩ := h2
    cases ys with
    | nil => cases h1
    | cons y ys =>
      have t1 : y.1 = g ∧ ys.map (·.1) = fs.map (·.1) := List.cons.inj h1
      have e2 : y.2 = v ∧ ys.map (·.2) = r := List.cons.inj e2
      obtain ⟨y1, y2⟩ := y
      obtain ⟨rfl, t1⟩ := t1
      obtain ⟨rfl, rfl⟩ := e2
      rw [List.lookup_cons] at h ⊢
      cases q : (f == y1) with
      | true => rw [q] at h; cases h; exact ⟨_, rfl, dv⟩
      | false => rw [q] at h; exact kd_look ⟨t1, dr⟩ h
theorem kd_none {K : PySem.W.Frag} {F : Hp} {f : Str} : ∀ {fs : List (Str × D)} {ys : List (Str × V)}, KD K F fs ys → fs.lookup f = none → ys.lookup f = none
  | [], ys, ⟨h1, _⟩, _ => by
    cases ys with
    | nil => rfl
    | cons y ys => cases h1
  | (g, e) :: fs, ys, ⟨h1, h2⟩, h => by
    obtain ⟨v, r, e2, dv, dr⟩ := h2
    cases ys with
    | nil => cases h1
    | cons y ys =>
      have t1 : y.1 = g ∧ ys.map (·.1) = fs.map (·.1) := List.cons.inj h1
      have e2 : y.2 = v ∧ ys.map (·.2) = r := List.cons.inj e2
      obtain ⟨y1, y2⟩ := y
      obtain ⟨rfl, t1⟩ := t1
      obtain ⟨rfl, rfl⟩ := e2
      rw [List.lookup_cons] at h ⊢
      cases q : (f == y1) with
      | true => rw [q] at h; cases h
      | false => rw [q] at h; exact kd_none ⟨t1, dr⟩ h
theorem fields_ok {K : PySem.W.Frag} {F H : Hp} {μ : Mu} {d : D} {v : V} {C : Addr} {fs : List (Str × D)} (s : Sok K F μ H) (dv : DV K F d v) (e : fieldsD μ d = some (C, fs)) : ∃ a dx ys, v = .ref a ∧ H a = some (.ins C dx ys) ∧ KD K F fs ys := by
  unfold fieldsD at e
  split at e
  · rename_i a
    split at e
    · rename_i C' fs' em
      cases e
      obtain rfl : v = V.ref a := dv
      obtain ⟨_, dx, ys, ho, k⟩ := s.cel a _ em
      exact ⟨a, dx, ys, rfl, ho, k⟩
    · cases e
  · rename_i C' fs' l
    cases e
    obtain ⟨a, dx, kvs, rfl, ho, h1, h2⟩ := dv
    have ll : l.length = fs'.length := by rw [← h2.len, ← h1, List.length_map, List.length_map]
    refine ⟨a, dx, kvs, rfl, s.sub _ _ ho, ?_, ?_⟩
    · rw [h1, List.map_fst_zip (by omega)]
    · rw [List.map_snd_zip (by omega)]; exact h2
  · cases e
section
variable {K : PySem.W.Frag} {W : WX} {E : EX} {ta tv : TE} {wa wv : WEx} {PC : Addr → Prop} {f : Str}
theorem dn_fld (hP : ∀ C, PC C → Cls K C ∧ NoAttr K C f) (ha : Dn K W E ta wa) : Dn K W E (tFld K ta f) (wFld PC f wa) := by
  intro F μ H ρ σ Q0 Q s h q
  refine ha F μ H ρ σ _ _ s h fun F1 μ1 H1 d v g1 s1 dv h1 => ?_
  split at h1
  · rename_i C fs e
    obtain ⟨hC, h1⟩ := h1
    split at h1
    · rename_i y ey
      obtain ⟨a, dx, ys, rfl, ho, kd⟩ := fields_ok s1.ok dv e
      obtain ⟨u, eu, du⟩ := kd_look kd ey
      obtain ⟨c, n⟩ := hP C hC
      exact ⟨a, C, dx, ys, u, rfl, ho, c, n, eu, q F1 μ1 H1 y u g1 s1 du h1⟩
    · exact h1.elim
  · exact h1.elim
/-- a field put -/
def putD (f : Str) (y : D) : List (Str × D) → List (Str × D)
  | [] => [(f, y)]
  | (g, x) :: r => if g = f then (g, y) :: r else (g, x) :: putD f y r
theorem kd_put {F : Hp} {y : D} {u : V} (dy : DV K F y u) : ∀ {fs : List (Str × D)} {ys : List (Str × V)}, KD K F fs ys → KD K F (putD f y fs) (putF f u ys)
  | [], ys, ⟨h1, _⟩ => by
    cases ys with
    | nil => exact ⟨rfl, u, [], rfl, dy, rfl⟩
    | cons y ys => cases h1
  | (g, e) :: fs, ys, ⟨h1, h2⟩ => by
    obtain ⟨v, r, e2, dv, dr⟩ := h2
    cases ys with
    | nil => cases h1
    | cons z ys =>
      have t1 : z.1 = g ∧ ys.map (·.1) = fs.map (·.1) := List.cons.inj h1
      have e2 : z.2 = v ∧ ys.map (·.2) = r := List.cons.inj e2
      obtain ⟨z1, z2⟩ := z
      obtain ⟨rfl, t1⟩ := t1
      obtain ⟨rfl, rfl⟩ := e2
      unfold putD putF
      by_cases c : z1 = f
      · rw [if_pos c, if_pos c]
        exact ⟨congrArg (z1 :: ·) t1, u, _, rfl, dy, dr⟩
      · rw [if_neg c, if_neg c]
        have ih := kd_put dy (fs := fs) (ys := ys) ⟨t1, dr⟩
        exact ⟨congrArg (z1 :: ·) ih.1, z2, _, rfl, dv, ih.2⟩
def wSetF (PC : Addr → Prop) (f : Str) (o v : WEx) : WS := fun D ρ μ => v ρ μ fun y μ1 => o ρ μ1 fun x μ2 => match x with
  | .mut a => match μ2 a with
    | some (.ins C fs) => PC C ∧ fs.length < 1000 ∧ D.nx ρ (um μ2 a (.ins C (putD f y fs)))
    | _ => False
  | _ => False
theorem dn_setf (hP : ∀ C, PC C → Cls K C ∧ NoAttr K C f) (ho : Dn K W E ta wa) (hv : Dn K W E tv wv) : DnS K W E (sFld K ta tv f) (wSetF PC f wa wv) := by
  intro F μ H ρ σ D0 Ds s h e
  refine hv F μ H ρ σ _ _ s h fun F1 μ1 H1 y u g1 s1 dy h1 => ?_
  refine ho F1 μ1 H1 ρ σ _ _ s1 h1 fun F2 μ2 H2 x w g2 s2 dx2 h2 => ?_
  split at h2
  · rename_i a
    split at h2
    · rename_i C fs em
      obtain ⟨hC, hl, h2⟩ := h2
      obtain rfl : w = V.ref a := dx2
      obtain ⟨c, n⟩ := hP C hC
      obtain ⟨ff, dx, ys, ha, kd⟩ := s2.ok.cel a _ em
      have ly : ys.length = fs.length := by have := congrArg List.length kd.1; rwa [List.length_map, List.length_map] at this
      refine ⟨a, C, dx, ys, rfl, ha, c, n, by omega, e.nx F2 _ _ ρ σ (g1.trans g2) (s2.mono Grow.refl (s2.ok.cell (m := .ins C _) ff ⟨dx, _, upd_same, kd_put (dy.mono g2) kd⟩)) h2⟩
    · exact h2.elim
  · exact h2.elim
end
section
variable {X : Cx} {W : WX} {E : EX} {o v : Expr} {ta tv : TE} {wa wv : WEx} {pos pos' : Pos}
theorem efld {f : Str} (PC : Addr → Prop) (hP : ∀ C, PC C → Cls X.K C ∧ NoAttr X.K C f) (ha : DE X W E o ta wa) (hb : attributeBase o f X.env (eval o X.env) = eval o X.env := by rfl) : DE X W E (.Attribute o f pos) (tFld X.K ta f) (wFld PC f wa) := ⟨pe_fld ha.pe hb, dn_fld hP ha.dn⟩
theorem ssetf {f : Str} (PC : Addr → Prop) (hP : ∀ C, PC C → Cls X.K C ∧ NoAttr X.K C f) (ho : DE X W E o ta wa) (hv : DE X W E v tv wv) (hs : swapsWith v (some (.Attribute o f pos')) pos.line X.env = pure false := by rfl) : DS X W E (.Assign [.Attribute o f pos'] v pos) (sFld X.K ta tv f) (wSetF PC f wa wv) := ⟨ps_fld ho.pe hv.pe hs, dn_setf hP ho.dn hv.dn⟩
end
/-! ### methods, makers, properties -/
/-- a class's method -/
structure DfM (P : Program) (w : World) (K : PySem.W.Frag) (mg : Str → Option Value) (base : Heap) (C : Addr) (m : Str) (k : Nat) (ps : List Str) (c : Ct) : Prop where
  ex : ∃ f fd, FnOk P w K mg base (L2N.CX P w) k f fd ps (spD K c) ∧ Meth K C m f ∧ Binds K fd ps []
  cls : Cls K C
def tMethS (C : Addr) (m : Str) (sp : Sp) (E : L2.St → XK) (ta : TE) (t : TA) : TE := fun σ H Q => ta σ H fun x H1 => ∃ a dx fs, x = .ref a ∧ H1 a = some (.ins C dx fs) ∧ fs.lookup m = none ∧ t σ H1 fun vs H2 => sp (x :: vs) H2 Q (E σ)
def wMeth (C : Addr) (m : Str) (c : Ct) (E : EX) (o : WEx) (a : WA) : WEx := fun ρ μ Q => o ρ μ fun x μ1 => (∃ fs, fieldsD μ1 x = some (C, fs) ∧ fs.lookup m = none) ∧ a ρ μ1 fun ds μ2 => c (x :: ds) μ2 Q fun D fs μ3 => E D fs ρ μ3
section
variable {X : Cx} {W : WX} {E : EX} {o e : Expr} {es : List Expr} {ta : TE} {wa : WEx} {tas : TA} {was : WA} {pos apos p : Pos} {C : Addr} {m x : Str} {k : Nat} {ps : List Str} {c : Ct}
theorem pe_methN {f : Addr} {fd : FuncData} {sp : Sp} {CX : CXT} {E : L2.St → XK} {pl : Sem Bool} (he : PE X o ta) (cl : Cls X.K C) (hm : Meth X.K C m f) (F : FnOk X.prog X.w X.K X.mg X.base CX k f fd ps sp) (hr : Room k X.A) (hb : Binds X.K fd ps []) (hx : ∀ σ, PassesAt CX X σ (E σ)) (ha : PA X (e :: es) tas)
    (hst : starEach (e :: es) X.env = (false, eval e X.env) :: starEach es X.env) (hpl : (backTo pos (starEach es X.env)).any (·.1) = false)
    (ht : eval (.Call (.Attribute o m apos) (e :: es) [] pos) X.env = (do
      let ov ← eval o X.env
      standAt apos.atName
      let (g, first) ← holding [ov] (getMethod ov m pl)
      callWith pos g first (backTo pos (starEach (e :: es) X.env)) (backToKw pos (keywordEach [] X.env)))) : PE X (.Call (.Attribute o m apos) (e :: es) [] pos) (tMethS C m sp E ta tas) := by
  refine ⟨fun pins s σ H Q I h => PySem.W.methodCall_KW (pl := pl) (thn (he.run pins s σ H _ I h) fun u s1 ⟨y, H1, I1, ry, a, dx, fs, ey, ea, l, q⟩ => ?_) ht⟩
  subst ey
  obtain rfl : u = Value.ref a := ry
  refine getmeth_ok I1 ea cl hm l ?_
  refine PySem.W.callWith_K (first := [.ref a]) (h₀ := X.base) I.ok.mod.kin hm.kp (thn (ha.run pos pins s1 σ H1 _ I1 q) fun us s2 ⟨vs, H2, I2, r, z⟩ => ⟨I2.kIn, ?_⟩) hst hpl
  exact run_fnSD (us := .ref a :: us) (vs := .ref a :: vs) (ds := []) (dvs := []) F hr hb .nil (hx σ) I2 (.cons rfl r) (by rw [List.append_nil]; exact z)
theorem pe_methN0 {f : Addr} {fd : FuncData} {sp : Sp} {CX : CXT} {E : L2.St → XK} {pl : Sem Bool} (he : PE X o ta) (cl : Cls X.K C) (hm : Meth X.K C m f) (F : FnOk X.prog X.w X.K X.mg X.base CX k f fd ps sp) (hr : Room k X.A) (hb : Binds X.K fd ps []) (hx : ∀ σ, PassesAt CX X σ (E σ))
    (ht : eval (.Call (.Attribute o m apos) [] [] pos) X.env = (do
      let ov ← eval o X.env
      standAt apos.atName
      let (g, first) ← holding [ov] (getMethod ov m pl)
      callWith pos g first (backTo pos (starEach [] X.env)) (backToKw pos (keywordEach [] X.env)))) : PE X (.Call (.Attribute o m apos) [] [] pos) (tMethS C m sp E ta tNil) := by
  refine ⟨fun pins s σ H Q I h => PySem.W.methodCall_KW (pl := pl) (thn (he.run pins s σ H _ I h) fun u s1 ⟨y, H1, I1, ry, a, dx, fs, ey, ea, l, q⟩ => ?_) ht⟩
  subst ey
  obtain rfl : u = Value.ref a := ry
  refine getmeth_ok I1 ea cl hm l ?_
  exact PySem.W.callWith_K0 (first := [.ref a]) I1.kIn hm.kp (run_fnSD (us := [.ref a]) (vs := [.ref a]) (ds := []) (dvs := []) F hr hb .nil (hx σ) I1 (.cons rfl .nil) (by rw [List.append_nil]; exact q))
theorem dn_meth {K : PySem.W.Frag} (ho : Dn K W E ta wa) (ha : DnA K W E tas was) : Dn K W E (tMethS C m (spD K c) (WE W) ta tas) (wMeth C m c E wa was) := by
  intro F μ H ρ σ Q0 Q s h q
  refine ho F μ H ρ σ _ _ s h fun F1 μ1 H1 d v g1 s1 dv ⟨⟨fs, ef, hn⟩, h1⟩ => ?_
  obtain ⟨a, dx, ys, rfl, ha1, kd⟩ := fields_ok s1.ok dv ef
  refine ⟨a, dx, ys, rfl, ha1, kd_none kd hn, ha F1 μ1 H1 ρ σ _ _ s1 h1 fun F2 μ2 H2 ds vs g2 s2 dvs h2 => ?_⟩
  refine ⟨F2, μ2, d :: ds, _, _, s2.ok, DVs.cons (dv.mono g2) dvs, h2, fun F3 μ3 H3 d3 v3 g3 s3 dv3 ⟨μ4, l, h3⟩ => ?_, fun F3 μ3 H3 D fs g3 g4 s3 ex ⟨μ4, l, h3⟩ => ?_⟩
  · exact q F3 μ4 H3 d3 v3 (g1.trans (g2.trans g3)) ((s2.mono g3 s3).weak l) dv3 h3
  · exact s2.wok F3 μ4 H3 ρ σ D fs g3 g4 (s3.weak l) (s2.env.mono g4) ex h3
theorem emeth {pl : Sem Bool} (tk : L2N.Takes X W) (h : DfM X.prog X.w X.K X.mg X.base C m k ps c) (hr : Room k X.A) (ho : DE X W E o ta wa) (ha : DA X W E (e :: es) tas was)
    (hst : starEach (e :: es) X.env = (false, eval e X.env) :: starEach es X.env := by rfl) (hpl : (backTo pos (starEach es X.env)).any (·.1) = false := by rfl)
    (ht : eval (.Call (.Attribute o m apos) (e :: es) [] pos) X.env = (do
      let ov ← eval o X.env
      standAt apos.atName
      let (g, first) ← holding [ov] (getMethod ov m pl)
      callWith pos g first (backTo pos (starEach (e :: es) X.env)) (backToKw pos (keywordEach [] X.env))) := by rfl) :
    DE X W E (.Call (.Attribute o m apos) (e :: es) [] pos) (tMethS C m (spD X.K c) (WE W) ta tas) (wMeth C m c E wa was) := by
  obtain ⟨⟨f, fd, G, hm, hb⟩, cl⟩ := h
  exact ⟨pe_methN ho.pe cl hm G hr hb (fun σ => L2N.passAt tk σ) ha.pe hst hpl ht, dn_meth ho.dn ha.dn⟩
theorem emeth0 {pl : Sem Bool} (tk : L2N.Takes X W) (h : DfM X.prog X.w X.K X.mg X.base C m k ps c) (hr : Room k X.A) (ho : DE X W E o ta wa)
    (ht : eval (.Call (.Attribute o m apos) [] [] pos) X.env = (do
      let ov ← eval o X.env
      standAt apos.atName
      let (g, first) ← holding [ov] (getMethod ov m pl)
      callWith pos g first (backTo pos (starEach [] X.env)) (backToKw pos (keywordEach [] X.env))) := by rfl) :
    DE X W E (.Call (.Attribute o m apos) [] [] pos) (tMethS C m (spD X.K c) (WE W) ta tNil) (wMeth C m c E wa wNil) := by
  obtain ⟨⟨f, fd, G, hm, hb⟩, cl⟩ := h
  exact ⟨pe_methN0 ho.pe cl hm G hr hb (fun σ => L2N.passAt tk σ) ht, dn_meth ho.dn dn_nil⟩
/-! a class, called -/
structure DfK (P : Program) (w : World) (K : PySem.W.Frag) (mg : Str → Option Value) (base : Heap) (x : Str) (C : Addr) (k : Nat) (ps : List Str) (c : Ct) : Prop where
  ex : ∃ f fd, FnOk P w K mg base (L2N.CX P w) k f fd ps (spD K c) ∧ Mk K C f ∧ mg x = some (.ref C) ∧ Binds K fd ps []
def tMakeS (C : Addr) (sp : Sp) (E : L2.St → XK) (t : TA) : TE := fun σ H Q => t σ H fun vs H1 => ∀ x dx, H1 x = none → H1 dx = none → dx ≠ x → sp (.ref x :: vs) (upd (upd H1 dx (.own x)) x (.ins C dx [])) (fun v H2 => v = .non ∧ Q (.ref x) H2) (E σ)
def wMake (C : Addr) (c : Ct) (E : EX) (a : WA) : WEx := fun ρ μ Q => a ρ μ fun ds μ1 => ∀ p, μ1 p = none → c (.mut p :: ds) (um μ1 p (.ins C [])) (fun d μ2 => d = .non ∧ Q (.mut p) μ2) fun D fs μ3 => E D fs ρ μ3
theorem run_makeN {f : Addr} {fd : FuncData} {sp : Sp} {CX : CXT} {E : XK} {pins : List (Addr × Obj)} {σ : L2.St} {H : Hp} {s : Shared} {Q : VK} {us : List Value} {vs : List V} (M : Mk X.K C f) (F : FnOk X.prog X.w X.K X.mg X.base CX k f fd ps sp) (hr : Room (k + 1) X.A) (hb : Binds X.K fd ps []) (hx : PassesAt CX X σ E)
    (I : Inv X pins σ H s) (r : Vals vs us) (h : ∀ x dx, H x = none → H dx = none → dx ≠ x → sp (.ref x :: vs) (upd (upd H dx (.own x)) x (.ins C dx [])) (fun v H2 => v = .non ∧ Q (.ref x) H2) E) : wpAny (model X.prog X.w) X.A (call (.ref C) us) (EP X pins σ Q) X.xe s := by
  have hq := h (s.heap.objs.size + 1) s.heap.objs.size (I.hok.fresh (Nat.le_succ _)) (I.hok.fresh (Nat.le_refl _)) (Nat.ne_of_lt (Nat.lt_succ_self _))
  have J := Inv.made (C := C) I
  have r2 : Vals (V.ref (s.heap.objs.size + 1) :: vs) (Value.ref (s.heap.objs.size + 1) :: us) := .cons rfl r
  have bb := hb _ (Value.ref (s.heap.objs.size + 1) :: us) J.kIn (by rw [List.append_nil, ← r2.length]; exact F.len _ _ _ _ hq)
  rw [List.append_nil] at bb
  refine wpAny_call (make_map (f := f) I.kIn M.makes M.init (beq_iff_eq.mp M.fn) (codeAny_mono (F.run _ X.stack _ _ ⟨Value.ref (s.heap.objs.size + 1) :: us, []⟩ (Value.ref (s.heap.objs.size + 1) :: us) _ _ E (hr.make C us []) (J.env0.make C us []) bb r2 hq) fun res s' hq' => ?_))
  match res, hq' with
  | .error er, hq' => exact hx pins _ _ er s' J hq'
  | .ok (.ret u), hq' =>
    obtain ⟨v, H', I3, rv, ev, q3⟩ := J.after hq'
    subst ev
    exact ⟨rv, ⟨V.ref (s.heap.objs.size + 1), H', I3, rfl, q3⟩⟩
theorem dn_make {K : PySem.W.Frag} (ha : DnA K W E tas was) : Dn K W E (tMakeS C (spD K c) (WE W) tas) (wMake C c E was) := by
  intro F μ H ρ σ Q0 Q s h q
  refine ha F μ H ρ σ _ _ s h fun F1 μ1 H1 ds vs g1 s1 dvs h1 x dx hx hdx hne => ?_
  have s2 : Sok K F1 μ1 (upd H1 dx (.own x)) := s1.ok.junk hdx
  have hx2 : (upd H1 dx (.own x)) x = none := by rw [upd_ne (Ne.symm hne)]; exact hx
  have fr := s2.free hx2
  have s3 : Sok K F1 (um μ1 x (.ins C [])) (upd (upd H1 dx (.own x)) x (.ins C dx [])) := s2.cell (m := .ins C []) fr.1 ⟨dx, [], upd_same, rfl, rfl⟩
  refine ⟨F1, _, .mut x :: ds, _, _, s3, DVs.cons rfl dvs, h1 x fr.2, fun F3 μ3 H3 d3 v3 g3 t3 dv3 ⟨μ4, l, e3, h3⟩ => ?_, fun F3 μ3 H3 D fs g3 g4 t3 ex ⟨μ4, l, h3⟩ => ?_⟩
  · subst e3
    exact ⟨dv3, q F3 μ4 H3 (.mut x) (.ref x) (g1.trans g3) ((s1.mono g3 t3).weak l) rfl h3⟩
  · exact s1.wok F3 μ4 H3 ρ σ D fs g3 g4 (t3.weak l) (s1.env.mono g4) ex h3
theorem emake (tk : L2N.Takes X W) (h : DfK X.prog X.w X.K X.mg X.base x C k ps c) (hr : Room (k + 1) X.A) (ha : DA X W E (e :: es) tas was) (hg : Gl X x := by rfl) (hdb : (x == ("__debug__" : Str)) = false := by decide)
    (he : starEach (e :: es) X.env = (false, eval e X.env) :: starEach es X.env := by rfl) (hpl : (backTo pos (starEach es X.env)).any (·.1) = false := by rfl) : DE X W E (.Call (.Name x p) (e :: es) [] pos) (tMakeS C (spD X.K c) (WE W) tas) (wMake C c E was) := by
  obtain ⟨f, fd, G, M, hm, hb⟩ := h.ex
  refine ⟨⟨fun pins s σ H Q I z => wpAny_Call_Name_kw (ld_glob I hg hm ?_ hdb)⟩, dn_make ha.dn⟩
  refine PySem.W.callWith_K (h₀ := X.base) I.ok.mod.kin M.kp (thn (ha.pe.run pos pins s σ H _ I z) fun us s1 ⟨vs, H1, I1, r, q⟩ => ⟨I1.kIn, ?_⟩) he hpl
  exact run_makeN M G hr hb (L2N.passAt tk σ) I1 r q
end
end DL
set_option maxHeartbeats 4000000
namespace DL
open PySem L2 PySem.Spec PyProof.Rows
/-! ### whole numbers as texts, to 4300 digits -/
theorem repr_at {a : Int} {t : Tok} (ha : a.natAbs < 10 ^ 4300) : GivesAt (fun s => s.heap.NoDigits) (Builtin.«int.__repr__» ⟨[.int a t], []⟩) (.str (toString a)) := by
  intro prog w A R s hn h
  unfold Builtin.«int.__repr__»
  show wpAny _ _ (do let r ← Builtin.overDigitLimit? a; _) _ _ s
  refine wpAny_bind (overDigitLimit_any hn (fun _ => ?_) (fun hge => absurd ha (Nat.not_lt.mpr hge)))
  exact wpAny_bind (wpAny_mkStr (wpAny_pure h.2) (int_text_fits10 ha))
theorem fmt_at {a : Int} {t u : Tok} (ha : a.natAbs < 10 ^ 4300) : GivesAt (fun s => s.heap.NoDigits) (Builtin.«int.__format__» ⟨[.int a t, .str Str.empty u], []⟩) (.str (toString a)) := by
  intro prog w A R s hn h
  show wpAny _ _ (do let _kind ← typeNameOf (.str Str.empty u); (do rule "int.format.empty"; again (.builtin "int.__repr__" ⟨[.int a t], []⟩))) _ _ s
  refine wpAny_bind (wpAny_typeNameOf (typeIs_str _ _ _) (by decide) fun _ => wpAny_bind (wpAny_rule ?_))
  exact wpAny_pure ⟨plainId_quiet (by decide +kernel) _, codeAny_builtin PySem.F.entry_int_repr (by rw [Around.under_plainId (by decide +kernel)]; exact repr_at ha prog w A R s hn h)⟩
theorem field_at {prog : Program} {w : World} {A : Around} {E : Value → Shared → Prop} {s : Shared} {a : Int} {t : Tok} {Q : Value → Shared → Prop} (hn : s.heap.NoDigits) (ha : a.natAbs < 10 ^ 4300) (h : Q (.str (toString a) (s.toks + 1)) { s with toks := s.toks + 1 + 1 }) : wpAny (model prog w) A (formatField (.int a t) Str.empty) Q E s := by
  show wpAny _ _ (holding [.int a t] (pyFormat (.int a t) Str.empty)) Q E s
  refine wpAny_holding ?_
  unfold pyFormat
  refine wpAny_bind (wpAny_mkStr ?_ (by decide))
  refine wpAny_bind (m := callSpecial? (.int a t) (Str.ofString "__format__") [.str Str.empty s.toks]) (wpAny_callSpecial?_slot (name := Str.ofString "__format__") (typeIs_int _ a t) PySem.F.slot_int_format
    (call_givesAt PySem.F.slot_int_format (typeIs_int _ a t) PySem.F.entry_int_format (PySem.F.args_int_format_2 _ _) (fmt_at ha) hn ⟨int_text_fits10 ha, ?_⟩))
  show wpAny _ _ (do if ← isInstance (.str (toString a) (s.toks + 1)) (.type "str") then return (.str (toString a) (s.toks + 1)) else _) Q E _
  exact wpAny_bind (wpAny_isInstance (typeIs_str _ _ _) isSubtype_str_str (wpAny_pure h))
theorem nodig {X : Cx} {pins : List (Addr × Obj)} {σ : L2.St} {H : Hp} {s : Shared} (I : Inv X pins σ H s) (e : PySem.W.nsIn X.K cStatics "sys.int_max_str_digits" = some none) : s.heap.NoDigits := by
  obtain ⟨mc, h1, _⟩ := I.nolimit
  exact ⟨mc, h1, PySem.W.ns_none_of I.kIn h1 e⟩
/-- str(i) -/
def fStrI (ds : List D) (μ : Mu) (Q : D → Mu → Prop) : Prop := match ds with
  | [.int i] => i.natAbs < 10 ^ 4300 ∧ Q (.str (toString i)) μ
  | [.str x] => Q (.str x) μ
  | _ => False
def rStrI : List V → Hp → VK → Prop := fun xs H Q => (∃ i, xs = [.int i] ∧ i.natAbs < 10 ^ 4300 ∧ Q (.str (toString i)) H) ∨ ∃ x, xs = [.str x] ∧ Q (.str x) H
theorem call_strI {X : Cx} (hc : X.calm = true) (e : PySem.W.nsIn X.K cStatics "sys.int_max_str_digits" = some none) : CallR X (.type "str") rStrI := by
  intro pins s σ H xs us Q I r h
  rcases h with ⟨i, rfl, hz, q⟩ | ⟨x, rfl, q⟩
  · obtain ⟨u, rfl, t, rfl⟩ := vals1 r
    exact str_of_int_or (I.ok.hd hc) (nodig I e) (fun _ => ⟨.str _, H, I.tok _, ⟨_, rfl⟩, q⟩) fun hge => absurd hz (Nat.not_lt.mpr hge)
  · exact SkE.call_str_str pins s σ H _ us Q I r ⟨x, rfl, q⟩
theorem dc_strI {K : PySem.W.Frag} : DCa K rStrI fStrI := by
  intro F μ H vs ds Q0 Q s dv h q
  unfold fStrI at h
  split at h
  · rename_i i
    obtain ⟨v, r, rfl, d1, rfl⟩ := dv
    obtain rfl : v = V.int i := d1
    exact .inl ⟨i, rfl, h.1, q F μ H (.str _) _ Grow.refl s rfl h.2⟩
  · rename_i x
    obtain ⟨v, r, rfl, d1, rfl⟩ := dv
    obtain rfl : v = V.str x := d1
    exact .inr ⟨x, rfl, q F μ H (.str _) _ Grow.refl s rfl h⟩
  · exact h.elim
/-- {e} in an f-string -/
def fFmt (d : D) (μ : Mu) (Q : D → Mu → Prop) : Prop := match d with
  | .int i => i.natAbs < 10 ^ 4300 ∧ Q (.str (toString i)) μ
  | .str x => x.length ≤ sizeLine ∧ Q (.str x) μ
  | _ => False
def rFmt : V → Hp → VK → Prop := fun x H Q => (∃ y : Str, x = .str y ∧ y.length ≤ sizeLine ∧ Q (.str y) H) ∨ ∃ i : Int, x = .int i ∧ i.natAbs < 10 ^ 4300 ∧ Q (.str (toString i)) H
theorem du_fmt {K : PySem.W.Frag} : DUn K rFmt fFmt := by
  intro F μ H x dx Q0 Q s d1 h q
  unfold fFmt at h
  split at h
  · rename_i i
    obtain rfl : x = V.int i := d1
    exact .inr ⟨i, rfl, h.1, q F μ H (.str _) _ Grow.refl s rfl h.2⟩
  · rename_i y
    obtain rfl : x = V.str y := d1
    exact .inl ⟨y, rfl, h.1, q F μ H (.str _) _ Grow.refl s rfl h.2⟩
  · exact h.elim
section
variable {X : Cx} {W : WX} {E : EX} {e : Expr} {ta : TE} {wa : WEx} {pos : Pos}
theorem efmt (hs : PySem.W.nsIn X.K cStatics "sys.int_max_str_digits" = some none) (ha : DE X W E e ta wa) : DE X W E (.FormattedValue e (-1) none pos) (fun σ H Q => ta σ H fun x H1 => rFmt x H1 Q) (wUn fFmt wa) := by
  refine ⟨⟨fun pins s σ H Q I h => wpAny_FormattedValue_plain (thn (ha.pe.run pins s σ H _ I h) fun v s1 hv => ?_)⟩, dn_un du_fmt ha.dn⟩
  obtain ⟨x, H1, I1, r1, q⟩ := hv
  rcases q with ⟨y, rfl, hz, q⟩ | ⟨i, rfl, hz, q⟩
  · obtain ⟨t, rfl⟩ := r1
    exact wpAny_formatField_str ⟨.str y, H1, I1, ⟨t, rfl⟩, q⟩ ⟨.str y, H1, I1.tok _, ⟨_, rfl⟩, q⟩ hz
  · obtain ⟨t, rfl⟩ := r1
    exact field_at (nodig I1 hs) hz ⟨.str (toString i), H1, I1.tok _, ⟨_, rfl⟩, q⟩
end
/-- the parts of an f-string -/
def wJs : List WEx → Str → En → Mu → (Str → Mu → Prop) → Prop
  | [], acc, _, μ, Q => Q acc μ
  | w :: ws, acc, ρ, μ, Q => w ρ μ fun d μ1 => ∃ y : Str, d = .str y ∧ (acc ++ y).length ≤ sizeLine ∧ wJs ws (acc ++ y) ρ μ1 Q
inductive DJ (X : Cx) (W : WX) (E : EX) : List Expr → List TE → List WEx → Prop where
  | nil : DJ X W E [] [] []
  | cons {e : Expr} {t : TE} {w : WEx} {es : List Expr} {ts : List TE} {ws : List WEx} (h : DE X W E e t w) (r : DJ X W E es ts ws) : DJ X W E (e :: es) (t :: ts) (w :: ws)
theorem DJ.pj {X : Cx} {W : WX} {E : EX} {es : List Expr} {ts : List TE} {ws : List WEx} (h : DJ X W E es ts ws) : PJ X es ts := by
  induction h with
  | nil => exact .nil
  | cons h _ ih => exact .cons h.pe ih
theorem DJ.dn {X : Cx} {W : WX} {E : EX} {es : List Expr} {ts : List TE} {ws : List WEx} (h : DJ X W E es ts ws) : ∀ (acc : Str) F μ H ρ σ (Q0 : Str → Mu → Prop) (Q : Str → Hp → Prop), S0 X.K W E F μ H ρ σ → wJs ws acc ρ μ Q0 → (∀ F' μ' H' out, Grow F F' → S0 X.K W E F' μ' H' ρ σ → Q0 out μ' → Q out H') → tJs ts acc σ H Q := by
  induction h with
  | nil => exact fun acc F μ H ρ σ Q0 Q s hw q => q F μ H acc Grow.refl s hw
  | cons h _ ih =>
    intro acc F μ H ρ σ Q0 Q s hw q
    refine h.dn F μ H ρ σ _ _ s hw fun F1 μ1 H1 d v g1 s1 dv ⟨y, ed, hl, h1⟩ => ?_
    subst ed
    exact ⟨y, dv, hl, ih (acc ++ y) F1 μ1 H1 ρ σ Q0 Q s1 h1 fun F2 μ2 H2 out g2 => q F2 μ2 H2 out (g1.trans g2)⟩
def wJoin (ws : List WEx) : WEx := fun ρ μ Q => wJs ws Str.empty ρ μ fun out μ1 => Q (.str out) μ1
theorem ejoin {X : Cx} {W : WX} {E : EX} {v1 v2 : Expr} {rest : List Expr} {ts : List TE} {ws : List WEx} {pos : Pos} (h : DJ X W E (v1 :: v2 :: rest) ts ws) : DE X W E (.JoinedStr (v1 :: v2 :: rest) pos) (fun σ H Q => tJs ts Str.empty σ H fun out H1 => Q (.str out) H1) (wJoin ws) :=
  ⟨pe_joined h.pj, fun F μ H ρ σ Q0 Q s hw q => h.dn Str.empty F μ H ρ σ _ _ s hw fun F' μ' H' out g s' hq => q F' μ' H' (.str out) _ g s' rfl hq⟩
/-! ### a list comprehension where nothing is handled -/
section
variable {X : Cx} {W : WX} {E : EX} {elt it : Expr} {n : Str} {np pos : Pos} {ifs : List Expr} {sc : Scope} {ti : TI} {wi : WI} {wt : WT} {we : WEx}
theorem elc (nd : X.N.Nodup) (own : List (Str × Nat)) (i : Nat) {vs : List Nat} (hi : DIt X W E (.Name n np) it ti wi) (hg : ∀ u J C cl fp, PG (X.blk u J sc (compEnvC sc cl C X.env) fp) (.Name n np) (gName i)) (ht : ∀ u J C cl fp, ∃ tt, DTs (X.blk u J sc (compEnvC sc cl C X.env) fp) W E ifs tt wt)
    (he : ∀ u J C cl fp, ∃ te, DE (X.blk u J sc (compEnvC sc cl C X.env) fp) W E elt te we) (hc : X.calm = true := by rfl) (hvs : own.map (·.2) = vs := by rfl) (ok : blkC X.N X.env.scope sc own = true := by rfl) (hv : i ∈ own.map (·.2) := by decide) (hs : ∀ x, foldedSetIterable it X.env x = pure x := by intro _; rfl) :
    DE X W E (.ListComp elt [⟨.Name n np, it, ifs, 0⟩] sc pos) (tLc ti (gName i) (tOfT X.K W E wt) (tOfE X.K W E we) vs) (wLc wi i vs wt we) := by
  subst hvs
  exact ⟨pe_lc hc nd hi.pe (blkOk_by ok) hg (fun u J C cl fp => (ht u J C cl fp).elim fun _ h => h.of) (fun u J C cl fp => (he u J C cl fp).elim fun _ h => h.of) hs, dn_lc hi.dn dn_ofT dn_ofE hv⟩
end
end DL
set_option maxHeartbeats 4000000
namespace DL
open PySem L2 PySem.Spec PyProof.Rows
/-! ### words for the pure part -/
/-- for g in xs: b, xs a local that is a list (a cell that the loop does not change, or one for good) -/
theorem for_lv {k : Nat} {d : D} {l : List D} {μ : Mu} {ρ : En} {g : WG} {b : WS} {Ds : DEnds} (el : lv μ d = some l) (hv : ρ[k]? = some (some d)) (I : Nat → En → Mu → Prop) (i0 : I 0 ρ μ) (ik : ∀ i ρ' μ', I i ρ' μ' → le μ μ')
    (step : ∀ i e ρ' μ', l[i]? = some e → I i ρ' μ' → g e ρ' μ' fun ρ2 μ2 => b { Ds with nx := wk (I (i + 1)), ct := wk (I (i + 1)), bk := Ds.nx } ρ2 μ2) (done : ∀ ρ' μ', I l.length ρ' μ' → Ds.nx ρ' μ') : wFor (iLs (wVar k)) g b Ds ρ μ := by
  show iLs (wVar k) ρ μ _
  unfold iLs wVar
  rw [hv]
  unfold lv at el
  split at el
  · cases el
    exact ⟨I, i0, fun _ _ _ _ => trivial, step, done⟩
  · rename_i a
    split at el
    · rename_i l' em
      cases el
      dsimp only
      rw [em]
      exact ⟨I, i0, fun i ρ' μ' h => ik i ρ' μ' h _ _ em, step, done⟩
    · cases el
  · cases el
theorem sv_lv {μ : Mu} {d : D} {l : List D} (h : lv μ d = some l) : sv μ d = some l := by
  cases d <;> first | exact h | cases h
end DL
set_option maxHeartbeats 4000000
namespace DL
open PySem L2 PySem.Spec PyProof.Rows
/-! ### a < b <= c -/
def wChain (f g : F2) (a b c : WEx) : WEx := fun ρ μ Q => a ρ μ fun x μ1 => b ρ μ1 fun y μ2 => f x y μ2 fun z μ3 => match z with
  | .bl k => if k = true then c ρ μ3 fun w μ4 => g y w μ4 Q else Q (.bl false) μ3
  | _ => False
section
variable {K : PySem.W.Frag} {W : WX} {E : EX} {ta tb tc : TE} {wa wb wc : WEx} {r r' : R2} {f g : F2}
theorem dn_chain (hf : DOp K r f) (hg : DOp K r' g) (ha : Dn K W E ta wa) (hb : Dn K W E tb wb) (hc : Dn K W E tc wc) : Dn K W E (tChain r r' ta tb tc) (wChain f g wa wb wc) := by
  intro F μ H ρ σ Q0 Q s h q
  refine ha F μ H ρ σ _ _ s h fun F1 μ1 H1 x v g1 s1 dv h1 => ?_
  refine hb F1 μ1 H1 ρ σ _ _ s1 h1 fun F2 μ2 H2 y u g2 s2 du h2 => ?_
  refine hf F2 μ2 H2 v u x y _ _ s2.ok (dv.mono g2) du h2 fun F3 μ3 H3 z zv g3 s3 dz h3 => ?_
  have S3 : S0 K W E F3 μ3 H3 ρ σ := s2.mono g3 s3
  split at h3
  · rename_i k
    refine ⟨k, dz, ?_⟩
    cases k with
    | true =>
      rw [if_pos rfl] at *
      refine hc F3 μ3 H3 ρ σ _ _ S3 h3 fun F4 μ4 H4 w wv g4 s4 dw h4 => ?_
      refine hg F4 μ4 H4 u wv y w Q0 Q s4.ok (du.mono (g3.trans g4)) dw h4 fun F5 μ5 H5 d5 v5 g5 s5 dv5 h5 => ?_
      exact q F5 μ5 H5 d5 v5 (g1.trans (g2.trans (g3.trans (g4.trans g5)))) (s4.mono g5 s5) dv5 h5
    | false =>
      rw [if_neg Bool.false_ne_true] at *
      exact q F3 μ3 H3 (.bl false) (.bl false) (g1.trans (g2.trans g3)) S3 rfl h3
  · exact h3.elim
/-- texts joined -/
def fAddS : F2 := fun x y μ Q => match x, y with
  | .str a, .str b => a.length + b.length ≤ sizeLine ∧ Q (.str (a ++ b)) μ
  | _, _ => False
theorem do_adds : DOp K (fun x y H Q => ∃ i j, x = .str i ∧ y = .str j ∧ i.length + j.length ≤ sizeLine ∧ Q (.str (i ++ j)) H) fAddS := by
  intro F μ H x y dx dy Q0 Q s d1 d2 h q
  unfold fAddS at h
  split at h
  · rename_i a b
    obtain rfl : x = V.str a := d1
    obtain rfl : y = V.str b := d2
    exact ⟨a, b, rfl, rfl, h.1, q F μ H (.str _) _ Grow.refl s rfl h.2⟩
  · exact h.elim
end
section
variable {X : Cx} {W : WX} {E : EX} {a b c : Expr} {ta tb tc : TE} {wa wb wc : WEx} {pos : Pos} {r r' : R2} {f g : F2} {op op' : CmpOp}
theorem echain (ho : OpR X (compareOp op) r) (hf : DOp X.K r f) (ho' : OpR X (compareOp op') r') (hg : DOp X.K r' g) (ha : DE X W E a ta wa) (hb : DE X W E b tb wb) (hc : DE X W E c tc wc) (hm : lastMarks [op, op'] [b, c] = false := by with_unfolding_all rfl) :
    DE X W E (.Compare a [op, op'] [b, c] pos) (tChain r r' ta tb tc) (wChain f g wa wb wc) := ⟨pe_chain ho ho' ha.pe hb.pe hc.pe hm, dn_chain hf hg ha.dn hb.dn hc.dn⟩
theorem tchain (ho : OpR X (compareOp op) r) (hf : DOp X.K r f) (ho' : OpR X (compareOp op') r') (hg : DOp X.K r' g) (ha : DE X W E a ta wa) (hb : DE X W E b tb wb) (hc : DE X W E c tc wc) (hm : lastMarks [op, op'] [b, c] = false := by with_unfolding_all rfl) :
    DT X W E (.Compare a [op, op'] [b, c] pos) (tTest (tChain r r' ta tb tc)) (wTe (wChain f g wa wb wc)) := ⟨pt_chain ho ho' ha.pe hb.pe hc.pe hm, dn_te (dn_chain hf hg ha.dn hb.dn hc.dn)⟩
theorem eadds (ha : DE X W E a ta wa) (hb : DE X W E b tb wb) : DE X W E (.BinOp a .Add b pos) (tOp (fun x y H Q => ∃ i j, x = .str i ∧ y = .str j ∧ i.length + j.length ≤ sizeLine ∧ Q (.str (i ++ j)) H) ta tb) (wOp fAddS wa wb) := eo op_add_str do_adds ha hb
end
end DL
set_option maxHeartbeats 4000000
namespace DL
open PySem L2 PySem.Spec PyProof.Rows
/-! ### xs[::-1] -/
def rRev (K : PySem.W.Frag) (x : V) (j : Option Int) (H : Hp) (Q : VK) : Prop := j = some (-1) ∧ ∃ a xs, x = .ref a ∧ SqL K H a xs ∧ ∀ p, H p = none → Q (.ref p) (upd H p (.lst xs.reverse))
def tRev (K : PySem.W.Frag) (te : TE) (tj : TO) : TE := fun σ H Q => te σ H fun x H1 => tj σ H1 fun j H2 => rRev K x j H2 Q
theorem pe_rev {X : Cx} {e : Expr} {te : TE} {st : Expr} {tj : TO} {pos p2 : Pos} (he : PE X e te) (hj : PO X (some st) tj) : PE X (.Subscript e (.Slice none none (some st) p2) pos) (tRev X.K te tj) := by
  refine ⟨fun pins s σ H Q I h => ?_⟩
  refine Subscript_ (thn (he.run pins s σ H _ I h) fun v s1 ⟨x, H1, I1, r1, q1⟩ => ?_)
  refine wpAny_Slice ?_
  rw [evalPart_none]
  refine wpAny_pure (wpAny_pure (thn (hj.run pins s1 σ H1 _ I1 q1) fun vj s3 ⟨j, H3, I3, pj, q3⟩ => ?_))
  obtain ⟨rfl, a, xs, rfl, hx, q⟩ := q3
  have I4 : Inv X pins σ H3 { s3 with heap := s3.heap.push { cls := .type "slice", data := .fields #[.none, .none, vj] } } := I3.kept (t' := s3.toks) fun b ob q => Heap.get?_push_of_some _ q
  cases r1
  obtain ⟨its, r, ht, hz⟩ := I4.list hx
  show wpAny (model X.prog X.w) X.A (subscriptTail e (.Slice none none (some st) p2) (.ref a) (.ref s3.heap.objs.size)) (EP X pins σ Q) X.xe { s3 with heap := s3.heap.push { cls := .type "slice", data := .fields #[.none, .none, vj] } }
  refine tail_any (ops := [.ref a, .ref s3.heap.objs.size]) ht.isList.typeIs slot_list_getitem.lookup ?_ (by with_unfolding_all rfl)
  refine wpAny_getItem_list_slice ht.isList (Heap.IsSliceOf.new ..) .none .none pj (by decide) ?_ (by rw [List.size_toArray, ← r.length]; exact hz)
  rw [PySem.W.krv_pick]
  refine ⟨.ref _, _, I4.laid (t' := s3.toks) (o := .lst xs.reverse) (fun b ob q => Heap.get?_push_of_some _ q) (Nat.le_refl _) ?_, rfl, q _ (I4.hok.fresh (Nat.le_refl _))⟩
  refine ⟨?_, its.reverse, 0, r.reverse, ?_⟩
  · rw [List.length_reverse]; exact hz
  · exact Heap.get?_push_size _ rfl
/-- of a list: a new cell -/
def fRev (d : D) (j : Option Int) (μ : Mu) (Q : D → Mu → Prop) : Prop := j = some (-1) ∧ match lvr μ d with
  | some l => ∀ p, μ p = none → Q (.mut p) (um μ p (.lst l.reverse))
  | none => False
def wRev (a : WEx) (s : WO) : WEx := fun ρ μ Q => a ρ μ fun d μ1 => s ρ μ1 fun j μ2 => fRev d j μ2 Q
theorem DVs.reverse {K : PySem.W.Frag} {F : Hp} : ∀ {l : List D} {xs : List V}, DVs K F l xs → DVs K F l.reverse xs.reverse
  | [], _, h => by rw [show _ = [] from h]; exact rfl
  | _ :: l, _, h => by
    obtain ⟨v, vs, rfl, a, r⟩ := h
    rw [List.reverse_cons, List.reverse_cons]
    exact (DVs.reverse r).append (DVs.cons a DVs.nil)
theorem erev {X : Cx} {W : WX} {E : EX} {e : Expr} {te : TE} {we : WEx} {st : Expr} {tj : TO} {wj : WO} {pos p2 : Pos} (he : DE X W E e te we) (hj : DO X W E (some st) tj wj) : DE X W E (.Subscript e (.Slice none none (some st) p2) pos) (tRev X.K te tj) (wRev we wj) := by
  refine ⟨pe_rev he.pe hj.pe, fun F μ H ρ σ Q0 Q s h q => ?_⟩
  refine he.dn F μ H ρ σ _ _ s h fun F1 μ1 H1 d v g1 s1 dv h1 => ?_
  refine hj.dn F1 μ1 H1 ρ σ _ _ s1 h1 fun F2 μ2 H2 j g2 s2 h2 => ?_
  obtain ⟨rfl, h2⟩ := h2
  split at h2
  · rename_i l el
    obtain ⟨a, xs, rfl, r, dl⟩ := lvr_ok s2.ok (dv.mono g2) el
    refine ⟨rfl, a, xs, rfl, r, fun p hp => ?_⟩
    have f := s2.ok.free hp
    exact q F2 _ _ (.mut p) _ (g1.trans g2) (s2.mono Grow.refl (s2.ok.cell (m := .lst _) f.1 ⟨_, upd_same, dl.reverse⟩)) rfl (h2 p f.2)
  · exact h2.elim
/-! ### {}, {k: v} -/
def wDNew : WEx := fun _ μ Q => ∀ p, μ p = none → Q (.mut p) (um μ p (.dK []))
def wDNewF : WEx := fun _ μ Q => Q (.dK [] []) μ
def kD : Key → D
  | .inl i => .int i
  | .inr x => .str x
def wDsp1 (k v : WEx) : WEx := fun ρ μ Q => ∀ p, μ p = none → k ρ (um μ p (.dK [])) fun x μ1 => v ρ μ1 fun y μ2 => μ2 p = some (.dK []) ∧ ∃ key, x = kD key ∧ Q (.mut p) (um μ2 p (.dK [(key, y)]))
def wDsp1F (k v : WEx) : WEx := fun ρ μ Q => ∀ p, μ p = none → k ρ (um μ p (.dK [])) fun x μ1 => v ρ μ1 fun y μ2 => μ2 p = some (.dK []) ∧ ∃ key, x = kD key ∧ Q (.dK [key] [y]) (rm μ2 p)
theorem kD_dv {K : PySem.W.Frag} {F : Hp} {k : Key} {v : V} (h : DV K F (kD k) v) : v = kV k := by
  cases k <;> exact h
section
variable {X : Cx} {W : WX} {E : EX} {k v : Expr} {tk tv : TE} {wk' wv : WEx} {pos : Pos}
theorem ednew : DE X W E (.Dict [] [] pos) tDNewK wDNew := ⟨pe_dnewK, fun F μ H ρ σ Q0 Q s h q p hp => by
  have f := s.ok.free hp
  exact q F _ _ (.mut p) _ Grow.refl (s.mono Grow.refl (s.ok.cell (m := .dK []) f.1 ⟨[], upd_same, rfl, rfl⟩)) rfl (h p f.2)⟩
theorem ednewF : DE X W E (.Dict [] [] pos) tDNewK wDNewF := ⟨pe_dnewK, fun F μ H ρ σ Q0 Q s h q p hp => by
  have f := s.ok.free hp
  exact q (upd F p (.dK [])) μ _ (.dK [] []) _ (Grow.new f.1) (s.mono (Grow.new f.1) (s.ok.put hp)) ⟨p, [], rfl, upd_same, rfl, rfl⟩ h⟩
theorem edsp1 (hk : DE X W E k tk wk') (hv : DE X W E v tv wv) : DE X W E (.Dict [some k] [v] pos) (tDisp [(tk, tv)]) (wDsp1 wk' wv) := by
  refine ⟨pe_disp (pps_cons hk.pe hv.pe pps_nil) (by rfl) (by rfl) (fun z => by cases z) (Nat.le_of_ble_eq_true rfl), fun F μ H ρ σ Q0 Q s h q p hp => ?_⟩
  have f := s.ok.free hp
  have s1 := s.mono Grow.refl (s.ok.cell (o := .dK []) (m := .dK []) f.1 ⟨[], upd_same, rfl, rfl⟩)
  refine hk.dn F _ _ ρ σ _ _ s1 (h p f.2) fun F1 μ1 H1 x xv g1 s1 dx h1 => ?_
  refine hv.dn F1 _ _ ρ σ _ _ s1 h1 fun F2 μ2 H2 y yv g2 s2 dy ⟨hm, key, ex, h2⟩ => ?_
  subst ex
  obtain ⟨fr, ys, ho, kd⟩ := s2.ok.cel p _ hm
  obtain rfl := kD_dv (dx.mono g2)
  have ey : ys = [] := by
    have := kd.1
    simpa using this
  subst ey
  refine ⟨ho, [(key, yv)], rfl, Nat.le_of_ble_eq_true rfl, ?_⟩
  exact q F2 _ _ (.mut p) _ (g1.trans g2) (s2.mono Grow.refl (s2.ok.cell (m := .dK [(key, y)]) fr ⟨[(key, yv)], upd_same, rfl, DVs.cons dy DVs.nil⟩)) rfl h2
theorem edsp1F (hk : DE X W E k tk wk') (hv : DE X W E v tv wv) : DE X W E (.Dict [some k] [v] pos) (tDisp [(tk, tv)]) (wDsp1F wk' wv) := by
  refine ⟨pe_disp (pps_cons hk.pe hv.pe pps_nil) (by rfl) (by rfl) (fun z => by cases z) (Nat.le_of_ble_eq_true rfl), fun F μ H ρ σ Q0 Q s h q p hp => ?_⟩
  have f := s.ok.free hp
  have s1 := s.mono Grow.refl (s.ok.cell (o := .dK []) (m := .dK []) f.1 ⟨[], upd_same, rfl, rfl⟩)
  refine hk.dn F _ _ ρ σ _ _ s1 (h p f.2) fun F1 μ1 H1 x xv g1 s1 dx h1 => ?_
  refine hv.dn F1 _ _ ρ σ _ _ s1 h1 fun F2 μ2 H2 y yv g2 s2 dy ⟨hm, key, ex, h2⟩ => ?_
  subst ex
  obtain ⟨fr, ys, ho, kd⟩ := s2.ok.cel p _ hm
  obtain rfl := kD_dv (dx.mono g2)
  have ey : ys = [] := by
    have := kd.1
    simpa using this
  subst ey
  refine ⟨ho, [(key, yv)], rfl, Nat.le_of_ble_eq_true rfl, ?_⟩
  have s3 : S0 X.K W E F2 (um μ2 p (.dK [(key, y)])) (upd H2 p (.dK [(key, yv)])) ρ σ := s2.mono Grow.refl (s2.ok.cell (m := .dK [(key, y)]) fr ⟨[(key, yv)], upd_same, rfl, DVs.cons dy DVs.nil⟩)
  have s4 := s3.mono (Grow.new fr) (s3.ok.frz (o := .dK [(key, yv)]) fr upd_same)
  have e4 : rm (um μ2 p (.dK [(key, y)])) p = rm μ2 p := by
    funext b; unfold rm um; split <;> rfl
  rw [e4] at s4
  exact q _ _ _ (.dK [key] [y]) _ (g1.trans (g2.trans (Grow.new fr))) s4 ⟨p, [(key, yv)], rfl, upd_same, rfl, (DVs.cons dy DVs.nil).mono (Grow.new fr)⟩ h2
end
/-! ### == at any depth -/
mutual
/-- data without dicts and cells, as the model's own -/
def toP : D → Option PyData
  | .non => some .none
  | .bl b => some (.bool b)
  | .int i => some (.int i)
  | .str x => some (.str x)
  | .tup l => (toPs l).map .tuple
  | .lst l => (toPs l).map .list
  | .lsr l => (toPs l).map .list
  | _ => none
def toPs : List D → Option (List PyData)
  | [] => some []
  | d :: l => (toP d).bind fun x => (toPs l).map fun xs => x :: xs
end
section
variable {K : PySem.W.Frag} {F H : Hp}
mutual
theorem dp_of (g : Grow F H) : ∀ {d : D} {v : V} {x : PyData}, DV K F d v → toP d = some x → Dp K H v x
  | .non, _, _, h, e => by cases e; rw [show _ = V.non from h]; exact .non
  | .bl b, _, _, h, e => by cases e; rw [show _ = V.bl b from h]; exact .bl b
  | .int b, _, _, h, e => by cases e; rw [show _ = V.int b from h]; exact .int b
  | .str b, _, _, h, e => by cases e; rw [show _ = V.str b from h]; exact .str b
  | .tup l, _, _, h, e => by
    obtain ⟨a, xs, rfl, r, dl⟩ := h
    have e : (toPs l).map PyData.tuple = some _ := e
    cases q : toPs l with
    | none => rw [q] at e; cases e
    | some ys => rw [q] at e; cases e; exact .tup (g.st r) (dps_of g dl q)
  | .lst l, _, _, h, e => by
    obtain ⟨a, xs, rfl, r, dl⟩ := h
    have e : (toPs l).map PyData.list = some _ := e
    cases q : toPs l with
    | none => rw [q] at e; cases e
    | some ys => rw [q] at e; cases e; exact .lst (SqL.of (g _ _ r)) (dps_of g dl q)
  | .lsr l, _, _, h, e => by
    obtain ⟨a, xs, rfl, r, dl⟩ := h
    have e : (toPs l).map PyData.list = some _ := e
    cases q : toPs l with
    | none => rw [q] at e; cases e
    | some ys => rw [q] at e; cases e; exact .lst (g.sl r) (dps_of g dl q)
  | .dK _ _, _, _, _, e => nomatch e
  | .dT _ _, _, _, _, e => nomatch e
  | .ins _ _ _, _, _, _, e => nomatch e
  | .exc _ _ _ _, _, _, _, e => nomatch e
  | .mut _, _, _, _, e => nomatch e
theorem dps_of (g : Grow F H) : ∀ {l : List D} {xs : List V} {ys : List PyData}, DVs K F l xs → toPs l = some ys → DpAll K H xs ys
  | [], _, _, h, e => by cases e; rw [show _ = [] from h]; exact .nil
  | d :: l, _, _, h, e => by
    obtain ⟨v, vs, rfl, a, r⟩ := h
    have e : ((toP d).bind fun x => (toPs l).map fun xs => x :: xs) = some _ := e
    cases q : toP d with
    | none => rw [q] at e; cases e
    | some y =>
      rw [q] at e
      cases q2 : toPs l with
      | none => rw [q2] at e; cases e
      | some ys => rw [q2] at e; cases e; exact .cons (dp_of g a q) (dps_of g r q2)
end
end
def fEqD : F2 := fun x y μ Q => ∃ d e, toP x = some d ∧ toP y = some e ∧ SeqAt.shaped d = true ∧ SeqAt.shaped e = true ∧ Q (.bl (PyData.eqv d e)) μ
def fNeD : F2 := fun x y μ Q => ∃ d e, toP x = some d ∧ toP y = some e ∧ SeqAt.shaped d = true ∧ SeqAt.shaped e = true ∧ Q (.bl (!PyData.eqv d e)) μ
theorem do_eqD {K : PySem.W.Frag} : DOp K (rEqD K) fEqD := by
  intro F μ H x y dx dy Q0 Q s d1 d2 ⟨d, e, h1, h2, h3, h4, h⟩ q
  exact ⟨d, e, dp_of s.sub d1 h1, dp_of s.sub d2 h2, h3, h4, q F μ H (.bl _) _ Grow.refl s rfl h⟩
theorem do_neD {K : PySem.W.Frag} : DOp K (rNeD K) fNeD := by
  intro F μ H x y dx dy Q0 Q s d1 d2 ⟨d, e, h1, h2, h3, h4, h⟩ q
  exact ⟨d, e, dp_of s.sub d1 h1, dp_of s.sub d2 h2, h3, h4, q F μ H (.bl _) _ Grow.refl s rfl h⟩
theorem eqD_short {x : PyData} {xs : List PyData} : PyData.eqv (.list (x :: xs)) (.list []) = false := by
  unfold PyData.eqv PyData.eqvAll
  rfl
end DL
set_option maxHeartbeats 4000000
namespace DL
open PySem L2 PySem.Spec PyProof.Rows He
/-! ### a head's facts with a Bool of one's own, the interpreter's statics among them -/
def asY (g : Addr → Option Obj) (n : Nat) : List Addr := asD g n ++ [cStatics]
abbrev AlY : Type := AlD × Bool
def obsY (n : Nat) (fa : List Fa) (fn : List DefD) (ex : PySem.W.Frag → Bool) (g : Addr → Option Obj) : AlY := (obsD fa fn (frG g (asY g n)), ex (frG g (asY g n)))
def hookY (n : Nat) (fa : List Fa) (fn : List DefD) (ex : PySem.W.Frag → Bool) : PySem.W.Hook where
  α := AlY
  obs := fun s => obsY n fa fn ex s.heap.get?
  val := fun _ => (valD fn, true)
  says := fun _ h => ∃ K : PySem.W.Frag, K.In h ∧ SaysD fa fn K ∧ ex K = true
  of := fun _ _ e => ⟨_, frG_in, congrArg (fun z : AlY => z.1) e, congrArg (fun z : AlY => z.2) e⟩
  keeps := fun _ _ _ ⟨K, hK, c⟩ k => ⟨K, PySem.W.Frag.In.keeps hK k, c⟩
theorem obsY_eq {n : Nat} {fa : List Fa} {fn : List DefD} {ex : PySem.W.Frag → Bool} {g : Addr → Option Obj} {s : Shared} (h : ∀ a, g a = s.heap.get? a) : obsY n fa fn ex g = (hookY n fa fn ex).obs s := by
  have e : g = s.heap.get? := funext h
  rw [e] <;> rfl
end DL
set_option maxHeartbeats 4000000
namespace DL
open PySem L2 PySem.Spec PyProof.Rows
/-! ### walks that look at each item, and stop at the first bad one -/
section
variable {k j : Nat} {α : Type} {f : α → D} {L : List α} {ok : α → Bool} {μ : Mu} {ρ : En} {b : WS} {Ds : DEnds} {r0 : Option D}
theorem all_take {p : α → Bool} {l : List α} {i : Nat} {x : α} (h : l[i]? = some x) : (l.take (i + 1)).all p = ((l.take i).all p && p x) := by
  rw [List.take_succ, h, Option.toList_some, List.all_append]
  simp
theorem chk_core (k' : Wk) (hk : k'.items = L.map f) (hok : k'.ok μ) (h0 : ρ = ρ.set j r0) (turn : ∀ (x : α) (r : Option D) (NX : En → Mu → Prop), x ∈ L → (ok x = true → NX (ρ.set j (some (f x))) μ) → (ok x = false → L.all ok = false) → b { Ds with nx := wk NX, ct := wk NX, bk := Ds.nx } (ρ.set j (some (f x))) μ) (done : L.all ok = true → ∀ r, Ds.nx (ρ.set j r) μ) :
    ∃ I : Nat → En → Mu → Prop, I 0 ρ μ ∧ (∀ i ρ μ, I i ρ μ → k'.ok μ) ∧ (∀ i d ρ μ, k'.items[i]? = some d → I i ρ μ → gN j d ρ μ fun ρ2 μ2 => b { Ds with nx := wk (I (i + 1)), ct := wk (I (i + 1)), bk := Ds.nx } ρ2 μ2) ∧ ∀ ρ μ, I k'.items.length ρ μ → Ds.nx ρ μ := by
  refine ⟨fun i ρ' μ' => μ' = μ ∧ (∃ r, ρ' = ρ.set j r) ∧ (L.take i).all ok = true, ⟨rfl, ⟨r0, h0⟩, by simp⟩, fun i ρ' μ' h => by rw [h.1]; exact hok, ?_, ?_⟩
  · rintro i d ρ' μ' hd ⟨rfl, ⟨r, rfl⟩, ha⟩
    rw [hk, List.getElem?_map] at hd
    cases q : L[i]? with
    | none => rw [q] at hd; cases hd
    | some x =>
      rw [q] at hd
      obtain rfl : f x = d := Option.some.inj hd
      show b _ ((ρ.set j r).set j (some (f x))) μ'
      rw [List.set_set]
      refine turn x r _ (List.mem_of_getElem? q) (fun hx => ⟨rfl, ⟨_, rfl⟩, by rw [all_take q, ha, hx]; rfl⟩) fun hx => ?_
      cases c : L.all ok with
      | false => rfl
      | true => rw [List.all_eq_true.mp c x (List.mem_of_getElem? q)] at hx; cases hx
  · rintro ρ' μ' ⟨rfl, ⟨r, rfl⟩, ha⟩
    rw [hk, List.length_map, List.take_length] at ha
    exact done ha r
/-- over a tuple -/
theorem chk_tp (hv : ρ[k]? = some (some (.tup (L.map f)))) (h0 : ρ = ρ.set j r0) (turn : ∀ (x : α) (r : Option D) (NX : En → Mu → Prop), x ∈ L → (ok x = true → NX (ρ.set j (some (f x))) μ) → (ok x = false → L.all ok = false) → b { Ds with nx := wk NX, ct := wk NX, bk := Ds.nx } (ρ.set j (some (f x))) μ) (done : L.all ok = true → ∀ r, Ds.nx (ρ.set j r) μ) :
    wFor (iTp (wVar k)) (gN j) b Ds ρ μ := by
  show iTp (wVar k) ρ μ _
  unfold iTp wVar
  rw [hv]
  exact chk_core (.fix _) rfl trivial h0 turn done
/-- over a list, a cell or not -/
theorem chk_lv {d : D} (el : lv μ d = some (L.map f)) (hv : ρ[k]? = some (some d)) (h0 : ρ = ρ.set j r0) (turn : ∀ (x : α) (r : Option D) (NX : En → Mu → Prop), x ∈ L → (ok x = true → NX (ρ.set j (some (f x))) μ) → (ok x = false → L.all ok = false) → b { Ds with nx := wk NX, ct := wk NX, bk := Ds.nx } (ρ.set j (some (f x))) μ) (done : L.all ok = true → ∀ r, Ds.nx (ρ.set j r) μ) :
    wFor (iLs (wVar k)) (gN j) b Ds ρ μ := by
  show iLs (wVar k) ρ μ _
  unfold iLs wVar
  rw [hv]
  unfold lv at el
  split at el
  · cases el
    exact chk_core (.fix _) rfl trivial h0 turn done
  · rename_i a
    split at el
    · rename_i l' em
      cases el
      dsimp only
      rw [em]
      exact chk_core (.cell a _) rfl em h0 turn done
    · cases el
  · cases el
end
end DL
set_option maxHeartbeats 4000000
namespace DL
open PySem L2 PySem.Spec PyProof.Rows
/-! ### t * 0, t * 1, t * k -/
theorem tuple_mul_one (l : Addr) (items : Array Value) (n : Nat) (dd : Option Addr) (sl : Array (Option Value)) (u : Tok) :
    Meets (Builtin.«tuple.__mul__» ⟨[.ref l, .int 1 u], []⟩) (fun _ R s => s.heap.get? l = some { cls := .type "tuple", dict := dd, data := .seq items n, slots := sl } ∧ R (.ok (.ret (Value.ref l))) s) :=
  .of_wp fun prog w A R s h => by
    obtain ⟨hp, g, d, tk, os⟩ := s
    obtain ⟨hl, h⟩ := h
    have f1 := AutoSeq1.idx_int
    have c1 : (items.isEmpty || (1 : Int) == 1) = true := by rw [show ((1 : Int) == 1) = true from rfl, Bool.or_true]
    wp_walk using wpAny_loadPart' hl
    exact ⟨_, rfl, h⟩
theorem tuple_mul_nil (l : Addr) (items : Array Value) (n : Nat) (dd : Option Addr) (sl : Array (Option Value)) (u : Tok) (c1 : (items.isEmpty || (0 : Int) == 1) = false) :
    Meets (Builtin.«tuple.__mul__» ⟨[.ref l, .int 0 u], []⟩) (fun _ R s => s.heap.get? l = some { cls := .type "tuple", dict := dd, data := .seq items n, slots := sl } ∧
      R (.ok (.ret (Value.ref s.heap.objs.size))) { s with heap := s.heap.push { cls := Value.type "tuple", data := Data.seq #[] }, toks := s.toks }) :=
  .of_wp fun prog w A R s h => by
    obtain ⟨hp, g, d, tk, os⟩ := s
    obtain ⟨hl, h⟩ := h
    have f1 := AutoSeq1.idx_int
    wp_walk using wpAny_loadPart' hl
    repeat (first
      | (refine wpAny_ite_false (decide_eq_false (by rw [c1]; exact Bool.false_ne_true)) ?_; wp_walk using wpAny_loadPart' hl))
    exact ⟨_, rfl, h⟩
def rRep (K : PySem.W.Frag) : R2 := fun x y H Q => ∃ l k xs, x = .ref l ∧ y = .int k ∧ H l = some (.tup xs) ∧ xs ≠ [] ∧ 0 ≤ k ∧ k ≤ 1000 ∧ xs.length ≤ 1000 ∧ (k = 1 → Q (.ref l) H) ∧ (k ≠ 1 → ∀ p, H p = none → Q (.ref p) (upd H p (.tup (List.replicate k.toNat xs).flatten)))
theorem op_rep0 {X : Cx} : OpR X (binaryOp .Mult) (rRep X.K) := by
  intro pins s σ H x y v u Q I rx ry h
  obtain ⟨l, k, xs, rfl, rfl, hT, hne, h1, h2, hz, q1, qn⟩ := h
  by_cases c2 : 2 ≤ k
  · exact op_repT pins s σ H _ _ v u Q I rx ry ⟨l, k, xs, rfl, rfl, SqT.of hT, hne, c2, h2, hz, qn (by omega)⟩
  cases rx
  obtain ⟨t, rfl⟩ := ry
  obtain ⟨its, r, ⟨⟨cls, dd, data, sl⟩, ho, hc, n, hd⟩, hs⟩ := I.tuple (SqT.of hT)
  simp only at hc hd
  subst hc hd
  have hle : its.length = xs.length := r.length.symm
  have hn : its ≠ [] := fun e => hne (by
    rw [e] at hle
    exact List.eq_nil_of_length_eq_zero hle.symm)
  by_cases c1 : k = 1
  · subst c1
    refine wpAny_binaryOp_repeat_ref (T := "tuple") (U := "int") (by decide) ⟨_, ho, rfl⟩ (fun s' => typeIs_int s' 1 t) noFill_tuple_mul F.fills_int_mul F.slot_int_rmul repeat_tuple F.slot_int_index.lookup
      (call_meets F.slot_int_rmul (typeIs_int s 1 t) F.entry_int_rmul (F.args_int_rmul_2 _ _) (int_rmul_tuple 1 t l its.toArray n dd sl)
        ⟨ho, rfl, ⟨_, ho, rfl⟩, call_meets F.slot_tuple_mul ⟨_, ho, rfl⟩ F.entry_tuple_mul (F.args_tuple_mul_2 _ _) (tuple_mul_one l its.toArray n dd sl t) ⟨ho, ?_⟩⟩)
    exact ⟨.ref l, H, I, rfl, q1 rfl⟩
  · obtain rfl : k = 0 := by omega
    have hi : (its.toArray.isEmpty || (0 : Int) == 1) = false := by
      cases its with
      | nil => exact absurd rfl hn
      | cons a b => rfl
    refine wpAny_binaryOp_repeat_ref (T := "tuple") (U := "int") (by decide) ⟨_, ho, rfl⟩ (fun s' => typeIs_int s' 0 t) noFill_tuple_mul F.fills_int_mul F.slot_int_rmul repeat_tuple F.slot_int_index.lookup
      (call_meets F.slot_int_rmul (typeIs_int s 0 t) F.entry_int_rmul (F.args_int_rmul_2 _ _) (int_rmul_tuple 0 t l its.toArray n dd sl)
        ⟨ho, rfl, ⟨_, ho, rfl⟩, call_meets F.slot_tuple_mul ⟨_, ho, rfl⟩ F.entry_tuple_mul (F.args_tuple_mul_2 _ _) (tuple_mul_nil l its.toArray n dd sl t hi) ⟨ho, ?_⟩⟩)
    refine ⟨.ref s.heap.objs.size, _, I.laid (t' := s.toks) (o := .tup []) (fun b ob q => Heap.get?_push_of_some _ q) (Nat.le_refl _) ?_, rfl, qn (by decide) _ (I.hok.fresh (Nat.le_refl _))⟩
    exact ⟨Nat.zero_le _, [], .nil, IsTup.new _ _⟩
def fRepT : F2 := fun x y μ Q => match x, y with
  | .tup l, .int k => (l ≠ [] ∧ 0 ≤ k ∧ k ≤ 1000 ∧ l.length ≤ 1000) ∧ Q (.tup (List.replicate k.toNat l).flatten) μ
  | _, _ => False
theorem DVs.rep {K : PySem.W.Frag} {F : Hp} {l : List D} {xs : List V} (h : DVs K F l xs) : ∀ n : Nat, DVs K F (List.replicate n l).flatten (List.replicate n xs).flatten
  | 0 => rfl
  | n + 1 => by
    rw [List.replicate_succ, List.replicate_succ, List.flatten_cons, List.flatten_cons]
    exact h.append (h.rep n)
theorem do_rep {K : PySem.W.Frag} : DOp K (rRep K) fRepT := by
  intro F μ H x y dx dy Q0 Q s d1 d2 h q
  unfold fRepT at h
  split at h
  · rename_i l k
    obtain ⟨⟨h1, h2, h3, h4⟩, h⟩ := h
    obtain ⟨a, xs, rfl, r, dl⟩ := d1
    obtain rfl : y = V.int k := d2
    refine ⟨a, k, xs, rfl, rfl, s.sub _ _ r, fun e => h1 ?_, h2, h3, by rw [dl.len]; exact h4, fun e => ?_, fun e p hp => ?_⟩
    · subst e
      cases l with
      | nil => rfl
      | cons d l => obtain ⟨v, vs, z, _⟩ := dl; cases z
    · subst e
      refine q F μ H (.tup (List.replicate (1 : Int).toNat l).flatten) _ Grow.refl s ⟨a, xs, rfl, r, ?_⟩ h
      have := dl.rep 1
      simpa using this
    · have f := s.free hp
      exact q _ μ _ (.tup _) _ (Grow.new f.1) (s.put hp) ⟨p, _, rfl, upd_same, (dl.rep _).mono (Grow.new f.1)⟩ h
  · exact h.elim
theorem erepT {X : Cx} {W : WX} {E : EX} {a b : Expr} {ta tb : TE} {wa wb : WEx} {pos : Pos} (ha : DE X W E a ta wa) (hb : DE X W E b tb wb) : DE X W E (.BinOp a .Mult b pos) (tOp (rRep X.K) ta tb) (wOp fRepT wa wb) := eo op_rep0 do_rep ha hb
/-! ### in, not in: of a list, at any depth -/
def fInD (neg : Bool) : F2 := fun x y μ Q => ∃ d l ds, toP x = some d ∧ lvr μ y = some l ∧ toPs l = some ds ∧ SeqAt.shaped d = true ∧ SeqAt.shaped (.list ds) = true ∧ Q (.bl (if neg then !ds.any (fun z => PyData.eqv z d) else ds.any fun z => PyData.eqv z d)) μ
theorem in_ok {K : PySem.W.Frag} {F H : Hp} {μ : Mu} {y : D} {v : V} {l : List D} {ds : List PyData} (s : Sok K F μ H) (dv : DV K F y v) (e : lvr μ y = some l) (e2 : toPs l = some ds) : Dp K H v (.list ds) := by
  obtain ⟨a, xs, rfl, r, dl⟩ := lvr_ok s dv e
  exact .lst r (dps_of s.sub dl e2)
theorem do_inD {K : PySem.W.Frag} : DOp K (rInD K) (fInD false) := by
  intro F μ H x y dx dy Q0 Q s d1 d2 ⟨d, l, ds, h1, h2, h3, h4, h5, h⟩ q
  exact ⟨d, ds, dp_of s.sub d1 h1, in_ok s d2 h2 h3, h4, h5, q F μ H (.bl _) _ Grow.refl s rfl h⟩
theorem do_notInD {K : PySem.W.Frag} : DOp K (rNotInD K) (fInD true) := by
  intro F μ H x y dx dy Q0 Q s d1 d2 ⟨d, l, ds, h1, h2, h3, h4, h5, h⟩ q
  exact ⟨d, ds, dp_of s.sub d1 h1, in_ok s d2 h2 h3, h4, h5, q F μ H (.bl _) _ Grow.refl s rfl h⟩
theorem Room.units65 {k : Nat} {A : Around} (r : Room k A) : A.units + 65 < cLine := by have := r.un; omega
theorem Room.units1 {k : Nat} {A : Around} (r : Room k A) : A.units + 1 < cLine := by have := r.un; omega
/-! ### dicts by keys -/
def keyD : D → Option Key
  | .int i => some (.inl i)
  | .str x => some (.inr x)
  | _ => none
def keysD : List D → Option (List Key)
  | [] => some []
  | d :: l => (keyD d).bind fun k => (keysD l).map fun ks => k :: ks
def keyT : D → Option (List Key)
  | .tup l => keysD l
  | _ => none
theorem keyD_ok {K : PySem.W.Frag} {F : Hp} {d : D} {v : V} {k : Key} (h : DV K F d v) (e : keyD d = some k) : v = kV k := by
  cases d <;> first | (cases e; exact h) | cases e
theorem keysD_ok {K : PySem.W.Frag} {F : Hp} : ∀ {l : List D} {xs : List V} {ks : List Key}, DVs K F l xs → keysD l = some ks → xs = ks.map kV
  | [], _, _, h, e => by cases e; exact h
  | d :: l, _, _, h, e => by
    obtain ⟨v, vs, rfl, a, r⟩ := h
    have e : ((keyD d).bind fun k => (keysD l).map fun ks => k :: ks) = some _ := e
    cases q : keyD d with
    | none => rw [q] at e; cases e
    | some k =>
      rw [q] at e
      cases q2 : keysD l with
      | none => rw [q2] at e; cases e
      | some ks =>
        rw [q2] at e; cases e
        rw [keyD_ok a q, keysD_ok r q2]; rfl
section
variable {κ : Type} [DecidableEq κ]
def getD' (kvs : List (κ × D)) (k : κ) : Option D := (kvs.find? fun kv => decide (kv.1 = k)).map (·.2)
def putKD (kvs : List (κ × D)) (k : κ) (v : D) : List (κ × D) := if (kvs.any fun kv => decide (kv.1 = k)) = true then kvs.map (fun kv => if kv.1 = k then (kv.1, v) else kv) else kvs ++ [(k, v)]
theorem KD.get {K : PySem.W.Frag} {F : Hp} {k : κ} : ∀ {kvs : List (κ × D)} {ys : List (κ × V)}, KD K F kvs ys → (getD' kvs k = none ∧ valV ys k = none) ∨ ∃ d v, getD' kvs k = some d ∧ valV ys k = some v ∧ DV K F d v
  | [], ys, h => by
    have e : ys = [] := by have := h.1; simpa using this
    subst e
    exact .inl ⟨rfl, rfl⟩
  | (k1, d1) :: kvs, ys, h => by
    obtain ⟨h1, h2⟩ := h
    cases ys with
    | nil => simp at h1
    | cons y ys =>
      obtain ⟨k2, v2⟩ := y
      rw [List.map_cons, List.map_cons] at h1
      injection h1 with e1 h1
      have e1 : k2 = k1 := e1
      subst e1
      obtain ⟨u, us, e2, a, r⟩ := h2
      rw [List.map_cons] at e2
      injection e2 with e3 e4
      have e3 : v2 = u := e3
      subst e3
      rw [← e4] at r
      by_cases c : k2 = k
      · exact .inr ⟨d1, v2, by simp [getD', c], by simp [valV, c], a⟩
      · have ih := KD.get (K := K) (F := F) (k := k) (kvs := kvs) (ys := ys) ⟨h1, r⟩
        have x1 : getD' ((k2, d1) :: kvs) k = getD' kvs k := by simp [getD', List.find?_cons, c]
        have x2 : valV ((k2, v2) :: ys) k = valV ys k := by simp [valV, List.find?_cons, c]
        rw [x1, x2]
        exact ih
theorem KD.any {K : PySem.W.Frag} {F : Hp} {k : κ} {kvs : List (κ × D)} {ys : List (κ × V)} (h : KD K F kvs ys) : (ys.any fun kv => decide (kv.1 = k)) = kvs.any fun kv => decide (kv.1 = k) := by
  have e1 : (ys.any fun kv => decide (kv.1 = k)) = (ys.map (·.1)).any fun x => decide (x = k) := by rw [List.any_map]; rfl
  have e2 : (kvs.any fun kv => decide (kv.1 = k)) = (kvs.map (·.1)).any fun x => decide (x = k) := by rw [List.any_map]; rfl
  rw [e1, e2, h.1]
theorem KD.over {K : PySem.W.Frag} {F : Hp} {k : κ} {d : D} {v : V} (hv : DV K F d v) : ∀ {kvs : List (κ × D)} {ys : List (κ × V)}, KD K F kvs ys → KD K F (kvs.map fun kv => if kv.1 = k then (kv.1, d) else kv) (ys.map fun kv => if kv.1 = k then (kv.1, v) else kv)
  | [], ys, h => by
    have e : ys = [] := by have := h.1; simpa using this
    subst e
    exact ⟨rfl, rfl⟩
  | (k1, d1) :: kvs, ys, h => by
    obtain ⟨h1, h2⟩ := h
    cases ys with
    | nil => simp at h1
    | cons y ys =>
      obtain ⟨k2, v2⟩ := y
      rw [List.map_cons, List.map_cons] at h1
      injection h1 with e1 h1
      have e1 : k2 = k1 := e1
      subst e1
      obtain ⟨u, us, e2, a, r⟩ := h2
      rw [List.map_cons] at e2
      injection e2 with e3 e4
      have e3 : v2 = u := e3
      subst e3
      rw [← e4] at r
      have ih := KD.over (k := k) hv (kvs := kvs) (ys := ys) ⟨h1, r⟩
      by_cases c : k2 = k
      · subst c
        refine ⟨?_, ?_⟩
        · simp only [List.map_cons, if_true]
          rw [ih.1]
        · simp only [List.map_cons, if_true]
          exact DVs.cons hv ih.2
      · refine ⟨?_, ?_⟩
        · simp only [List.map_cons, if_neg c]
          rw [ih.1]
        · simp only [List.map_cons, if_neg c]
          exact DVs.cons a ih.2
theorem KD.put {K : PySem.W.Frag} {F : Hp} {k : κ} {d : D} {v : V} {kvs : List (κ × D)} {ys : List (κ × V)} (h : KD K F kvs ys) (hv : DV K F d v) : KD K F (putKD kvs k d) (putK ys k v) := by
  unfold putKD putK
  rw [h.any]
  by_cases c : (kvs.any fun kv => decide (kv.1 = k)) = true
  · rw [if_pos c, if_pos c]
    exact h.over hv
  · rw [if_neg c, if_neg c]
    refine ⟨?_, ?_⟩
    · rw [List.map_append, List.map_append, h.1]; rfl
    · rw [List.map_append, List.map_append]
      exact h.2.append (DVs.cons hv DVs.nil)
end
theorem KD.len {K : PySem.W.Frag} {F : Hp} {κ : Type} {kvs : List (κ × D)} {ys : List (κ × V)} (h : KD K F kvs ys) : ys.length = kvs.length := by
  have := congrArg List.length h.1
  simpa using this
/-- what is found at a key: of a cell, of a dict for good -/
def dget (μ : Mu) (d k : D) : Option (Option D) := match d with
  | .mut a => match μ a with
    | some (.dK kvs) => (keyD k).map fun key => getD' kvs key
    | some (.dT kvs) => (keyT k).map fun key => getD' kvs key
    | _ => none
  | .dK ks l => (keyD k).map fun key => getD' (ks.zip l) key
  | .dT ks l => (keyT k).map fun key => getD' (ks.zip l) key
  | _ => none
theorem zip_kd {K : PySem.W.Frag} {F : Hp} {κ : Type} : ∀ {ks : List κ} {l : List D} {ys : List (κ × V)}, ys.map (·.1) = ks → DVs K F l (ys.map (·.2)) → KD K F (ks.zip l) ys
  | ks, l, [], h1, h2 => by
    subst h1
    exact ⟨rfl, rfl⟩
  | ks, [], y :: ys, h1, h2 => by
    have : (y :: ys).map (·.2) = [] := h2
    cases this
  | ks, d :: l, y :: ys, h1, h2 => by
    subst h1
    obtain ⟨u, us, e2, a, r⟩ := h2
    rw [List.map_cons] at e2
    injection e2 with e3 e4
    subst e3
    rw [← e4] at r
    have ih := zip_kd (K := K) (F := F) (ks := ys.map (·.1)) (l := l) (ys := ys) rfl r
    refine ⟨?_, ?_⟩
    · show y.1 :: ys.map (·.1) = y.1 :: ((ys.map (·.1)).zip l).map (·.1)
      rw [← ih.1]
    · show DVs K F (d :: ((ys.map (·.1)).zip l).map (·.2)) (y.2 :: ys.map (·.2))
      exact DVs.cons a ih.2
theorem dget_ok {K : PySem.W.Frag} {F H : Hp} {μ : Mu} {d k : D} {x y : V} {o : Option D} (s : Sok K F μ H) (d1 : DV K F d x) (d2 : DV K F k y) (e : dget μ d k = some o) : ∃ a ov, x = .ref a ∧ DGet H a y ov ∧ ((o = none ∧ ov = none) ∨ ∃ e v, o = some e ∧ ov = some v ∧ DV K F e v) := by
  have key : ∀ {κ : Type} [DecidableEq κ] {kvs : List (κ × D)} {ys : List (κ × V)} {kk : κ}, KD K F kvs ys → getD' kvs kk = o → ((o = none ∧ valV ys kk = none) ∨ ∃ e v, o = some e ∧ valV ys kk = some v ∧ DV K F e v) := fun {κ} _ {kvs} {ys} {kk} h e => by
    rcases h.get (k := kk) with ⟨z1, z2⟩ | ⟨d, v, z1, z2, z3⟩
    · exact .inl ⟨e.symm.trans z1, z2⟩
    · exact .inr ⟨d, v, e.symm.trans z1, z2, z3⟩
  have tupk : ∀ {ks : List Key}, keyT k = some ks → ∃ b, y = .ref b ∧ H b = some (.tup (ks.map kV)) := fun {ks} e => by
    cases k <;> first | cases e; done | skip
    all_goals first | (obtain ⟨b, xs, rfl, r, dl⟩ := d2; exact ⟨b, rfl, by rw [← keysD_ok dl e]; exact s.sub _ _ r⟩) | cases e
  unfold dget at e
  split at e
  · rename_i a
    obtain rfl : x = V.ref a := d1
    split at e
    · rename_i kvs em
      obtain ⟨_, ys, ho, kd⟩ := s.cel a _ em
      cases q : keyD k with
      | none => rw [q] at e; cases e
      | some kk =>
        rw [q] at e
        have e := Option.some.inj e
        obtain rfl := keyD_ok d2 q
        exact ⟨a, _, rfl, DGet.k ho, key kd e⟩
    · rename_i kvs em
      obtain ⟨_, ys, ho, kd⟩ := s.cel a _ em
      cases q : keyT k with
      | none => rw [q] at e; cases e
      | some kk =>
        rw [q] at e
        have e := Option.some.inj e
        obtain ⟨b, rfl, hb⟩ := tupk q
        exact ⟨a, _, rfl, DGet.t ho hb, key kd e⟩
    · cases e
  · rename_i ks l
    obtain ⟨a, ys, rfl, ho, h1, h2⟩ := d1
    cases q : keyD k with
    | none => rw [q] at e; cases e
    | some kk =>
      rw [q] at e
      have e := Option.some.inj e
      obtain rfl := keyD_ok d2 q
      exact ⟨a, _, rfl, DGet.k (s.sub _ _ ho), key (zip_kd h1 h2) e⟩
  · rename_i ks l
    obtain ⟨a, ys, rfl, ho, h1, h2⟩ := d1
    cases q : keyT k with
    | none => rw [q] at e; cases e
    | some kk =>
      rw [q] at e
      have e := Option.some.inj e
      obtain ⟨b, rfl, hb⟩ := tupk q
      exact ⟨a, _, rfl, DGet.t (s.sub _ _ ho) hb, key (zip_kd h1 h2) e⟩
  · cases e
def wDIn (neg : Bool) (a b : WEx) : WEx := fun ρ μ Q => a ρ μ fun k μ1 => b ρ μ1 fun d μ2 => ∃ o, dget μ2 d k = some o ∧ Q (.bl (if neg then !o.isSome else o.isSome)) μ2
def wDNewT : WEx := fun _ μ Q => ∀ p, μ p = none → Q (.mut p) (um μ p (.dT []))
def fDGet : F2 := fun d k μ Q => ∃ e, dget μ d k = some (some e) ∧ Q e μ
section
variable {X : Cx} {W : WX} {E : EX} {a b : Expr} {ta tb : TE} {wa wb : WEx} {pos : Pos}
theorem ok_iff {o : Option D} {ov : Option V} {P : D → V → Prop} (h : (o = none ∧ ov = none) ∨ ∃ e v, o = some e ∧ ov = some v ∧ P e v) : ov.isSome = o.isSome := by
  rcases h with ⟨rfl, rfl⟩ | ⟨e, v, rfl, rfl, _⟩ <;> rfl
theorem dn_din (ha : Dn X.K W E ta wa) (hb : Dn X.K W E tb wb) : Dn X.K W E (tDIn ta tb) (wDIn false wa wb) := by
  intro F μ H ρ σ Q0 Q s h q
  refine ha F μ H ρ σ _ _ s h fun F1 μ1 H1 k y g1 s1 dk h1 => ?_
  refine hb F1 μ1 H1 ρ σ _ _ s1 h1 fun F2 μ2 H2 d x g2 s2 dx ⟨o, eo, h2⟩ => ?_
  obtain ⟨p, ov, rfl, g, z⟩ := dget_ok s2.ok dx (dk.mono g2) eo
  exact ⟨p, ov, rfl, g, by rw [ok_iff z]; exact q F2 μ2 H2 (.bl _) _ (g1.trans g2) s2 rfl h2⟩
theorem dn_dnotin (ha : Dn X.K W E ta wa) (hb : Dn X.K W E tb wb) : Dn X.K W E (tDNotIn ta tb) (wDIn true wa wb) := by
  intro F μ H ρ σ Q0 Q s h q
  refine ha F μ H ρ σ _ _ s h fun F1 μ1 H1 k y g1 s1 dk h1 => ?_
  refine hb F1 μ1 H1 ρ σ _ _ s1 h1 fun F2 μ2 H2 d x g2 s2 dx ⟨o, eo, h2⟩ => ?_
  obtain ⟨p, ov, rfl, g, z⟩ := dget_ok s2.ok dx (dk.mono g2) eo
  exact ⟨p, ov, rfl, g, by rw [ok_iff z]; exact q F2 μ2 H2 (.bl _) _ (g1.trans g2) s2 rfl h2⟩
theorem edin (hu : X.A.units + 1 < cLine) (ha : DE X W E a ta wa) (hb : DE X W E b tb wb) (h1 : behindInMarks .In b = false := by rfl) : DE X W E (.Compare a [.In] [b] pos) (tDIn ta tb) (wDIn false wa wb) := ⟨pe_cmp (pc_din hu ha.pe hb.pe) h1, dn_din ha.dn hb.dn⟩
theorem ednin (hu : X.A.units + 1 < cLine) (ha : DE X W E a ta wa) (hb : DE X W E b tb wb) (h1 : behindInMarks .NotIn b = false := by rfl) : DE X W E (.Compare a [.NotIn] [b] pos) (tDNotIn ta tb) (wDIn true wa wb) := ⟨pe_cmp (pc_dnotin hu ha.pe hb.pe) h1, dn_dnotin ha.dn hb.dn⟩
theorem tdin (hu : X.A.units + 1 < cLine) (ha : DE X W E a ta wa) (hb : DE X W E b tb wb) (h1 : behindInMarks .In b = false := by rfl) : DT X W E (.Compare a [.In] [b] pos) (tB (tDIn ta tb)) (wTe (wDIn false wa wb)) := ⟨pt_cmp (pc_din hu ha.pe hb.pe) h1, dn_te (dn_din ha.dn hb.dn)⟩
theorem tdnin (hu : X.A.units + 1 < cLine) (ha : DE X W E a ta wa) (hb : DE X W E b tb wb) (h1 : behindInMarks .NotIn b = false := by rfl) : DT X W E (.Compare a [.NotIn] [b] pos) (tB (tDNotIn ta tb)) (wTe (wDIn true wa wb)) := ⟨pt_cmp (pc_dnotin hu ha.pe hb.pe) h1, dn_te (dn_dnotin ha.dn hb.dn)⟩
theorem edget (hu : X.A.units + 1 < cLine) (ha : DE X W E a ta wa) (hb : DE X W E b tb wb) (hs : NoSl b := by exact fun _ _ => rfl) : DE X W E (.Subscript a b pos) (tDGet ta tb) (wOp fDGet wa wb) := by
  refine ⟨pe_dget hu ha.pe hb.pe hs, fun F μ H ρ σ Q0 Q s h q => ?_⟩
  refine ha.dn F μ H ρ σ _ _ s h fun F1 μ1 H1 d x g1 s1 dx h1 => ?_
  refine hb.dn F1 μ1 H1 ρ σ _ _ s1 h1 fun F2 μ2 H2 k y g2 s2 dk ⟨e, eo, h2⟩ => ?_
  obtain ⟨p, ov, rfl, g, z⟩ := dget_ok s2.ok (dx.mono g2) dk eo
  rcases z with ⟨z, _⟩ | ⟨e', v, e1, rfl, z⟩
  · cases z
  · cases e1
    exact ⟨p, v, rfl, g, q F2 μ2 H2 e v (g1.trans g2) s2 z h2⟩
theorem ednewT : DE X W E (.Dict [] [] pos) tDNewT wDNewT := ⟨pe_dnewT, fun F μ H ρ σ Q0 Q s h q p hp => by
  have f := s.ok.free hp
  exact q F _ _ (.mut p) _ Grow.refl (s.mono Grow.refl (s.ok.cell (m := .dT []) f.1 ⟨[], upd_same, rfl, rfl⟩)) rfl (h p f.2)⟩
end
/-- d[k] = e of a cell -/
def fSetD (o i v : D) (μ : Mu) (N : Mu → Prop) : Prop := match o with
  | .mut a => match μ a with
    | some (.dK kvs) => kvs.length < 100000 ∧ ∃ k, keyD i = some k ∧ N (um μ a (.dK (putKD kvs k v)))
    | some (.dT kvs) => kvs.length < 100000 ∧ ∃ k, keyT i = some k ∧ N (um μ a (.dT (putKD kvs k v)))
    | _ => False
  | _ => False
theorem ds_setD {K : PySem.W.Frag} : DSet K rSetD fSetD := by
  intro F μ H o i v do' di dv N0 N s d1 d2 d3 h q
  unfold fSetD at h
  split at h
  · rename_i a
    obtain rfl : o = V.ref a := d1
    split at h
    · rename_i kvs em
      obtain ⟨hl, k, ek, h⟩ := h
      obtain ⟨f, ys, ho, kd⟩ := s.cel a _ em
      obtain rfl := keyD_ok d2 ek
      exact ⟨a, _, rfl, DPut.k ho (sz5l (by rw [kd.len]; exact hl)), q F _ _ Grow.refl (s.cell (m := .dK _) f ⟨_, upd_same, kd.put d3⟩) h⟩
    · rename_i kvs em
      obtain ⟨hl, k, ek, h⟩ := h
      obtain ⟨f, ys, ho, kd⟩ := s.cel a _ em
      cases di <;> first | cases ek; done | skip
      all_goals first | skip | cases ek
      obtain ⟨b, xs, rfl, r, dl⟩ := d2
      have hb : H b = some (.tup (k.map kV)) := by rw [← keysD_ok dl ek]; exact s.sub _ _ r
      exact ⟨a, _, rfl, DPut.t ho hb (sz5l (by rw [kd.len]; exact hl)), q F _ _ Grow.refl (s.cell (m := .dT _) f ⟨_, upd_same, kd.put d3⟩) h⟩
    · exact h.elim
  · exact h.elim
theorem gsd {X : Cx} {W : WX} {E : EX} {o i : Expr} {ta tb : TE} {wa wb : WEx} {pos : Pos} (hu : X.A.units + 1 < cLine) (ho : DE X W E o ta wa) (hi : DE X W E i tb wb) (hp : PE X o ta → PE X i tb → PSet X rSetD → PG X (.Subscript o i pos) (gSub ta tb rSetD) := by exact fun x y z => pg_sub x y z) : DGt X W E (.Subscript o i pos) (gSub ta tb rSetD) (gSb fSetD wa wb) := ⟨hp ho.pe hi.pe (set_dict hu), dg_sub ds_setD ho.dn hi.dn⟩
end DL
set_option maxHeartbeats 4000000
namespace DL
open PySem L2 PySem.Spec PyProof.Rows
/-! ### list comprehensions whose parts may call -/
theorem wip_set' {α : Type} (l : List (Option α)) (x : Option α) {i : Nat} {vs : List Nat} (h : i ∈ vs) : wip (l.set i x) vs = wip l vs := by
  refine List.ext_getElem? fun j => ?_
  rw [wip_get, wip_get]
  by_cases hj : j ∈ vs
  · rw [if_pos hj, if_pos hj]
    by_cases e : i = j
    · subst e
      rw [List.getElem?_set]
      simp only [if_true]
      by_cases q : i < l.length
      · rw [if_pos q, List.getElem?_eq_getElem q]; rfl
      · rw [if_neg q, List.getElem?_eq_none (by omega)]
    · rw [List.getElem?_set_ne e]
  · rw [if_neg hj, if_neg hj, List.getElem?_set_ne (fun e => hj (by rw [← e]; exact h))]
theorem wok_no {K : PySem.W.Frag} {F : Hp} : WOk K noW noE F := fun _ _ _ _ _ _ _ _ _ _ _ _ z => z.elim
/-- [e for i in ..], its parts raise nothing -/
theorem dn_lcN {K : PySem.W.Frag} {W : WX} {E : EX} {ti : TI} {wi : WI} {tt : TT} {wt : WT} {te : TE} {we : WEx} {i : Nat} {vs : List Nat} (hi : DnI K W E ti wi) (ht : DnT K noW noE tt wt) (he : Dn K noW noE te we) (hv : i ∈ vs) : Dn K W E (tLc ti (gName i) tt te vs) (wLc wi i vs wt we) := by
  intro F μ H ρ σ Q0 Q s h q
  refine hi F μ H ρ σ _ _ s h fun F1 μ1 H1 J k g1 s1 kk hk => ?_
  intro p hp
  have fr := s1.ok.free hp
  obtain ⟨I, i0, hok, step, done⟩ := hk p fr.2
  refine ⟨fun j m H' => m = k.items.length - j ∧ j ≤ k.items.length ∧ ∃ F' μ', Grow F1 F' ∧ S0 K W E F' μ' H' ρ σ ∧ I j μ', ⟨_, rfl, Nat.zero_le _, F1, _, Grow.refl, s1.mono Grow.refl (s1.ok.cell (m := .lst []) fr.1 ⟨[], upd_same, DVs.nil⟩), i0⟩, ?_⟩
  rintro j m H2 ⟨rfl, hl, F2, μ2, g2, s2, i2⟩
  by_cases hlt : j < k.items.length
  · refine .inr ⟨kk.go F2 μ2 H2 j g2 s2.ok (hok j μ2 i2) hlt, fun H' => j + 1 ≤ k.items.length ∧ ∃ F' μ', Grow F1 F' ∧ S0 K W E F' μ' H' ρ σ ∧ I (j + 1) μ', fun H' hN => ⟨k.items.length - (j + 1), by omega, rfl, hN.1, hN.2⟩, fun x H3 y => ?_⟩
    obtain ⟨F3, d, g3, s3, ed, dv⟩ := kk.yld F2 μ2 H2 j x H3 g2 s2.ok (hok j μ2 i2) hlt y
    have h3 := step j d μ2 ed i2
    rw [← wip_eq]
    refine ⟨by rw [← wip_eq]; exact wip_set σ (some x) hv, ?_⟩
    have S3 : S0 K W E F3 μ2 H3 ρ σ := s2.mono g3 s3
    refine ht F3 μ2 H3 _ _ _ _ ⟨s3, (S3.env.wip (vs := vs)).set dv, wok_no⟩ h3 fun F4 μ4 H4 b g4 s4 h4 => ?_
    have S4 : S0 K W E F4 μ4 H4 ρ σ := S3.mono g4 s4.ok
    cases b with
    | false =>
      simp only [Bool.false_eq_true, if_false] at h4 ⊢
      exact ⟨hlt, F4, μ4, g2.trans (g3.trans g4), S4, h4⟩
    | true =>
      simp only [if_true] at h4 ⊢
      refine he F4 μ4 H4 _ _ _ _ s4 h4 fun F5 μ5 H5 dy yv g5 s5 dvy ⟨acc, ea, la, h5⟩ => ?_
      obtain ⟨f5, xs, ho, dl⟩ := s5.ok.cel p _ ea
      exact ⟨xs, ho, sz5l (by rw [dl.len]; exact la), hlt, F5, _, g2.trans (g3.trans (g4.trans g5)), (S4.mono g5 s5.ok).mono Grow.refl (s5.ok.cell (m := .lst _) f5 ⟨_, upd_same, dl.append (DVs.cons dvy DVs.nil)⟩), h5⟩
  · have ei : j = k.items.length := by omega
    subst ei
    exact .inl ⟨kk.stop F2 μ2 H2 _ g2 s2.ok (hok _ μ2 i2) (Nat.le_refl _), q F2 μ2 H2 (.mut p) (.ref p) (g1.trans g2) s2 rfl (done μ2 i2)⟩
/-- [e for i, i2 in ..] -/
def wLc2 (wi : WI) (i i2 : Nat) (vs : List Nat) (tt : WT) (te : WEx) : WEx := fun ρ μ Q => wi ρ μ fun k μ1 => ∀ p, μ1 p = none → ∃ I : Nat → Mu → Prop, I 0 (um μ1 p (.lst [])) ∧ (∀ j μ, I j μ → k.ok μ) ∧
  (∀ j d μ, k.items[j]? = some d → I j μ → ∃ a b, d = .tup [a, b] ∧ tt (((wip ρ vs).set i (some a)).set i2 (some b)) μ fun b' μ3 => if b' = true then te (((wip ρ vs).set i (some a)).set i2 (some b)) μ3 fun y μ4 => ∃ acc, μ4 p = some (.lst acc) ∧ acc.length < 100000 ∧ I (j + 1) (um μ4 p (.lst (acc ++ [y]))) else I (j + 1) μ3) ∧ ∀ μ, I k.items.length μ → Q (.mut p) μ
theorem dn_lc2 {K : PySem.W.Frag} {W : WX} {E : EX} {ti : TI} {wi : WI} {tt : TT} {wt : WT} {te : TE} {we : WEx} {i i2 : Nat} {vs : List Nat} (hi : DnI K W E ti wi) (ht : DnT K noW noE tt wt) (he : Dn K noW noE te we) (hv : i ∈ vs) (hv2 : i2 ∈ vs) :
    Dn K W E (tLc ti (gTup K 2 (gCons (gName i) (gCons (gName i2) gNil))) tt te vs) (wLc2 wi i i2 vs wt we) := by
  intro F μ H ρ σ Q0 Q s h q
  refine hi F μ H ρ σ _ _ s h fun F1 μ1 H1 J k g1 s1 kk hk => ?_
  intro p hp
  have fr := s1.ok.free hp
  obtain ⟨I, i0, hok, step, done⟩ := hk p fr.2
  refine ⟨fun j m H' => m = k.items.length - j ∧ j ≤ k.items.length ∧ ∃ F' μ', Grow F1 F' ∧ S0 K W E F' μ' H' ρ σ ∧ I j μ', ⟨_, rfl, Nat.zero_le _, F1, _, Grow.refl, s1.mono Grow.refl (s1.ok.cell (m := .lst []) fr.1 ⟨[], upd_same, DVs.nil⟩), i0⟩, ?_⟩
  rintro j m H2 ⟨rfl, hl, F2, μ2, g2, s2, i2'⟩
  by_cases hlt : j < k.items.length
  · refine .inr ⟨kk.go F2 μ2 H2 j g2 s2.ok (hok j μ2 i2') hlt, fun H' => j + 1 ≤ k.items.length ∧ ∃ F' μ', Grow F1 F' ∧ S0 K W E F' μ' H' ρ σ ∧ I (j + 1) μ', fun H' hN => ⟨k.items.length - (j + 1), by omega, rfl, hN.1, hN.2⟩, fun x H3 y => ?_⟩
    obtain ⟨F3, d, g3, s3, ed, dv⟩ := kk.yld F2 μ2 H2 j x H3 g2 s2.ok (hok j μ2 i2') hlt y
    obtain ⟨a, b, rfl, h3⟩ := step j d μ2 ed i2'
    obtain ⟨T, xs, rfl, hT, va, r, rfl, da, vb, r2, rfl, db, rfl⟩ := dv
    refine ⟨T, [va, vb], rfl, SqT.of (s3.sub _ _ hT), rfl, va, [vb], rfl, vb, [], rfl, rfl, ?_⟩
    rw [← wip_eq]
    refine ⟨by rw [← wip_eq]; exact (wip_set' _ _ hv2).trans (wip_set σ _ hv), ?_⟩
    have S3 : S0 K W E F3 μ2 H3 ρ σ := s2.mono g3 s3
    refine ht F3 μ2 H3 _ _ _ _ ⟨s3, ((S3.env.wip (vs := vs)).set da).set db, wok_no⟩ h3 fun F4 μ4 H4 b g4 s4 h4 => ?_
    have S4 : S0 K W E F4 μ4 H4 ρ σ := S3.mono g4 s4.ok
    cases b with
    | false =>
      simp only [Bool.false_eq_true, if_false] at h4 ⊢
      exact ⟨hlt, F4, μ4, g2.trans (g3.trans g4), S4, h4⟩
    | true =>
      simp only [if_true] at h4 ⊢
      refine he F4 μ4 H4 _ _ _ _ s4 h4 fun F5 μ5 H5 dy yv g5 s5 dvy ⟨acc, ea, la, h5⟩ => ?_
      obtain ⟨f5, xs, ho, dl⟩ := s5.ok.cel p _ ea
      exact ⟨xs, ho, sz5l (by rw [dl.len]; exact la), hlt, F5, _, g2.trans (g3.trans (g4.trans g5)), (S4.mono g5 s5.ok).mono Grow.refl (s5.ok.cell (m := .lst _) f5 ⟨_, upd_same, dl.append (DVs.cons dvy DVs.nil)⟩), h5⟩
  · have ei : j = k.items.length := by omega
    subst ei
    exact .inl ⟨kk.stop F2 μ2 H2 _ g2 s2.ok (hok _ μ2 i2') (Nat.le_refl _), q F2 μ2 H2 (.mut p) (.ref p) (g1.trans g2) s2 rfl (done μ2 i2')⟩
section
variable {X : Cx} {W : WX} {E : EX} {elt it : Expr} {n n2 : Str} {np np2 pos tpos : Pos} {kk : Nat} {ifs : List Expr} {sc : Scope} {ti : TI} {wi : WI} {wt : WT} {we : WEx}
theorem elcN (nd : X.N.Nodup) (own : List (Str × Nat)) (i : Nat) {vs : List Nat} (hi : DIt X W E (.Name n np) it ti wi) (hg : ∀ u J C cl fp, PG (X.blk u J sc (compEnvC sc cl C X.env) fp) (.Name n np) (gName i)) (ht : ∀ u J C cl fp, ∃ tt, DTs (X.blk u J sc (compEnvC sc cl C X.env) fp) noW noE ifs tt wt)
    (he : ∀ u J C cl fp, ∃ te, DE (X.blk u J sc (compEnvC sc cl C X.env) fp) noW noE elt te we) (hc : X.calm = true := by rfl) (hvs : own.map (·.2) = vs := by rfl) (ok : blkC X.N X.env.scope sc own = true := by rfl) (hv : i ∈ own.map (·.2) := by decide) (hs : ∀ x, foldedSetIterable it X.env x = pure x := by intro _; rfl) :
    DE X W E (.ListComp elt [⟨.Name n np, it, ifs, 0⟩] sc pos) (tLc ti (gName i) (tOfT X.K noW noE wt) (tOfE X.K noW noE we) vs) (wLc wi i vs wt we) := by
  subst hvs
  exact ⟨pe_lc hc nd hi.pe (blkOk_by ok) hg (fun u J C cl fp => (ht u J C cl fp).elim fun _ h => h.of) (fun u J C cl fp => (he u J C cl fp).elim fun _ h => h.of) hs, dn_lcN hi.dn dn_ofT dn_ofE hv⟩
theorem elc2 (nd : X.N.Nodup) (own : List (Str × Nat)) (i i2 : Nat) {vs : List Nat} (hi : DIt X W E (.Tuple [.Name n np, .Name n2 np2] kk tpos) it ti wi) (hg : ∀ u J C cl fp, PG (X.blk u J sc (compEnvC sc cl C X.env) fp) (.Tuple [.Name n np, .Name n2 np2] kk tpos) (gTup X.K 2 (gCons (gName i) (gCons (gName i2) gNil)))) (ht : ∀ u J C cl fp, ∃ tt, DTs (X.blk u J sc (compEnvC sc cl C X.env) fp) noW noE ifs tt wt)
    (he : ∀ u J C cl fp, ∃ te, DE (X.blk u J sc (compEnvC sc cl C X.env) fp) noW noE elt te we) (hc : X.calm = true := by rfl) (hvs : own.map (·.2) = vs := by rfl) (ok : blkC X.N X.env.scope sc own = true := by rfl) (hv : i ∈ own.map (·.2) := by decide) (hv2 : i2 ∈ own.map (·.2) := by decide) (hs : ∀ x, foldedSetIterable it X.env x = pure x := by intro _; rfl) :
    DE X W E (.ListComp elt [⟨.Tuple [.Name n np, .Name n2 np2] kk tpos, it, ifs, 0⟩] sc pos) (tLc ti (gTup X.K 2 (gCons (gName i) (gCons (gName i2) gNil))) (tOfT X.K noW noE wt) (tOfE X.K noW noE we) vs) (wLc2 wi i i2 vs wt we) := by
  subst hvs
  exact ⟨pe_lc hc nd hi.pe (blkOk_by ok) hg (fun u J C cl fp => (ht u J C cl fp).elim fun _ h => h.of) (fun u J C cl fp => (he u J C cl fp).elim fun _ h => h.of) hs, dn_lc2 hi.dn dn_ofT dn_ofE hv hv2⟩
end
theorem gtpP {X : Cx} {i j : Nat} {e1 e2 : Expr} {k : Nat} {pos : Pos} (h1 : PG X e1 (gName i)) (h2 : PG X e2 (gName j)) (hc : X.calm = true := by rfl) (hs : (assignEach [e1, e2] X.env).map (·.2) = assign e1 X.env :: (assignEach [e2] X.env).map (·.2) := by rfl) (hs2 : (assignEach [e2] X.env).map (·.2) = assign e2 X.env :: (assignEach [] X.env).map (·.2) := by rfl) (hn : (assignEach [e1, e2] X.env).length = 2 := by rfl) (hst : (assignEach [e1, e2] X.env).findIdx? (·.1) = none := by rfl) : PG X (.Tuple [e1, e2] k pos) (gTup X.K 2 (gCons (gName i) (gCons (gName j) gNil))) :=
  pg_tup hc (pgs_cons h1 (pgs_cons h2 pgs_nil hs2) hs) hn hst
end DL
set_option maxHeartbeats 4000000
namespace DL
open PySem L2 PySem.Spec PyProof.Rows
/-! ### the pure part of a comprehension without effects -/
theorem Wk.ok_le {μ μ' : Mu} {k : Wk} (h : k.ok μ) (l : le μ μ') : k.ok μ' := by
  cases k with
  | fix l => trivial
  | cell a x => exact l _ _ h
section
variable {α : Type} {wi : WI} {i i2 : Nat} {vs : List Nat} {tt : WT} {te : WEx} {ρ : En} {μ : Mu} {Q : D → Mu → Prop}
theorem filt_take {t : α → Bool} {h : α → D} {L : List α} {j : Nat} {x : α} (e : L[j]? = some x) : (((L.take (j + 1)).filter t).map h) = ((L.take j).filter t).map h ++ (if t x = true then [h x] else []) := by
  rw [List.take_succ, e, Option.toList_some, List.filter_append, List.map_append, List.filter_cons, List.filter_nil]
  by_cases c : t x = true
  · rw [if_pos c, if_pos c]; rfl
  · rw [if_neg c, if_neg c]; rfl
theorem filt_len (t : α → Bool) (h : α → D) (L : List α) (j : Nat) : (((L.take j).filter t).map h).length ≤ L.length := by
  rw [List.length_map]
  refine Nat.le_trans (List.length_filter_le _ _) ?_
  rw [List.length_take]
  exact Nat.min_le_right _ _
theorem lc_frz (L : List α) (f : α → D) (t : α → Bool) (h : α → D) (hw : ∃ k : Wk, k.items = L.map f ∧ k.ok μ ∧ ∀ R : Wk → Mu → Prop, R k μ → wi ρ μ R) (hz : L.length < 100000)
    (ht : ∀ x ∈ L, ∀ μ' R, le μ μ' → R (t x) μ' → tt ((wip ρ vs).set i (some (f x))) μ' R) (he : ∀ x ∈ L, t x = true → ∀ μ' R, le μ μ' → R (h x) μ' → te ((wip ρ vs).set i (some (f x))) μ' R) (q : Q (.lst ((L.filter t).map h)) μ) : wFrz (wLc wi i vs tt te) ρ μ Q := by
  obtain ⟨k, hk, hok, hR⟩ := hw
  refine hR _ fun p hp => ⟨fun j μ' => μ' = um μ p (.lst (((L.take j).filter t).map h)), show um μ p _ = um μ p _ by rw [List.take_zero]; rfl, fun j μ' e => by rw [e]; exact Wk.ok_le hok (le.um hp), ?_, ?_⟩
  · rintro j d μ' hd rfl
    rw [hk, List.getElem?_map] at hd
    cases e : L[j]? with
    | none => rw [e] at hd; cases hd
    | some x =>
      rw [e] at hd
      obtain rfl : f x = d := Option.some.inj hd
      have hx := List.mem_of_getElem? e
      refine ht x hx _ _ (le.um hp) ?_
      by_cases c : t x = true
      · rw [if_pos c]
        refine he x hx c _ _ (le.um hp) ⟨_, um_same, Nat.lt_of_le_of_lt (filt_len t h L j) hz, ?_⟩
        show um (um μ p _) p _ = um μ p _
        rw [um_um, filt_take e, if_pos c]
      · rw [if_neg c]
        show um μ p _ = um μ p _
        rw [filt_take e, if_neg c, List.append_nil]
  · rintro μ' rfl
    rw [hk, List.length_map, List.take_length]
    show fFrz _ _ _
    unfold fFrz
    dsimp only
    rw [um_same]
    dsimp only
    rw [rm_um hp]
    exact q
theorem lc2_frz (L : List α) (f g : α → D) (t : α → Bool) (h : α → D) (hw : ∃ k : Wk, k.items = L.map (fun x => D.tup [f x, g x]) ∧ k.ok μ ∧ ∀ R : Wk → Mu → Prop, R k μ → wi ρ μ R) (hz : L.length < 100000)
    (ht : ∀ x ∈ L, ∀ μ' R, le μ μ' → R (t x) μ' → tt (((wip ρ vs).set i (some (f x))).set i2 (some (g x))) μ' R) (he : ∀ x ∈ L, t x = true → ∀ μ' R, le μ μ' → R (h x) μ' → te (((wip ρ vs).set i (some (f x))).set i2 (some (g x))) μ' R) (q : Q (.lst ((L.filter t).map h)) μ) : wFrz (wLc2 wi i i2 vs tt te) ρ μ Q := by
  obtain ⟨k, hk, hok, hR⟩ := hw
  refine hR _ fun p hp => ⟨fun j μ' => μ' = um μ p (.lst (((L.take j).filter t).map h)), show um μ p _ = um μ p _ by rw [List.take_zero]; rfl, fun j μ' e => by rw [e]; exact Wk.ok_le hok (le.um hp), ?_, ?_⟩
  · rintro j d μ' hd rfl
    rw [hk, List.getElem?_map] at hd
    cases e : L[j]? with
    | none => rw [e] at hd; cases hd
    | some x =>
      rw [e] at hd
      obtain rfl : D.tup [f x, g x] = d := Option.some.inj hd
      have hx := List.mem_of_getElem? e
      refine ⟨_, _, rfl, ht x hx _ _ (le.um hp) ?_⟩
      by_cases c : t x = true
      · rw [if_pos c]
        refine he x hx c _ _ (le.um hp) ⟨_, um_same, Nat.lt_of_le_of_lt (filt_len t h L j) hz, ?_⟩
        show um (um μ p _) p _ = um μ p _
        rw [um_um, filt_take e, if_pos c]
      · rw [if_neg c]
        show um μ p _ = um μ p _
        rw [filt_take e, if_neg c, List.append_nil]
  · rintro μ' rfl
    rw [hk, List.length_map, List.take_length]
    show fFrz _ _ _
    unfold fFrz
    dsimp only
    rw [um_same]
    dsimp only
    rw [rm_um hp]
    exact q
/-- what is walked: a local that is a list, a tuple; a range -/
theorem wi_lv {k : Nat} {d : D} {l : List D} (hv : ρ[k]? = some (some d)) (el : lv μ d = some l) : ∃ k' : Wk, k'.items = l ∧ k'.ok μ ∧ ∀ R : Wk → Mu → Prop, R k' μ → iLs (wVar k) ρ μ R := by
  unfold lv at el
  split at el
  · cases el
    exact ⟨.fix _, rfl, trivial, fun R h => by unfold iLs wVar; rw [hv]; exact h⟩
  · rename_i a
    split at el
    · rename_i l' em
      cases el
      exact ⟨.cell a _, rfl, em, fun R h => by unfold iLs wVar; rw [hv]; dsimp only; rw [em]; exact h⟩
    · cases el
  · cases el
theorem wi_tp {k : Nat} {l : List D} (hv : ρ[k]? = some (some (.tup l))) : ∃ k' : Wk, k'.items = l ∧ k'.ok μ ∧ ∀ R : Wk → Mu → Prop, R k' μ → iTp (wVar k) ρ μ R := ⟨.fix l, rfl, trivial, fun R h => by unfold iTp wVar; rw [hv]; exact h⟩
end
end DL
set_option maxHeartbeats 4000000
namespace DL
open PySem L2 PySem.Spec PyProof.Rows
/-! ### calls of built-ins on lists -/
section
variable {K : PySem.W.Frag}
/-- the truth values, the whole numbers that l is -/
def blsD : List D → Option (List Bool)
  | [] => some []
  | .bl b :: l => (blsD l).map fun r => b :: r
  | _ => none
def intsD : List D → Option (List Int)
  | [] => some []
  | .int b :: l => (intsD l).map fun r => b :: r
  | _ => none
theorem blsD_ok {F : Hp} : ∀ {l : List D} {xs : List V} {bs : List Bool}, DVs K F l xs → blsD l = some bs → xs = bs.map V.bl
  | [], _, _, h, e => by cases e; exact h
  | d :: l, _, _, h, e => by
    obtain ⟨v, vs, rfl, a, r⟩ := h
    cases d with
    | bl b =>
      have e : (blsD l).map (fun r => b :: r) = some _ := e
      cases q : blsD l with
      | none => rw [q] at e; cases e
      | some ys =>
        rw [q] at e; cases e
        rw [show v = V.bl b from a, blsD_ok r q]; rfl
    | _ => exact nomatch e
theorem intsD_ok {F : Hp} : ∀ {l : List D} {xs : List V} {bs : List Int}, DVs K F l xs → intsD l = some bs → xs = bs.map V.int
  | [], _, _, h, e => by cases e; exact h
  | d :: l, _, _, h, e => by
    obtain ⟨v, vs, rfl, a, r⟩ := h
    cases d with
    | int b =>
      have e : (intsD l).map (fun r => b :: r) = some _ := e
      cases q : intsD l with
      | none => rw [q] at e; cases e
      | some ys =>
        rw [q] at e; cases e
        rw [show v = V.int b from a, intsD_ok r q]; rfl
    | _ => exact nomatch e
theorem intsD_map : ∀ ns : List Int, intsD (ns.map D.int) = some ns
  | [] => rfl
  | n :: ns => by
    show (intsD (ns.map D.int)).map (fun r => n :: r) = _
    rw [intsD_map ns]; rfl
theorem blsD_map : ∀ ns : List Bool, blsD (ns.map D.bl) = some ns
  | [] => rfl
  | n :: ns => by
    show (blsD (ns.map D.bl)).map (fun r => n :: r) = _
    rw [blsD_map ns]; rfl
def fAny (ds : List D) (μ : Mu) (Q : D → Mu → Prop) : Prop := match ds with
  | [x] => ∃ l bs, lvr μ x = some l ∧ blsD l = some bs ∧ Q (.bl (bs.any id)) μ
  | _ => False
def fMaxL (ds : List D) (μ : Mu) (Q : D → Mu → Prop) : Prop := match ds with
  | [x] => ∃ l ns, lvr μ x = some l ∧ intsD l = some ns ∧ 0 < ns.length ∧ ∀ m, m ∈ ns → (∀ y, y ∈ ns → y ≤ m) → Q (.int m) μ
  | _ => False
def fMin2 (ds : List D) (μ : Mu) (Q : D → Mu → Prop) : Prop := match ds with
  | [.int i, .int j] => Q (.int (if j < i then j else i)) μ
  | _ => False
def fTuple (ds : List D) (μ : Mu) (Q : D → Mu → Prop) : Prop := match ds with
  | [.tup l] => Q (.tup l) μ
  | [x] => ∃ l, lvr μ x = some l ∧ Q (.tup l) μ
  | _ => False
theorem dc_any : DCa K (rAny K) fAny := by
  intro F μ H vs ds Q0 Q s dv h q
  unfold fAny at h
  split at h
  · obtain ⟨l, bs, el, eb, h⟩ := h
    obtain ⟨v, r, rfl, d1, rfl⟩ := dv
    obtain ⟨a, xs, rfl, r, dl⟩ := lvr_ok s d1 el
    exact ⟨a, bs, rfl, by rw [← blsD_ok dl eb]; exact r, q F μ H (.bl _) _ Grow.refl s rfl h⟩
  · exact h.elim
theorem dc_max : DCa K (rMax K) fMaxL := by
  intro F μ H vs ds Q0 Q s dv h q
  unfold fMaxL at h
  split at h
  · obtain ⟨l, ns, el, eb, h0, h⟩ := h
    obtain ⟨v, r, rfl, d1, rfl⟩ := dv
    obtain ⟨a, xs, rfl, r, dl⟩ := lvr_ok s d1 el
    exact ⟨a, ns, rfl, by rw [← intsD_ok dl eb]; exact r, h0, fun m hm hy => q F μ H (.int m) _ Grow.refl s rfl (h m hm hy)⟩
  · exact h.elim
theorem dc_min2 : DCa K (fun xs H Q => ∃ i j, xs = [.int i, .int j] ∧ Q (.int (if j < i then j else i)) H) fMin2 := by
  intro F μ H vs ds Q0 Q s dv h q
  unfold fMin2 at h
  split at h
  · rename_i i j
    obtain ⟨v, r, rfl, d1, u, r2, rfl, d2, rfl⟩ := dv
    obtain rfl : v = V.int i := d1
    obtain rfl : u = V.int j := d2
    exact ⟨i, j, rfl, q F μ H (.int _) _ Grow.refl s rfl h⟩
  · exact h.elim
theorem dc_tuple : DCa K (fun xs H Q => ∃ p ys, xs = [.ref p] ∧ ((SqL K H p ys ∧ ∀ l, H l = none → Q (.ref l) (upd H l (.tup ys))) ∨ (SqT K H p ys ∧ Q (.ref p) H))) fTuple := by
  intro F μ H vs ds Q0 Q s dv h q
  unfold fTuple at h
  split at h
  · rename_i l
    obtain ⟨v, r, rfl, ⟨a, xs, rfl, ho, dl⟩, rfl⟩ := dv
    exact ⟨a, xs, rfl, .inr ⟨SqT.of (s.sub _ _ ho), q F μ H (.tup l) _ Grow.refl s ⟨a, xs, rfl, ho, dl⟩ h⟩⟩
  · obtain ⟨l, el, h⟩ := h
    obtain ⟨v, r, rfl, d1, rfl⟩ := dv
    obtain ⟨a, xs, rfl, r, dl⟩ := lvr_ok s d1 el
    refine ⟨a, xs, rfl, .inl ⟨r, fun p hp => ?_⟩⟩
    have f := s.free hp
    exact q (upd F p (.tup xs)) μ _ (.tup l) _ (Grow.new f.1) (s.put hp) ⟨p, xs, rfl, upd_same, dl.mono (Grow.new f.1)⟩ h
  · exact h.elim
/-! ### methods of lists: insert, pop(i), clear -/
def fIns (o : D) (ds : List D) (μ : Mu) (Q : D → Mu → Prop) : Prop := match o, ds with
  | .mut a, [.int i, d] => match μ a with
    | some (.lst l) => (l.length < 100000 ∧ 0 ≤ i ∧ i < 2 ^ 63) ∧ Q .non (um μ a (.lst (l.take i.toNat ++ [d] ++ l.drop i.toNat)))
    | _ => False
  | _, _ => False
def fPopAt (o : D) (ds : List D) (μ : Mu) (Q : D → Mu → Prop) : Prop := match o, ds with
  | .mut a, [.int i] => match μ a with
    | some (.lst l) => (0 ≤ i ∧ i < l.length ∧ l.length ≤ 100000) ∧ ∃ d, l[i.toNat]? = some d ∧ Q d (um μ a (.lst (l.eraseIdx i.toNat)))
    | _ => False
  | _, _ => False
def fClear (o : D) (ds : List D) (μ : Mu) (Q : D → Mu → Prop) : Prop := match o, ds with
  | .mut a, [] => match μ a with
    | some (.lst l) => Q .non (um μ a (.lst []))
    | _ => False
  | _, _ => False
theorem DVs.erase {F : Hp} : ∀ {l : List D} {xs : List V} (i : Nat), DVs K F l xs → DVs K F (l.eraseIdx i) (xs.eraseIdx i)
  | [], _, _, h => by rw [show _ = [] from h]; exact rfl
  | _ :: l, _, 0, h => by
    obtain ⟨v, vs, rfl, a, r⟩ := h
    exact r
  | _ :: l, _, i + 1, h => by
    obtain ⟨v, vs, rfl, a, r⟩ := h
    exact ⟨_, _, rfl, a, DVs.erase i r⟩
theorem dm_ins : DMe K (fun x vs H Q => ∃ (l : Addr) (xs : List V) (i : Int) (y : V), x = .ref l ∧ vs = [.int i, y] ∧ H l = some (.lst xs) ∧ xs.length < sizeLine ∧ 0 ≤ i ∧ i < 2 ^ 63 ∧ Q .non (upd H l (.lst (xs.take i.toNat ++ [y] ++ xs.drop i.toNat)))) fIns := by
  intro F μ H x vs dx ds Q0 Q s d1 d2 h q
  unfold fIns at h
  split at h
  · rename_i a i d
    split at h
    · rename_i l em
      obtain rfl : x = V.ref a := d1
      obtain ⟨y, r, rfl, dy, z, r2, rfl, dz, rfl⟩ := d2
      obtain rfl : y = V.int i := dy
      obtain ⟨f, xs, ho, dl⟩ := s.cel a _ em
      refine ⟨a, xs, i, z, rfl, rfl, ho, sz5l (by rw [dl.len]; exact h.1.1), h.1.2.1, h.1.2.2, ?_⟩
      exact q F _ _ .non _ Grow.refl (s.cell (m := .lst _) f ⟨_, upd_same, ((dl.take _).append (DVs.cons dz DVs.nil)).append (dl.drop _)⟩) rfl h.2
    · exact h.elim
  · exact h.elim
theorem dm_popAt : DMe K rPopAt fPopAt := by
  intro F μ H x vs dx ds Q0 Q s d1 d2 h q
  unfold fPopAt at h
  split at h
  · rename_i a i
    split at h
    · rename_i l em
      obtain ⟨⟨h0, h1, hz⟩, d, ed, h⟩ := h
      obtain rfl : x = V.ref a := d1
      obtain ⟨y, r, rfl, dy, rfl⟩ := d2
      obtain rfl : y = V.int i := dy
      obtain ⟨f, xs, ho, dl⟩ := s.cel a _ em
      obtain ⟨v, e1, e2⟩ := dl.get ed
      refine ⟨a, xs, i, i.toNat, v, rfl, rfl, ho, by omega, by omega, ?_, e1, ?_⟩
      · have hl := dl.len
        unfold seqIndex?
        rw [show (if i < 0 then i + (xs.length : Nat) else i) = i from if_neg (by omega)]
        exact if_pos (by rw [Bool.and_eq_true, decide_eq_true_eq, decide_eq_true_eq]; omega)
      · exact q F _ _ d _ Grow.refl (s.cell (m := .lst _) f ⟨_, upd_same, dl.erase _⟩) e2 h
    · exact h.elim
  · exact h.elim
theorem dm_clear : DMe K rClear fClear := by
  intro F μ H x vs dx ds Q0 Q s d1 d2 h q
  unfold fClear at h
  split at h
  · rename_i a
    split at h
    · rename_i l em
      obtain rfl : x = V.ref a := d1
      obtain rfl : vs = [] := d2
      obtain ⟨f, xs, ho, dl⟩ := s.cel a _ em
      exact ⟨a, xs, rfl, rfl, ho, q F _ _ .non _ Grow.refl (s.cell (m := .lst _) f ⟨_, upd_same, DVs.nil⟩) rfl h⟩
    · exact h.elim
  · exact h.elim
end
theorem emeL0 {X : Cx} {W : WX} {E : EX} {o : Expr} {ta : TE} {wa : WEx} {pos : Pos} {id m : String} {name : Str} {r : V → List V → Hp → VK → Prop} {f : D → List D → Mu → (D → Mu → Prop) → Prop} {apos : Pos} (slot : Slot "list" name id) (hty : typeOf (.builtin id) = pure (.type "method_descriptor")) (hm : MtR X id r) (hf : DMe X.K r f) (ho : DE X W E o ta wa)
    (hp : PlainAttrs "list" → Slot "list" name id → typeOf (.builtin id) = pure (.type "method_descriptor") → MtR X id r → PE X o ta → PE X (.Call (.Attribute o name apos) [] [] pos) (tBM0 X.K "list" r ta) := by exact fun a b c d e => pe_bm0 a b c d e) :
    DE X W E (.Call (.Attribute o name apos) [] [] pos) (tBM0 X.K "list" r ta) (wMeL f wa wNil) := ⟨hp PySem.F.plainAttrs_list slot hty hm ho.pe, dn_meL0 hf ho.dn⟩
/-! ### range(a, b, -1); a, b = a list -/
def rngD (hi : Int) (n : Nat) : List D := (List.range n).map fun i => D.int (hi - (i : Nat))
def iR3 (a : WA) : WI := fun ρ μ Q => a ρ μ fun ds μ1 => match ds with
  | [.int i, .int j, .int c] => (c = -1 ∧ -(2 ^ 62) ≤ i ∧ i < 2 ^ 62 ∧ -(2 ^ 62) ≤ j ∧ j < 2 ^ 62) ∧ Q (.fix (rngD i (i - j).toNat)) μ1
  | _ => False
theorem rngD_len (lo : Int) (n : Nat) : (rngD lo n).length = n := by unfold rngD; rw [List.length_map, List.length_range]
theorem rngD_get {lo : Int} {n i : Nat} (h : i < n) : (rngD lo n)[i]? = some (D.int (lo - (i : Nat))) := by
  unfold rngD; rw [List.getElem?_map, List.getElem?_range h]; rfl
theorem wk_rngD {K : PySem.W.Frag} {lo : Int} {n : Nat} {F : Hp} : WkOk K (Itc lo (-1) n) (.fix (rngD lo n)) F := by
  refine ⟨fun F' μ' H' i g s' _ hi => ?_, fun F' μ' H' i x H2 g s' _ hi y => ?_, fun F' μ' H' i g s' _ hi => ?_⟩
  all_goals
    have hi' := hi
    rw [show (Wk.fix (rngD lo n)).items = rngD lo n from rfl, rngD_len] at hi'
  · exact hi'
  · obtain ⟨rfl, rfl⟩ := y
    refine ⟨F', .int (lo - (i : Nat)), Grow.refl, s', rngD_get hi', ?_⟩
    show V.int (lo + (i : Nat) * -1) = V.int (lo - (i : Nat))
    congr 1
    omega
  · exact hi'
theorem di_r3 {K : PySem.W.Frag} {W : WX} {E : EX} {tas : TA} {was : WA} (ha : DnA K W E tas was) : DnI K W E (iRng3 tas) (iR3 was) := by
  intro F μ H ρ σ Q0 R s h q
  refine ha F μ H ρ σ _ _ s h fun F1 μ1 H1 ds vs g1 s1 dv h1 => ?_
  split at h1
  · rename_i i j c
    obtain ⟨x, r, rfl, dx, y, r2, rfl, dy, z, r3, rfl, dz, rfl⟩ := dv
    obtain rfl : x = V.int i := dx
    obtain rfl : y = V.int j := dy
    obtain rfl : z = V.int c := dz
    obtain ⟨⟨rfl, h2, h3, h4, h5⟩, h1⟩ := h1
    exact ⟨i, j, -1, _, rfl, RgC.neg h2 h3 h4 h5, q F1 μ1 H1 _ _ g1 s1 wk_rngD h1⟩
  · exact h1.elim
def gLs (n : Nat) (gs : WGs) : WG := fun d ρ μ N => match lvr μ d with
  | some l => l.length = n ∧ gs l ρ μ N
  | none => False
theorem dg_lst {K : PySem.W.Frag} {W : WX} {E : EX} {gs : TGs} {wgs : WGs} {n : Nat} (h1 : DnGs K W E gs wgs) : DnG K W E (gLst K n gs) (gLs n wgs) := by
  intro F μ H ρ σ d v N0 N s dv h q
  unfold gLs at h
  split at h
  · rename_i l el
    obtain ⟨a, xs, rfl, r, dl⟩ := lvr_ok s.ok dv el
    exact ⟨a, xs, rfl, r, by rw [dl.len]; exact h.1, h1 F μ H ρ σ _ xs _ _ s dl h.2 q⟩
  · exact h.elim
section
variable {X : Cx} {W : WX} {E : EX} {a b c : Expr} {es : List Expr} {tas : TA} {was : WA} {gs : TGs} {wgs : WGs} {pos : Pos}
theorem ir3 {tg : Expr} {p' : Pos} (hm : X.mg "range" = none) (h : DA X W E [a, b, c] tas was) (hg : Gl X "range" := by rfl) (hp : X.mg "range" = none → PA X [a, b, c] tas → PI X tg (.Call (.Name "range" p') [a, b, c] [] pos) (iRng3 tas) := by exact fun m x => pi_range3 (by rfl) m x) : DIt X W E tg (.Call (.Name "range" p') [a, b, c] [] pos) (iRng3 tas) (iR3 was) := ⟨hp hm h.pe, di_r3 h.dn⟩
theorem gls {n k : Nat} (h : DGl X W E es gs wgs) (hc : X.calm = true := by rfl) (hn : (assignEach es X.env).length = n := by rfl) (hst : (assignEach es X.env).findIdx? (·.1) = none := by rfl) : DGt X W E (.Tuple es k pos) (gLst X.K n gs) (gLs n wgs) := ⟨pg_lst hc h.pe hn hst, dg_lst h.dn⟩
end
end DL
set_option maxHeartbeats 1000000
namespace DL
open PySem L2 PySem.Spec PyProof.Rows
/-! ### enumerate(t), t a tuple -/
theorem meets_enumT (t : Addr) (items : Array Value) :
    Meets (Builtin.«enumerate.__new__» ⟨[.type "enumerate", .ref t], []⟩) (fun _ R s => s.heap.IsTuple t items ∧
      R (.ok (.ret (.ref (s.heap.push { cls := .type "tuple_iterator", data := .fields #[.ref t, .int 0 0] }).objs.size)))
        { s with heap := (s.heap.push { cls := .type "tuple_iterator", data := .fields #[.ref t, .int 0 0] }).push { cls := .type "enumerate", data := .fields #[.none, .bool false, .ref s.heap.objs.size, rawInt 0, .none, .none] } }) :=
  .of_wp fun prog w A R s h => by
    obtain ⟨hp, g, d, tk, os⟩ := s
    obtain ⟨hT, h⟩ := h
    have hsub := sub_enumerate
    have qT : ∀ {A' : Around} {E : Value → Shared → Prop} {Q : Value → Shared → Prop}, Q (.ref hp.objs.size) ⟨hp.push { cls := .type "tuple_iterator", data := .fields #[.ref t, .int 0 0] }, g, d, tk, os⟩ → wpAny (model prog w) A' (pyIter (.ref t)) Q E ⟨hp, g, d, tk, os⟩ :=
      fun q => (begins_tuple t items).iter prog w _ _ ⟨hp, g, d, tk, os⟩ _ hT q
    wp_walk using qT
    refine wpAny_stack_any fun st => wpAny_pure ?_
    split
    · rename_i c _ _ _ _ _
      cases (c == Value.type "enumerate") <;> (wp_walk using qT; exact ⟨_, rfl, h⟩)
    · wp_walk using qT
      exact ⟨_, rfl, h⟩
section
variable {prog : Program} {w : World} {A : Around} {E : Value → Shared → Prop} {s : Shared}
theorem call_enumT {t : Addr} {items : Array Value} {Q : Value → Shared → Prop} (hT : s.heap.IsTuple t items)
    (h : ∀ h', IsEnum h' (s.heap.objs.size + 1) s.heap.objs.size 0 .none → h'.IsTupleIter s.heap.objs.size t 0 → h'.objs.size = s.heap.objs.size + 2 → (∀ b o, s.heap.get? b = some o → h'.get? b = some o) → Q (.ref (s.heap.objs.size + 1)) { s with heap := h' }) :
    wpAny (model prog w) A (call (.type "enumerate") [.ref t]) Q E s := by
  refine callType_new F.called_enumerate (by decide) (F.typeCall_enumerate_1 _) (F.newCall_enumerate_1 _) (fun obj => F.args_object_init_2 obj _) F.entry_enumerate_new (meets_enumT t items) ⟨hT, ?_⟩
  generalize ho : ({ cls := .type "tuple_iterator", data := .fields #[.ref t, .int 0 0] } : Obj) = o
  have hfree : o.isFreed = false := by rw [← ho]; rfl
  have hz : (s.heap.push o).objs.size = s.heap.objs.size + 1 := Heap.size_push ..
  show _ ∧ _
  rw [hz]
  generalize hq : ({ cls := .type "enumerate", data := .fields #[.none, .bool false, .ref s.heap.objs.size, rawInt 0, .none, .none] } : Obj) = oe
  have he : ((s.heap.push o).push oe).get? (s.heap.objs.size + 1) = some oe := by
    rw [← hz]
    exact Heap.get?_push_size _ (by rw [← hq]; rfl)
  refine ⟨⟨oe, he, by rw [← hq]⟩, h _ (by rw [← hq] at he ⊢; exact he) ⟨o, Heap.get?_push_of_some _ (Heap.get?_push_size _ hfree), by rw [← ho], by rw [← ho]; rfl⟩ (by rw [Heap.size_push, hz]) fun b u x => Heap.get?_push_of_some _ (Heap.get?_push_of_some _ x)⟩
end
/-- the tuple at a, each item in a new pair -/
def ItT (K : PySem.W.Frag) (a : Addr) : It :=
  ⟨fun i H => ∃ (xs : List V) (x : V), SqT K H a xs ∧ xs[i]? = some x, fun i H v H' => ∃ T x, v = .ref T ∧ H T = none ∧ H' = upd H T (.tup [.int (i : Nat), x]) ∧ ∀ xs, SqT K H a xs → xs[i]? = some x, fun i H => ∃ xs : List V, SqT K H a xs ∧ xs.length ≤ i⟩
theorem turn_enumT {P : Program} {w : World} {K : PySem.W.Frag} {elts : List Expr} {kk : Nat} {tpos : Pos} (a e it : Addr) (hae : a ≠ e) (hai : a ≠ it) :
    Turn P w K (.Tuple elts kk tpos) (ItT K a) [e, it] e (fun i h => (∃ old, IsEnum h e it ((i : Nat) : Int) old) ∧ h.IsTupleIter it a i ∧ e ≠ it) where
  mem := List.mem_cons_self
  obj := fun i h st b hb => by
    obtain ⟨⟨old, he⟩, ⟨o, ho, _, hd⟩, _⟩ := st
    rcases List.mem_cons.mp hb with rfl | hb
    · exact ⟨_, he, fun v q => nomatch q⟩
    · rw [List.mem_singleton.mp hb]
      exact ⟨o, ho, fun v q => by rw [hd] at q; cases q⟩
  keep := fun i h h' st k => by
    obtain ⟨⟨old, he⟩, hi, hne⟩ := st
    exact ⟨⟨old, k e List.mem_cons_self _ he⟩, hi.at fun o q => k it (by simp) o q, hne⟩
  item := by
    rintro X rfl rfl rfl hc i pins s σ H E I hf ⟨⟨old, he⟩, hit, hne⟩ ⟨xs, x, hq, hx⟩
    obtain ⟨its, rv, ht, hz⟩ := I.tuple hq
    obtain ⟨u, hu, ru⟩ := rv.get hx
    have hlt : i < its.toArray.size := by rw [List.size_toArray]; exact (List.getElem?_eq_some_iff.mp hu).1
    have hel : e < s.heap.objs.size := Heap.lt_size he
    have hil : it < s.heap.objs.size := let ⟨_, q, _⟩ := hit; Heap.lt_size q
    have D := Draws.tuple (prog := X.prog) (w := X.w) (A := X.A.in1) (by first | exact I.ok.hd hc | rfl) it a hai its.toArray
    refine wpAny_pyNext_enum_itemD D he ⟨hit, ht⟩ hlt hne (by simp [hne, Ne.symm hae]) fun x' h' tk hx' ho hst hT hsz hk => ?_
    have ex : x' = u := Option.some.inj (hx'.symm.trans (by simpa using hu))
    subst ex
    refine ⟨_, rfl, wpAny_letOwnedTupleGo_enum (s := { s with heap := h', toks := tk + 1 }) ho fun h'' he' sb => ?_⟩
    have hT2 : h''.get? s.heap.objs.size = some { cls := .type "tuple", data := .seq #[.int i tk, x'] } := (sb.2 _ (Nat.ne_of_gt hel)).trans hT
    have new : ObjOk X.prog X.w (upd H s.heap.objs.size (.tup [.int (i : Nat), x])) h'' s.heap.objs.size (.tup [.int (i : Nat), x]) :=
      ⟨Nat.le_trans (Nat.le_of_ble_eq_true rfl : ([V.int (i : Nat), x] : List V).length ≤ 2) (show 2 ≤ sizeLine by decide), [.int i tk, x'], .cons ⟨_, rfl⟩ (.cons ru .nil), ⟨_, hT2, rfl, _, rfl⟩⟩
    have I1 : Inv X pins σ (upd H s.heap.objs.size (.tup [.int (i : Nat), x])) { s with heap := h'', toks := tk + 1 } :=
      I.turnedNew (ch := [e, it]) (fun b ob hb q => (sb.2 b fun z => hb (by simp [z])).trans (hk b ob (fun z => hb (by simp [z])) (fun z => hb (by simp [z])) q)) hf (Nat.le_refl _) new
    have fresh := I.hok.fresh (Nat.le_refl s.heap.objs.size)
    have hit2 : h''.IsTupleIter it a (i + 1) := hst.1.at fun o q => (sb.2 it (Ne.symm hne)).trans q
    refine ⟨.ref s.heap.objs.size, _, I1, rfl, ⟨_, x, rfl, fresh, rfl, fun ys hy => ?_⟩, ⟨⟨x', ?_⟩, hit2, hne⟩, fun b hb => ?_⟩
    · rw [I.tuple_inj hy hq]
      exact hx
    · have e1 : ((i + 1 : Nat) : Int) = (i : Int) + 1 := by omega
      rw [e1]
      exact he'
    · have hb' : b < s.heap.objs.size := by
        rcases List.mem_cons.mp hb with rfl | hb
        · exact hel
        · rw [List.mem_singleton.mp hb]; exact hil
      rw [upd_ne (Nat.ne_of_lt hb')]
      exact (hf b hb).1
  done := by
    rintro X rfl rfl rfl hc i pins s σ H E I hf ⟨⟨old, he⟩, hit, hne⟩ ⟨xs, hq, hx⟩
    obtain ⟨its, rv, ht, hz⟩ := I.tuple hq
    obtain ⟨f0, f1, f2, f3, f4, f5⟩ := hf it (by simp)
    have hl := rv.length
    have D : Draws X.prog X.w X.A.in1 it [it, a] i (fun _ _ => True) (fun j h => j = i ∧ h.IsTupleIter it a i ∧ h.IsTuple a its.toArray) := {
      live := fun j h z => let ⟨o, ho, _⟩ := z.2.1; ⟨o, ho⟩
      frame := fun j h h' z k => ⟨z.1, z.2.1.at fun o q => k it (by simp) o q, z.2.2.at fun o q => k a (by simp) o q⟩
      item := fun j s Q E hj z _ => absurd z.1 (Nat.ne_of_lt hj)
      done := fun s Q E z hE => wpAny_nextOf_tuple_end (by first | exact I.ok.hd hc | rfl) z.2.1 z.2.2 (by simp; omega) hE }
    exact wpAny_pyNext_enum_endD D he ⟨rfl, hit, ht⟩ fun h' eb => ⟨rfl, I.turned (t' := s.toks) (fun b o hb q => eb b o hb q) f0 f1 f3 f4 f5⟩
  self := fun A i s Q E st h => let ⟨⟨_, he⟩, _⟩ := st; wpAny_pyIter_enum he h
def iEnumT (K : PySem.W.Frag) (ta : TA) : TI := fun σ H R => ta σ H fun vs H1 => ∃ a xs, vs = [.ref a] ∧ SqT K H1 a xs ∧ R (ItT K a) H1
theorem pi_enumT {X : Cx} {e : Expr} {ta : TA} {p pos tpos : Pos} {elts : List Expr} {kk : Nat} (hg : Gl X "enumerate") (hm : X.mg "enumerate" = none) (ha : PA X [e] ta) (hs : starEach [e] X.env = [(false, eval e X.env)] := by rfl) :
    PI X (.Tuple elts kk tpos) (.Call (.Name "enumerate" p) [e] [] pos) (iEnumT X.K ta) := by
  refine ⟨fun pins s σ H R I h => Call_ (ld_blt I hg hm boot_enumerate (PyProof.Rows.callWith_type1 (thn (ha.run pos pins s σ H _ I h) fun us s1 ⟨vs, H1, I1, r1, a, xs, ex, hq, q⟩ => ?_) hs rfl))⟩
  subst ex
  cases r1 with
  | cons r rr =>
    cases rr
    cases r
    obtain ⟨its, rv, ht, hz⟩ := I1.tuple hq
    refine call_enumT ht fun h' he hit hsz hk => wpAny_pyIter_enum he ?_
    have I2 : Inv X pins σ H1 { s1 with heap := h' } := I1.kept (t' := s1.toks) hk
    have hal : a < s1.heap.objs.size := let ⟨_, z, _⟩ := ht; Heap.lt_size z
    refine ⟨s1.heap.objs.size + 1, [s1.heap.objs.size + 1, s1.heap.objs.size], _, _, H1, rfl, I2, turn_enumT a (s1.heap.objs.size + 1) s1.heap.objs.size (Nat.ne_of_lt (Nat.lt_succ_of_lt hal)) (Nat.ne_of_lt hal), ⟨⟨.none, he⟩, hit, Nat.succ_ne_self _⟩, fun b hb => ?_, q⟩
    have hle : s1.heap.objs.size ≤ b := by
      rcases List.mem_cons.mp hb with rfl | hb
      · exact Nat.le_succ _
      · rw [List.mem_singleton.mp hb]; exact Nat.le_refl _
    exact I1.fpOk hle (I1.hok.fresh hle)
/-- the pairs of place and item -/
def numb (l : List D) : List D := (List.range l.length).zip l |>.map fun q => D.tup [.int (q.1 : Nat), q.2]
theorem numb_len (l : List D) : (numb l).length = l.length := by
  unfold numb
  rw [List.length_map, List.length_zip, List.length_range, Nat.min_self]
theorem numb_get {l : List D} {i : Nat} {d : D} (h : l[i]? = some d) : (numb l)[i]? = some (.tup [.int (i : Nat), d]) := by
  have hi := (List.getElem?_eq_some_iff.mp h).1
  unfold numb
  rw [List.getElem?_map, List.getElem?_eq_getElem (by rw [List.length_zip, List.length_range, Nat.min_self]; exact hi), List.getElem_zip, List.getElem_range]
  obtain ⟨_, e⟩ := List.getElem?_eq_some_iff.mp h
  rw [e]
  rfl
/-- enumerate of a list, a tuple -/
def iEn (a : WEx) : WI := fun ρ μ Q => a ρ μ fun d μ1 => match d with
  | .tup l => Q (.fix (numb l)) μ1
  | _ => False
theorem di_enT {K : PySem.W.Frag} {W : WX} {E : EX} {ta : TE} {wa : WEx} (ha : Dn K W E ta wa) : DnI K W E (iEnumT K (tCons ta tNil)) (iEn wa) := by
  intro F μ H ρ σ Q0 R s h q
  refine ha F μ H ρ σ _ _ s h fun F1 μ1 H1 d v g1 s1 dv h1 => ?_
  split at h1
  · rename_i l
    obtain ⟨a, xs, rfl, ho, dl⟩ := dv
    have tH : ∀ {F' H' : Hp} {μ' : Mu}, Grow F1 F' → Sok K F' μ' H' → SqT K H' a xs := fun g s => SqT.of (s.sub _ _ (g _ _ ho))
    refine ⟨a, xs, rfl, SqT.of (s1.ok.sub _ _ ho), q F1 μ1 H1 (ItT K a) (.fix (numb l)) g1 s1 ⟨fun F' μ' H' i g s' _ hi => ?_, fun F' μ' H' i x H2 g s' _ hi y => ?_, fun F' μ' H' i g s' _ hi => ?_⟩ h1⟩
    · have hi' : i < xs.length := by rw [dl.len, ← numb_len]; exact hi
      exact ⟨xs, xs[i], tH g s', List.getElem?_eq_getElem hi'⟩
    · obtain ⟨T, z, rfl, hT, rfl, hz⟩ := y
      obtain ⟨e, e1, e2⟩ := dl.back (hz xs (tH g s'))
      have f := s'.free hT
      exact ⟨upd F' T (.tup [.int (i : Nat), z]), .tup [.int (i : Nat), e], Grow.new f.1, s'.put hT, numb_get e1, T, _, rfl, upd_same, DVs.cons rfl (DVs.cons (e2.mono (g.trans (Grow.new f.1))) DVs.nil)⟩
    · exact ⟨xs, tH g s', by rw [dl.len, ← numb_len]; exact hi⟩
  · exact h1.elim
theorem ienT {X : Cx} {W : WX} {E : EX} {a : Expr} {ta : TE} {wa : WEx} {p pos tpos : Pos} {elts : List Expr} {kk : Nat} (hm : X.mg "enumerate" = none) (h : DE X W E a ta wa) (hg : Gl X "enumerate" := by rfl) (hp : X.mg "enumerate" = none → PA X [a] (tCons ta tNil) → PI X (.Tuple elts kk tpos) (.Call (.Name "enumerate" p) [a] [] pos) (iEnumT X.K (tCons ta tNil)) := by exact fun m x => pi_enumT (by rfl) m x) (hs : PE X a ta → PA X [a] (tCons ta tNil) := by exact fun x => pa_cons x pa_nil) :
    DIt X W E (.Tuple elts kk tpos) (.Call (.Name "enumerate" p) [a] [] pos) (iEnumT X.K (tCons ta tNil)) (iEn wa) := ⟨hp hm (hs h.pe), di_enT h.dn⟩
end DL
set_option maxHeartbeats 4000000
namespace DL
open PySem L2 PySem.Spec PyProof.Rows
theorem lv_mono {μ μ' : Mu} {d : D} {l : List D} (h : le μ μ') (e : lv μ d = some l) : lv μ' d = some l := by
  unfold lv at e ⊢
  split at e
  · exact e
  · split at e
    · rename_i a l' em
      cases e
      rw [h _ _ em]
    · cases e
  · cases e
theorem lv_cell {μ : Mu} {a : Addr} {l : List D} (e : lv μ (.mut a) = some l) : μ a = some (.lst l) := by
  have e : (match μ a with | some (.lst l) => some l | _ => none) = some l := e
  split at e
  · rename_i l' em
    cases e
    exact em
  · cases e
theorem um_swap {μ : Mu} {p q : Addr} {a b : MO} (h : q ≠ p) : um (um μ q b) p a = um (um μ p a) q b := by
  funext x
  unfold um
  by_cases h1 : x = p
  · subst h1
    rw [if_pos rfl, if_neg (Ne.symm h), if_pos rfl]
  · rw [if_neg h1]
    by_cases h2 : x = q
    · rw [if_pos h2, if_pos h2]
    · rw [if_neg h2, if_neg h2, if_neg h1]
theorem le_none {μ μ' : Mu} {p : Addr} (h : le μ μ') (e : μ' p = none) : μ p = none := by
  cases q : μ p with
  | none => rfl
  | some m => rw [h p m q] at e; cases e
/-- for g in xs: b, xs a local that is a list as long as the loop runs -/
theorem for_lv2 {k : Nat} {d : D} {l : List D} {μ : Mu} {ρ : En} {g : WG} {b : WS} {Ds : DEnds} (el : lv μ d = some l) (hv : ρ[k]? = some (some d)) (I : Nat → En → Mu → Prop) (i0 : I 0 ρ μ) (ik : ∀ i ρ' μ', I i ρ' μ' → lv μ' d = some l)
    (step : ∀ i e ρ' μ', l[i]? = some e → I i ρ' μ' → g e ρ' μ' fun ρ2 μ2 => b { Ds with nx := wk (I (i + 1)), ct := wk (I (i + 1)), bk := Ds.nx } ρ2 μ2) (done : ∀ ρ' μ', I l.length ρ' μ' → Ds.nx ρ' μ') : wFor (iLs (wVar k)) g b Ds ρ μ := by
  show iLs (wVar k) ρ μ _
  unfold iLs wVar
  rw [hv]
  cases d <;> first | (cases el; done) | skip
  · cases el
    exact ⟨I, i0, fun _ _ _ _ => trivial, step, done⟩
  · dsimp only
    rw [lv_cell el]
    exact ⟨I, i0, fun i ρ' μ' h => lv_cell (ik i ρ' μ' h), step, done⟩
end DL
set_option maxHeartbeats 4000000
namespace DL
open PySem L2 PySem.Spec PyProof.Rows
/-! ### properties -/
structure DfP (P : Program) (w : World) (K : PySem.W.Frag) (mg : Str → Option Value) (base : Heap) (C : Addr) (f : Str) (k : Nat) (c : Ct) : Prop where
  ex : ∃ p g fd, FnOk P w K mg base (L2N.CX P w) k g fd ["self"] (spD K c) ∧ PropOf K C f p g ∧ Binds K fd ["self"] []
  cls : Cls K C
def wProp (C : Addr) (c : Ct) (o : WEx) : WEx := fun ρ μ Q => o ρ μ fun x μ1 => (∃ fs, fieldsD μ1 x = some (C, fs)) ∧ c [x] μ1 Q fun _ _ _ => False
theorem dn_prop {K : PySem.W.Frag} {W : WX} {E : EX} {C : Addr} {c : Ct} {ta : TE} {wa : WEx} (ho : Dn K W E ta wa) : Dn K W E (tProp C (spD K c) [] (fun _ _ _ => False) ta) (wProp C c wa) := by
  intro F μ H ρ σ Q0 Q s h q
  refine ho F μ H ρ σ _ _ s h fun F1 μ1 H1 d v g1 s1 dv ⟨⟨fs, ef⟩, h1⟩ => ?_
  obtain ⟨a, dx, ys, rfl, ha1, kd⟩ := fields_ok s1.ok dv ef
  refine ⟨a, dx, ys, rfl, ha1, F1, μ1, [d], _, _, s1.ok, DVs.cons dv DVs.nil, h1, fun F3 μ3 H3 d3 v3 g3 s3 dv3 ⟨μ4, l, h3⟩ => ?_, fun F3 μ3 H3 D fs g3 g4 s3 ex ⟨μ4, l, h3⟩ => h3.elim⟩
  exact q F3 μ4 H3 d3 v3 (g1.trans g3) ((s1.mono g3 s3).weak l) dv3 h3
theorem eprop {X : Cx} {W : WX} {E : EX} {o : Expr} {ta : TE} {wa : WEx} {pos : Pos} {C : Addr} {f : Str} {k : Nat} {c : Ct} (h : DfP X.prog X.w X.K X.mg X.base C f k c) (hr : Room (k + 1) X.A) (ho : DE X W E o ta wa) (hab : attributeBase o f X.env (eval o X.env) = eval o X.env := by rfl) :
    DE X W E (.Attribute o f pos) (tProp C (spD X.K c) [] (fun _ _ _ => False) ta) (wProp C c wa) := by
  obtain ⟨⟨p, g, fd, G, hp, hb⟩, cl⟩ := h
  exact ⟨pe_prop ho.pe cl hp G hr hb .nil (fun pins σ H s e s' I ⟨_, _, _, _, _, _, _, _, _, _, _, _, hE⟩ => hE.elim) hab, dn_prop ho.dn⟩
/-- a class's def keeps its promise; the making, the property -/
theorem DfK.of {P : Program} {w : World} {K : PySem.W.Frag} {mg : Str → Option Value} {base : Heap} {x : Str} {C f : Addr} {fd : FuncData} {k : Nat} {ps : List Str} {c : Ct} (G : FnOk P w K mg base (L2N.CX P w) k f fd ps (spD K c)) (M : Mk K C f) (hm : mg x = some (.ref C)) (hb : Binds K fd ps []) : DfK P w K mg base x C k ps c := ⟨f, fd, G, M, hm, hb⟩
end DL
set_option maxHeartbeats 1000000
namespace DL
open PySem L2 PySem.Spec PyProof.Rows
/-! ### list(range(n)) -/
theorem vals_get : ∀ {xs : List V} {us : List Value}, xs.length = us.length → (∀ (i : Nat) (v : V) (u : Value), xs[i]? = some v → us[i]? = some u → RelV v u) → Vals xs us
  | [], [], _, _ => .nil
  | x :: xs, u :: us, hl, h => .cons (h 0 x u rfl rfl) (vals_get (by simpa using hl) fun i v w e1 e2 => h (i + 1) v w (by simpa using e1) (by simpa using e2))
def rRng1 : List V → Hp → VK → Prop := fun vs H Q => ∃ j, vs = [V.int j] ∧ ∀ p, H p = none → Q (.ref p) (upd H p (.rng 0 j))
theorem cr_rng1 {X : Cx} : CallR X (.type "range") rRng1 := by
  intro pins s σ H vs us Q I r h
  obtain ⟨j, rfl, q⟩ := h
  obtain ⟨u1, rfl, t, rfl⟩ := vals1 r
  refine call_range_1 ⟨.ref s.heap.objs.size, upd H s.heap.objs.size (.rng 0 j), I.laid (t' := s.toks + 1 + 1) (fun b o e => Heap.get?_push_of_some _ e) (Nat.le_refl _) ?_, rfl, q _ (I.hok.fresh (Nat.le_refl _))⟩
  exact ⟨s.toks, t, s.toks + 1, Heap.get?_push_size _ rfl⟩
def rLstR : List V → Hp → VK → Prop := fun vs H Q => ∃ p j, vs = [V.ref p] ∧ H p = some (.rng 0 j) ∧ 0 ≤ j ∧ j ≤ 1000000 ∧ ∀ l, H l = none → Q (.ref l) (upd H l (.lst ((List.range j.toNat).map fun i => V.int (i : Nat))))
theorem small_up {j : Int} (h0 : 0 ≤ j) (h1 : j ≤ 1000000) : Builtin.Range.small 0 j 1 = true := by
  have e : Builtin.Range.rangeSize 0 j 1 = j := by rw [rangeSize_one]; split <;> omega
  unfold Builtin.Range.small
  rw [e]
  unfold Builtin.Range.rangeFitsLong
  simp only [Bool.and_eq_true, decide_eq_true_eq, Bool.or_eq_true]
  have c : (1 : Int) > 0 := by decide
  rw [if_pos c]
  simp only [decide_eq_true_eq, Bool.and_eq_true]
  omega
theorem cr_lstR {X : Cx} (hc : X.calm = true) : CallR X (.type "list") rLstR := by
  intro pins s σ H vs us Q I r h
  obtain ⟨p, j, rfl, hp, h0, h1, q⟩ := h
  obtain ⟨u1, rfl, rfl⟩ := vals1 r
  obtain ⟨t, u, v, ho⟩ := I.hok p _ hp
  have e : Builtin.Range.rangeSize 0 j 1 = (j.toNat : Nat) := by rw [rangeSize_one]; split <;> omega
  refine call_list_range (I.ok.hd hc) ho (small_up h0 h1) e (by omega) fun h' tk acc' c' hk hS hacc => ?_
  have rv : Vals ((List.range j.toNat).map fun i => V.int (i : Nat)) acc'.toList := by
    obtain ⟨hz, hi⟩ := hacc
    refine vals_get (by rw [List.length_map, List.length_range, Array.length_toList, hz]) fun i v u e1 e2 => ?_
    rw [List.getElem?_map] at e1
    cases q : (List.range j.toNat)[i]? with
    | none => rw [q] at e1; cases e1
    | some k =>
      rw [q] at e1
      cases e1
      have hk : k = i := by
        obtain ⟨_, e⟩ := List.getElem?_eq_some_iff.mp q
        rw [List.getElem_range] at e
        exact e.symm
      subst hk
      obtain ⟨t, rfl⟩ := hi k u (by simpa using e2)
      exact ⟨t, by congr 1; omega⟩
  refine ⟨.ref s.heap.objs.size, _, I.laid (t' := tk) (o := .lst ((List.range j.toNat).map fun i => V.int (i : Nat))) hk (Nat.le_refl _) ?_, rfl, q _ (I.hok.fresh (Nat.le_refl _))⟩
  exact ⟨by rw [List.length_map, List.length_range, sizeLine_eq]; omega, acc'.toList, c', rv, by simpa using hS⟩
/-- the numbers below n -/
def upTo (n : Nat) : List D := (List.range n).map fun i => D.int (i : Nat)
def wLR (a : WEx) : WEx := fun ρ μ Q => a ρ μ fun d μ1 => match d with
  | .int j => (0 ≤ j ∧ j ≤ 1000000) ∧ ∀ p, μ1 p = none → Q (.mut p) (um μ1 p (.lst (upTo j.toNat)))
  | _ => False
theorem upTo_dvs {K : PySem.W.Frag} {F : Hp} : ∀ l : List Nat, DVs K F (l.map fun i => D.int (i : Nat)) (l.map fun i => V.int (i : Nat))
  | [] => rfl
  | i :: l => DVs.cons rfl (upTo_dvs l)
theorem elr {X : Cx} {W : WX} {E : EX} {a : Expr} {ta : TE} {wa : WEx} {p p2 pos pos2 : Pos} (hml : X.mg "list" = none) (hmr : X.mg "range" = none) (h : DE X W E a ta wa) (hc : X.calm = true := by rfl)
    (hp : X.mg "list" = none → X.mg "range" = none → X.calm = true → PE X a ta → PE X (.Call (.Name "list" p) [.Call (.Name "range" p2) [a] [] pos2] [] pos) (tCB rLstR (tCons (tCB rRng1 (tCons ta tNil)) tNil)) := by exact fun m m2 c x => pe_callTy (cr_lstR c) (by rfl) m (by decide +kernel) (pa_cons (pe_callTy cr_rng1 (by rfl) m2 (by decide +kernel) (pa_cons x pa_nil)) pa_nil)) :
    DE X W E (.Call (.Name "list" p) [.Call (.Name "range" p2) [a] [] pos2] [] pos) (tCB rLstR (tCons (tCB rRng1 (tCons ta tNil)) tNil)) (wLR wa) := by
  refine ⟨hp hml hmr hc h.pe, fun F μ H ρ σ Q0 Q s hw q => ?_⟩
  refine h.dn F μ H ρ σ _ _ s hw fun F1 μ1 H1 d v g1 s1 dv h1 => ?_
  split at h1
  · rename_i j
    obtain ⟨⟨h0, hz⟩, h1⟩ := h1
    obtain rfl : v = V.int j := dv
    refine ⟨j, rfl, fun r hr => ⟨r, j, rfl, upd_same, h0, hz, fun l hl => ?_⟩⟩
    have s2 := s1.ok.junk (o := .rng 0 j) hr
    have f := s2.free hl
    exact q F1 _ _ (.mut l) _ g1 (s1.mono Grow.refl (s2.cell (m := .lst (upTo j.toNat)) f.1 ⟨_, upd_same, upTo_dvs _⟩)) rfl (h1 l f.2)
  · exact h1.elim
end DL
set_option maxHeartbeats 1000000
namespace DL
open PySem L2 PySem.Spec PyProof.Rows
/-! ### y = [e for x in ..] -/
section
variable {X : Cx} {W : WX} {E : EX} {elt it : Expr} {n n2 y : Str} {np np2 pos tpos spos py : Pos} {kk : Nat} {ifs : List Expr} {sc : Scope} {ti : TI} {wi : WI} {wt : WT} {we : WEx}
theorem ssetlc (nd : X.N.Nodup) (iy : Nat) (own : List (Str × Nat)) (i : Nat) {vs : List Nat} (hi : DIt X W E (.Name n np) it ti wi) (hg : ∀ u J C cl fp, PG (X.blk u J sc (compEnvC sc cl C X.env) fp) (.Name n np) (gName i)) (ht : ∀ u J C cl fp, ∃ tt, DTs (X.blk u J sc (compEnvC sc cl C X.env) fp) noW noE ifs tt wt)
    (he : ∀ u J C cl fp, ∃ te, DE (X.blk u J sc (compEnvC sc cl C X.env) fp) noW noE elt te we) (hc : X.calm = true := by rfl) (hvs : own.map (·.2) = vs := by rfl) (ok : blkC X.N X.env.scope sc own = true := by rfl) (hv : i ∈ own.map (·.2) := by decide) (hs : ∀ x, foldedSetIterable it X.env x = pure x := by intro _; rfl)
    (hy : X.N[iy]? = some y := by rfl) (hyl : X.env.scope.names.lookup y = some .local := by rfl) (hk : X.env.scope.kind = .function := by rfl) (hl : (py.line == pos.line) = true := by rfl) (ha : (sc.names.any fun (n, k) => n == y && (k == .local || k == .cell)) = false := by rfl) :
    DS X W E (.Assign [.Name y py] (.ListComp elt [⟨.Name n np, it, ifs, 0⟩] sc pos) spos) (tAsg (tLc ti (gName i) (tOfT X.K noW noE wt) (tOfE X.K noW noE we) vs) (gName iy)) (wAsg (wLc wi i vs wt we) (gN iy)) := by
  subst hvs
  exact ⟨ps_setLc hc nd hy hyl (sw_true hk hyl hl ha) hi.pe (blkOk_by ok) hg (fun u J C cl fp => (ht u J C cl fp).elim fun _ h => h.of) (fun u J C cl fp => (he u J C cl fp).elim fun _ h => h.of) hs, dn_asg (dn_lcN hi.dn dn_ofT dn_ofE hv) dg_name⟩
theorem ssetlcF (nd : X.N.Nodup) (iy : Nat) (own : List (Str × Nat)) (i : Nat) {vs : List Nat} (hi : DIt X W E (.Name n np) it ti wi) (hg : ∀ u J C cl fp, PG (X.blk u J sc (compEnvC sc cl C X.env) fp) (.Name n np) (gName i)) (ht : ∀ u J C cl fp, ∃ tt, DTs (X.blk u J sc (compEnvC sc cl C X.env) fp) noW noE ifs tt wt)
    (he : ∀ u J C cl fp, ∃ te, DE (X.blk u J sc (compEnvC sc cl C X.env) fp) noW noE elt te we) (hc : X.calm = true := by rfl) (hvs : own.map (·.2) = vs := by rfl) (ok : blkC X.N X.env.scope sc own = true := by rfl) (hv : i ∈ own.map (·.2) := by decide) (hs : ∀ x, foldedSetIterable it X.env x = pure x := by intro _; rfl)
    (hy : X.N[iy]? = some y := by rfl) (hyl : X.env.scope.names.lookup y = some .local := by rfl) (hk : X.env.scope.kind = .function := by rfl) (hl : (py.line == pos.line) = true := by rfl) (ha : (sc.names.any fun (n, k) => n == y && (k == .local || k == .cell)) = false := by rfl) :
    DS X W E (.Assign [.Name y py] (.ListComp elt [⟨.Name n np, it, ifs, 0⟩] sc pos) spos) (tAsg (tLc ti (gName i) (tOfT X.K noW noE wt) (tOfE X.K noW noE we) vs) (gName iy)) (wAsg (wFrz (wLc wi i vs wt we)) (gN iy)) := by
  subst hvs
  exact ⟨ps_setLc hc nd hy hyl (sw_true hk hyl hl ha) hi.pe (blkOk_by ok) hg (fun u J C cl fp => (ht u J C cl fp).elim fun _ h => h.of) (fun u J C cl fp => (he u J C cl fp).elim fun _ h => h.of) hs, dn_asg (dn_frz (dn_lcN hi.dn dn_ofT dn_ofE hv)) dg_name⟩
end
/-! ### words for the pure part -/
/-- a comprehension that draws: the items by a property, the store by the invariant S -/
theorem lc_draw {wi : WI} {i : Nat} {vs : List Nat} {te : WEx} {ρ : En} {μ : Mu} {Q : D → Mu → Prop} {p0 : Addr} {S : List D → Prop} {st0 : List D} {P : D → Prop} {L : List D}
    (h0 : μ p0 = some (.lst st0)) (hs : S st0) (hw : ∀ R : Wk → Mu → Prop, (∀ k : Wk, k.items = L → (∀ st p l, μ p = none → k.ok (um (um μ p0 (.lst st)) p (.lst l))) → R k μ) → wi ρ μ R) (hz : L.length < 100000)
    (he : ∀ d ∈ L, ∀ p l st R, μ p = none → S st → (∀ e st', P e → S st' → R e (um (um μ p0 (.lst st')) p (.lst l))) → te ((wip ρ vs).set i (some d)) (um (um μ p0 (.lst st)) p (.lst l)) R)
    (q : ∀ l st p, μ p = none → p ≠ p0 → l.length = L.length → (∀ e ∈ l, P e) → S st → Q (.mut p) (um (um μ p0 (.lst st)) p (.lst l))) : wLc wi i vs wYes te ρ μ Q := by
  refine hw _ fun k hk hok p hp => ⟨fun j μ' => ∃ st l, μ' = um (um μ p0 (.lst st)) p (.lst l) ∧ S st ∧ l.length = j ∧ ∀ e ∈ l, P e, ⟨st0, [], by rw [um_id h0], hs, rfl, fun e he => nomatch he⟩, fun j μ' ⟨st, l, e, _⟩ => by rw [e]; exact hok st p l hp, ?_, ?_⟩
  · rintro j d μ' hd ⟨st, l, rfl, hst, hl, hP⟩
    rw [hk] at hd
    have hj := (List.getElem?_eq_some_iff.mp hd).1
    simp only [wYes, if_true]
    refine he d (List.mem_of_getElem? hd) p l st _ hp hst fun e st' hPe hst' => ⟨l, um_same, by omega, st', l ++ [e], by rw [um_um], hst', by rw [List.length_append, hl]; rfl, fun x hx => ?_⟩
    rcases List.mem_append.mp hx with hx | hx
    · exact hP x hx
    · rw [List.mem_singleton.mp hx]; exact hPe
  · rintro μ' ⟨st, l, rfl, hst, hl, hP⟩
    rw [hk] at hl
    have hne : p ≠ p0 := fun e => by rw [e, h0] at hp; cases hp
    exact q l st p hp hne hl hP hst
end DL
set_option maxHeartbeats 1000000
namespace DL
open PySem L2 PySem.Spec PyProof.Rows
/-! ### lists of tuples of whole numbers, as the model's own data -/
def pI (s : List Int) : PyData := .tuple (s.map .int)
theorem toPs_ints : ∀ s : List Int, toPs (s.map D.int) = some (s.map .int)
  | [] => rfl
  | a :: s => by
    show ((toP (.int a)).bind fun x => (toPs (s.map D.int)).map fun xs => x :: xs) = _
    rw [toPs_ints s]; rfl
theorem toP_tup (s : List Int) : toP (.tup (s.map D.int)) = some (pI s) := by
  show (toPs (s.map D.int)).map PyData.tuple = _
  rw [toPs_ints]; rfl
theorem toPs_tups : ∀ L : List (List Int), toPs (L.map fun s => D.tup (s.map D.int)) = some (L.map pI)
  | [] => rfl
  | s :: L => by
    show ((toP (.tup (s.map D.int))).bind fun x => (toPs (L.map fun s => D.tup (s.map D.int))).map fun xs => x :: xs) = _
    rw [toPs_tups L, toP_tup]; rfl
theorem lay_ints : ∀ s : List Int, PyData.canLayAll0 (s.map .int) = true
  | [] => by simp [PyData.canLayAll0]
  | a :: s => by simp [PyData.canLayAll0, PyData.canLay0, lay_ints s]
theorem dep_ints : ∀ s : List Int, PyData.depthAll (s.map .int) = 0
  | [] => by simp [PyData.depthAll]
  | a :: s => by simp [PyData.depthAll, PyData.depth, dep_ints s]
theorem lay_tups : ∀ L : List (List Int), PyData.canLayAll0 (L.map pI) = true
  | [] => by simp [PyData.canLayAll0]
  | s :: L => by simp [PyData.canLayAll0, pI, PyData.canLay0, lay_ints, lay_tups L]
theorem dep_tups : ∀ L : List (List Int), PyData.depthAll (L.map pI) ≤ 1
  | [] => by simp [PyData.depthAll]
  | s :: L => by
    have := dep_tups L
    have e : PyData.depth (pI s) = 1 := by simp [pI, PyData.depth, dep_ints]
    rw [List.map_cons, PyData.depthAll, e]
    omega
theorem shaped_tup (s : List Int) : SeqAt.shaped (pI s) = true := by
  unfold SeqAt.shaped pI
  rw [PyData.canLay0, PyData.depth, lay_ints, dep_ints]; rfl
theorem shaped_tups (L : List (List Int)) : SeqAt.shaped (.list (L.map pI)) = true := by
  have := dep_tups L
  unfold SeqAt.shaped
  rw [PyData.canLay0, PyData.depth, lay_tups, Bool.true_and]
  exact decide_eq_true (by omega)
theorem shaped_ints (s : List Int) : SeqAt.shaped (.list (s.map .int)) = true := by
  unfold SeqAt.shaped
  rw [PyData.canLay0, PyData.depth, lay_ints, dep_ints]; rfl
theorem eqv_ints : ∀ a b : List Int, PyData.eqvAll (a.map .int) (b.map .int) = decide (a = b)
  | [], [] => by simp [PyData.eqvAll]
  | [], b :: t => by simp [PyData.eqvAll]
  | a :: s, [] => by simp [PyData.eqvAll]
  | a :: s, b :: t => by
    rw [List.map_cons, List.map_cons, PyData.eqvAll, eqv_ints s t, PyData.eqv]
    by_cases c : a = b
    · subst c; simp
    · simp [c]
theorem eqv_tup (a b : List Int) : PyData.eqv (pI a) (pI b) = decide (a = b) := by
  unfold pI
  rw [PyData.eqv, eqv_ints]
theorem any_tup (L : List (List Int)) (s : List Int) : ((L.map pI).any fun z => PyData.eqv z (pI s)) = decide (s ∈ L) := by
  induction L with
  | nil => simp
  | cons a L ih =>
    rw [List.map_cons, List.any_cons, ih, eqv_tup]
    by_cases c : a = s
    · subst c; simp
    · have : s ≠ a := fun e => c e.symm
      simp [c, this]
/-- == of lists of such, of whole numbers with the empty list -/
theorem eqv_tups : ∀ L M : List (List Int), PyData.eqvAll (L.map pI) (M.map pI) = decide (L = M)
  | [], [] => by simp [PyData.eqvAll]
  | [], b :: t => by simp [PyData.eqvAll]
  | a :: s, [] => by simp [PyData.eqvAll]
  | a :: s, b :: t => by
    rw [List.map_cons, List.map_cons, PyData.eqvAll, eqv_tups s t, eqv_tup]
    by_cases c : a = b
    · subst c; simp
    · simp [c]
end DL
set_option maxHeartbeats 1000000
namespace DL
open PySem L2 PySem.Spec PyProof.Rows
/-! ### == of a list cell with data; xs + ys as a cell -/
def fEqL : F2 := fun x y μ Q => ∃ l ds e, lvr μ x = some l ∧ toPs l = some ds ∧ toP y = some e ∧ SeqAt.shaped (.list ds) = true ∧ SeqAt.shaped e = true ∧ Q (.bl (PyData.eqv (.list ds) e)) μ
theorem do_eqL {K : PySem.W.Frag} : DOp K (rEqD K) fEqL := by
  intro F μ H x y dx dy Q0 Q s d1 d2 ⟨l, ds, e, h1, h2, h3, h4, h5, h⟩ q
  exact ⟨.list ds, e, in_ok s d1 h1 h2, dp_of s.sub d2 h3, h4, h5, q F μ H (.bl _) _ Grow.refl s rfl h⟩
def fCatM : F2 := fun x y μ Q => ∃ l m, lv μ x = some l ∧ lv μ y = some m ∧ l.length + m.length ≤ 100000 ∧ ∀ p, μ p = none → Q (.mut p) (um μ p (.lst (l ++ m)))
theorem do_catM {K : PySem.W.Frag} : DOp K rCat fCatM := by
  intro F μ H x y dx dy Q0 Q s d1 d2 ⟨l, m, el, em, hz, h⟩ q
  obtain ⟨a, xs, rfl, ha, dl⟩ := lv_ok s d1 el
  obtain ⟨b, ys, rfl, hb, dm⟩ := lv_ok s d2 em
  refine ⟨a, b, xs, ys, rfl, rfl, ha, hb, sz5 (by rw [dl.len, dm.len]; exact hz), fun p hp => ?_⟩
  have f := s.free hp
  exact q F _ _ (.mut p) _ Grow.refl (s.cell (o := .lst (xs ++ ys)) (m := .lst (l ++ m)) f.1 ⟨_, upd_same, dl.append dm⟩) rfl (h p f.2)
theorem ecatM {X : Cx} {W : WX} {E : EX} {a b : Expr} {ta tb : TE} {wa wb : WEx} {pos : Pos} (ha : DE X W E a ta wa) (hb : DE X W E b tb wb) : DE X W E (.BinOp a .Add b pos) (tOp rCat ta tb) (wOp fCatM wa wb) := eo op_cat do_catM ha hb
end DL
set_option maxHeartbeats 4000000
namespace DL
open PySem L2 PySem.Spec PyProof.Rows HotX L2H
/-! ### a def called where an exception of the class C, with the dict dx, is handled -/
/-- the exception at a, of the class C, is handled in X -/
def HotX (X : Cx) (a C : Addr) (dx : Option Addr) : Prop := ∃ oe, (a, oe) ∈ X.pn ∧ Hot1 X.A (a, oe) ∧ L2N.Zn (.ref C) dx oe
theorem HotX.c {X : Cx} {a C : Addr} {dx : Option Addr} (h : HotX X a C dx) : HotC X := let ⟨oe, m, h1, _⟩ := h; ⟨(a, oe), h1, m⟩
structure FnXC (P : Program) (w : World) (K : PySem.W.Frag) (mg : Str → Option Value) (base : Heap) (CX : CXT) (k : Nat) (f : Addr) (fd : FuncData) (ps : List Str) (sp : Addr → Addr → Option Addr → Sp) : Prop where
  len : ∀ a C dx vs H Q E, sp a C dx vs H Q E → vs.length = ps.length
  run : ∀ (A : Around) (outer : List Env) (s : Shared) (H : Hp) (args : Args) (us : List Value) (vs : List V) (Q : VK) (E : XK) (p : Addr × Obj) (C : Addr) (dx : Option Addr), RoomH k A → Hot1 A p → L2N.Zn (.ref C) dx p.2 → PinOk outer H s p → Env0 P w K mg base A outer s H →
    BindsTo s fd args (ps.zip us) → Vals vs us → sp p.1 C dx vs H Q E → codeAny (model P w) A (.call (.ref f) args) (CR CX outer P w H s Q E) s
section
variable {P : Program} {w : World} {K : PySem.W.Frag} {mg : Str → Option Value} {base : Heap}
theorem fnXC_of {x qual : Str} {st : Stmt} {f : Addr} {fd : FuncData} {N ps : List Str} {k : Nat} {CX : CXT} {sp : Addr → Addr → Option Addr → Sp} (F : Fun K x qual st f fd) (S : FnScope N ps (defScope st)) (len : ∀ a C dx vs H Q E, sp a C dx vs H Q E → vs.length = ps.length)
    (hb : ∀ (cdv : Value) (A : Around) (outer : List Env) (s : Shared) (H : Hp) (vs : List V) (Q : VK) (E : XK) (p : Addr × Obj) (C : Addr) (dx : Option Addr), Hot1 A p → L2N.Zn (.ref C) dx p.2 → RoomH k (A.deeper (envOfC qual (defScope st) s.heap.objs.size f cdv)) → sp p.1 C dx vs H Q E →
      ∃ t, PSs (cxH CX P w K mg base N qual (defScope st) f cdv A outer s H E p) (defBody st) t ∧ t { nx := fun _ H' => Q .non H', rt := Q } (L2.start N vs) H) : FnXC P w K mg base CX (k + 1) f fd ps sp := by
  obtain ⟨oc, od, kV, dc, pm, an, cv, ct, sl, rfl, lk, hcd⟩ := F.ex
  refine ⟨len, fun A outer s H args us vs Q E p C dx hr hot hz hpin e0 hbd r hsp => ?_⟩
  have hlen := len _ _ _ _ _ _ _ hsp
  have inK : K.In s.heap := e0.mod.kin.keeps fun b o e => (e0.bs b o e).1
  refine codeAny_call_function hr.depth (inK _ _ lk) rfl S.co S.gen rfl (PySem.W.codeRec_of inK hcd) (hbd _ _ _ _ ?_)
  refine wpAny_newFunctionEnv_cells S.kind (fun ⟨n, v⟩ hy => ?_) fun env he s1 x => ?_
  · rcases S.par n (List.of_mem_zip hy).1 with q | q
    · exact .inl q
    · exact .inr ⟨q, PySem.W.cellsFrom_some _ _ _ (.inl q)⟩
  subst he
  refine ⟨(e0.mod.nolimit.keeps fun b o e => (e0.bs b o e).1).keeps x.toInCall.keep, codeAny_func ?_⟩
  obtain ⟨t, ht, hq⟩ := hb cv A outer s H vs Q E p C dx hot hz (hr.deeper _) hsp
  have I := inv_startH (CX := CX) (E := E) S hpin e0 hlen r x
  refine wpAny_mono (ht.run [] s1 (L2.start N vs) H _ I hq) (fun fl s' hs => ?_) fun e s' hs => hs
  match fl, hs with
  | .ret u, ⟨v, σ', H', J, rv, q⟩ => exact ⟨v, H', J.os, J.bare, J.base, J.hok, rv, q⟩
  | .next, ⟨σ', H', J, q⟩ => exact ⟨V.non, H', J.os, J.bare, J.base, J.hok, rfl, q⟩
  | .brk, ⟨_, _, _, q⟩ => exact q.elim
  | .cont, ⟨_, _, _, q⟩ => exact q.elim
theorem FnXC.call {X : Cx} {k : Nat} {f : Addr} {fd : FuncData} {ps : List Str} {sp : Addr → Addr → Option Addr → Sp} {CX : CXT} {E : L2.St → XK} {a C : Addr} {dx : Option Addr} {x : Str} {q pos : Pos} {e : Expr} {es : List Expr} {t : TA} (F : FnXC X.prog X.w X.K X.mg X.base CX k f fd ps sp) (hr : RoomH k X.A) (hc : HotX X a C dx) (hg : Gl X x) (hm : X.mg x = some (.ref f))
    (hk : PySem.W.keepIn X.K (.ref f) = true) (hb : Binds X.K fd ps []) (hx : ∀ σ, PassesAt CX X σ (E σ)) (ha : PA X (e :: es) t) (hdb : (x == ("__debug__" : Str)) = false) (he : starEach (e :: es) X.env = (false, eval e X.env) :: starEach es X.env) (hpl : (backTo pos (starEach es X.env)).any (·.1) = false) :
    PE X (.Call (.Name x q) (e :: es) [] pos) (tCallS (sp a C dx) E t) := by
  refine ⟨fun pins s σ H Q I h => wpAny_Call_Name_kw (ld_glob I hg hm ?_ hdb)⟩
  refine PySem.W.callWith_K (h₀ := X.base) I.ok.mod.kin hk (thn (ha.run pos pins s σ H _ I h) fun us s1 ⟨vs, H1, I1, r, z⟩ => ⟨I1.kIn, ?_⟩) he hpl
  obtain ⟨oe, hm, h1, hz⟩ := hc
  have bb := hb s1 us I1.kIn (by rw [List.append_nil, ← r.length]; exact F.len _ _ _ _ _ _ _ z)
  rw [List.append_nil] at bb
  have pp := I1.pin (a, oe) (List.mem_append_left _ hm)
  refine wpAny_call (codeAny_mono (F.run X.A X.stack s1 H1 ⟨us, []⟩ us vs Q (E σ) (a, oe) C dx hr h1 hz ⟨pp.1, pp.2.1, fun w => (List.mem_cons.mp (I1.stkSub a w)).elim pp.2.2.1 pp.2.2.2.1, pp.2.2.2.2⟩ I1.env0 bb r z) fun res s' hq => ?_)
  match res, hq with
  | .error er, hq => exact hx σ pins H1 s1 er s' I1 hq
  | .ok (.ret u), hq => exact I1.after hq
end
abbrev CtX := Addr → Addr → Option Addr → Ct
structure DfX (P : Program) (w : World) (K : PySem.W.Frag) (mg : Str → Option Value) (base : Heap) (x : Str) (k : Nat) (ps : List Str) (c : CtX) : Prop where
  ex : ∃ f fd, FnXC P w K mg base (L2N.CX P w) k f fd ps (fun a C dx => spD K (c a C dx)) ∧ mg x = some (.ref f) ∧ PySem.W.keepIn K (.ref f) = true ∧ Binds K fd ps []
section
variable {P : Program} {w : World} {K : PySem.W.Frag} {mg : Str → Option Value} {base : Heap}
theorem okX {x qual : Str} {st : Stmt} {f : Addr} {fd : FuncData} {N ps : List Str} {k : Nat} {c : CtX} (F : Fun K x qual st f fd) (S : FnScope N ps (defScope st)) (hn : ps.length ≤ N.length) (hl : ∀ a C dx ds μ Q E, c a C dx ds μ Q E → ds.length = ps.length) (PC : Addr → Prop) (hPC : ∀ a C dx ds μ Q E, c a C dx ds μ Q E → PC C)
    (hb : ∀ (X : Cx) (W : WX) (E : EX) (cdv : Value) (A : Around) (outer : List Env) (s : Shared) (H : Hp) (Ex : XK) (p : Addr × Obj) (C : Addr) (dx : Option Addr), X = cxH (L2N.CX P w) P w K mg base N qual (defScope st) f cdv A outer s H Ex p → PC C → HotX X p.1 C dx → L2N.Takes X W → PassesOwn (model X.prog X.w) X.A X.env X.xe → RoomH k X.A →
      ∃ t ws, DSs X W E (defBody st) t ws ∧ ∀ ds μ Q E0, c p.1 C dx ds μ Q E0 → E = (fun C fs _ μ => dwx E0 C fs μ) → ws (rets Q) (st0 N.length ds) μ) : FnXC P w K mg base (L2N.CX P w) (k + 1) f fd ps (fun a C dx => spD K (c a C dx)) := by
  refine fnXC_of F S (fun a C dx vs H Q E h => ?_) (fun cdv A outer s H vs Q Ex p C dx hot hz hr h => ?_)
  · obtain ⟨F, μ, ds, Q0, E0, _, dv, hc, _⟩ := h
    rw [dv.len]; exact hl _ _ _ _ _ _ _ hc
  · obtain ⟨F0, μ, ds, Q0, E0, sk, dv, hc, hq, he⟩ := h
    obtain ⟨t, ws, hd, hw⟩ := hb _ (fun cls d _ H => Ex cls d H) (fun C fs _ μ => dwx E0 C fs μ) cdv A outer s H Ex p C dx rfl (hPC _ _ _ _ _ _ _ hc) ⟨p.2, List.mem_cons_self, hot, hz⟩ (L2N.takes_of rfl rfl rfl rfl) (passes_of rfl) hr
    refine ⟨t, hd.pe, hd.dn F0 μ H _ _ (rets Q0) _ ⟨sk, env_start dv (by rw [hl _ _ _ _ _ _ _ hc]; exact hn), fun F' μ' H' ρ σ C d fs g s' _ ex h' => he F' μ' H' C d fs g s' ex h'⟩ (hw ds μ Q0 E0 hc rfl) ⟨fun F' μ' H' ρ' σ' g s' h' => hq F' μ' H' .non .non g s'.ok rfl h', fun F' μ' H' d v g s' dv' h' => hq F' μ' H' d v g s' dv' h', fun F' μ' H' ρ' σ' g s' h' => h'.elim, fun F' μ' H' ρ' σ' g s' h' => h'.elim⟩⟩
end
section
variable {X : Cx} {W : WX} {E : EX} {k : Nat} {ps : List Str} {c : CtX} {x : Str} {p pos : Pos} {e : Expr} {es : List Expr} {tas : TA} {was : WA} {a C : Addr} {dx : Option Addr}
theorem ecallX (tk : L2N.Takes X W) (h : DfX X.prog X.w X.K X.mg X.base x k ps c) (hc : HotX X a C dx) (hr : RoomH k X.A) (ha : DA X W E (e :: es) tas was)
    (hg : Gl X x := by rfl) (hdb : (x == ("__debug__" : Str)) = false := by decide) (he : starEach (e :: es) X.env = (false, eval e X.env) :: starEach es X.env := by rfl) (hpl : (backTo pos (starEach es X.env)).any (·.1) = false := by rfl) :
    DE X W E (.Call (.Name x p) (e :: es) [] pos) (tCallS (spD X.K (c a C dx)) (WE W) tas) (wCall (c a C dx) E was) := by
  obtain ⟨f, fd, G, hm, hk, hb⟩ := h.ex
  exact ⟨G.call hr hc hg hm hk hb (fun σ => L2N.passAt tk σ) ha.pe hdb he hpl, dn_call ha.dn⟩
end
/-! ### isinstance of it; its fields -/
/-- the dict stands -/
def XDict (H : Hp) (dx : Option Addr) : Prop := match dx with
  | none => True
  | some dd => ∃ ys, H dd = some (.xd ys)
theorem inst_at {X : Cx} {pins : List (Addr × Obj)} {σ : L2.St} {H : Hp} {s : Shared} {a C : Addr} {dx : Option Addr} {oe : Obj} (I : Inv X pins σ H s) (hm : (a, oe) ∈ X.pn) (h1 : Hot1 X.A (a, oe)) (hz : L2N.Zn (.ref C) dx oe) (hd : XDict H dx) : ∃ od, PySem.W.InstAt s.heap a oe C od := by
  obtain ⟨_, vs, hv, _⟩ := h1
  have gt := (I.pin (a, oe) (List.mem_append_left _ hm)).1
  obtain ⟨oc, od, oda, osl⟩ := oe
  obtain ⟨e1, e2, _⟩ := hz
  dsimp only at e1 e2 hv
  subst e1 e2 hv
  cases od with
  | none => exact ⟨none, gt, rfl, rfl, trivial⟩
  | some dd =>
    obtain ⟨ys, hy⟩ := hd
    have hx : ObjOk X.prog X.w H s.heap dd (.xd ys) := I.hok dd _ hy
    obtain ⟨mA, ⟨o, es, ep, ho, _⟩, _⟩ := hx
    exact ⟨some o, gt, rfl, rfl, ho⟩
def rIsX (K : PySem.W.Frag) (C a : Addr) (dx : Option Addr) : List V → Hp → VK → Prop := fun xs H Q => ∃ (c : V) (cv : Value) (b : Bool), xs = [.ref a, c] ∧ (∀ u, RelV c u → u = cv) ∧ PySem.W.kitOne K (.ref C) cv = some b ∧ XDict H dx ∧ Q (.bl b) H
section
variable {X : Cx} {W : WX} {E : EX} {a C : Addr} {dx : Option Addr}
theorem call_isX (hc : HotX X a C dx) (ex : ExcC X.K C) : CallR X (.builtin "isinstance") (rIsX X.K C a dx) := by
  intro pins s σ H xs us Q I r h
  obtain ⟨cl, cv, b, rfl, hcv, e, hd, q⟩ := h
  obtain ⟨u1, u2, rfl, r1, r2⟩ := vals2 r
  cases r1
  have ec := hcv _ r2
  subst ec
  obtain ⟨oe, hm, h1, hz⟩ := hc
  obtain ⟨od, J⟩ := inst_at I hm h1 hz hd
  have hcl : (PySem.W.clsIn X.K C).isSome = true := by
    have := ex.hd
    unfold PySem.W.hasDictIn at this
    cases z : PySem.W.clsIn X.K C with
    | none => rw [z] at this; exact absurd this (by simp)
    | some c => rfl
  exact PySem.W.kia_one (PySem.W.kitx_exc (od := od) hcl ex.hg ex.hk ex.hs ex.ha ex.hn ex.ht ex.hm) I.kIn J e (fun z => nomatch z) fun tk => ⟨.bl b, H, I.kept (t' := tk) fun _ _ z => z, rfl, q⟩
def wIsX (b : Bool) (a : Addr) (dx : Option Addr) (w : WEx) : WEx := fun ρ μ Q => w ρ μ fun d μ1 => (∃ ks l, d = .exc a dx ks l) ∧ Q (.bl b) μ1
theorem xdict_of {K : PySem.W.Frag} {F H : Hp} {μ : Mu} {ks : List Str} {l : List D} {v : V} (s : Sok K F μ H) (dv : DV K F (.exc a dx ks l) v) : v = .ref a ∧ XDict H dx := by
  obtain ⟨e, h⟩ := dv
  refine ⟨e, ?_⟩
  rcases h with ⟨rfl, _⟩ | ⟨dd, ys, rfl, h, _⟩
  · trivial
  · exact ⟨ys, s.sub _ _ h⟩
variable {o : Expr} {te : TE} {we : WEx} {p p2 pos : Pos} {Y : Addr} {y : Str} {b : Bool}
theorem dn_isX {K : PySem.W.Frag} {cl : V} {cv : Value} (hv : ∀ u, RelV cl u → u = cv) (hk : PySem.W.kitOne K (.ref C) cv = some b) (he : Dn K W E te we) : Dn K W E (tCB (rIsX K C a dx) (tCons te (tCons (tC cl) tNil))) (wIsX b a dx we) := by
  intro F μ H ρ σ Q0 Q s h q
  refine he F μ H ρ σ _ _ s h fun F1 μ1 H1 d v g1 s1 dv h1 => ?_
  obtain ⟨⟨ks, l, rfl⟩, h1⟩ := h1
  obtain ⟨rfl, hd⟩ := xdict_of s1.ok dv
  exact ⟨cl, cv, b, rfl, hv, hk, hd, q F1 μ1 H1 (.bl b) _ g1 s1 rfl h1⟩
theorem eisX (hc : HotX X a C dx) (ex : ExcC X.K C) (hmi : X.mg "isinstance" = none) (h : ∃ Y, X.mg y = some (.ref Y) ∧ PySem.W.kitOne X.K (.ref C) (.ref Y) = some b) (he : DE X W E o te we) (hg : Gl X "isinstance" := by rfl) (hgy : Gl X y := by rfl) (hdb : (y == ("__debug__" : Str)) = false := by decide)
    (hp : X.mg "isinstance" = none → CallR X (.builtin "isinstance") (rIsX X.K C a dx) → PE X o te → PE X (.Name y p2) (tC (.ref h.choose)) → PE X (.Call (.Name "isinstance" p) [o, .Name y p2] [] pos) (tCB (rIsX X.K C a dx) (tCons te (tCons (tC (.ref h.choose)) tNil))) := by exact fun m z x y => pe_callB z (by rfl) m (by decide +kernel) (pa_cons x (pa_cons y pa_nil))) :
    DE X W E (.Call (.Name "isinstance" p) [o, .Name y p2] [] pos) (tCB (rIsX X.K C a dx) (tCons te (tCons (tC (.ref h.choose)) tNil))) (wIsX b a dx we) :=
  ⟨hp hmi (call_isX hc ex) he.pe (pe_glob hgy h.choose_spec.1 rfl hdb), dn_isX (fun u r => r) h.choose_spec.2 he.dn⟩
theorem eisXB (hc : HotX X a C dx) (ex : ExcC X.K C) (T : String) (hmi : X.mg "isinstance" = none) (hy : X.mg y = none) (hvT : bootBuiltins y = some (.type T)) (hk : PySem.W.kitOne X.K (.ref C) (.type T) = some b) (he : DE X W E o te we) (hg : Gl X "isinstance" := by rfl) (hgy : Gl X y := by rfl)
    (hn : y ≠ "__name__" := by decide) (hdb : (y == ("__debug__" : Str)) = false := by decide)
    (hp : X.mg "isinstance" = none → CallR X (.builtin "isinstance") (rIsX X.K C a dx) → PE X o te → PE X (.Name y p2) (tC (.ty T)) → PE X (.Call (.Name "isinstance" p) [o, .Name y p2] [] pos) (tCB (rIsX X.K C a dx) (tCons te (tCons (tC (.ty T)) tNil))) := by exact fun m z x y => pe_callB z (by rfl) m (by decide +kernel) (pa_cons x (pa_cons y pa_nil))) :
    DE X W E (.Call (.Name "isinstance" p) [o, .Name y p2] [] pos) (tCB (rIsX X.K C a dx) (tCons te (tCons (tC (.ty T)) tNil))) (wIsX b a dx we) :=
  ⟨hp hmi (call_isX hc ex) he.pe (pe_bltn hgy hy hvT rfl hn hdb), dn_isX (fun u r => r) hk he.dn⟩
/-- e.f -/
def tXf (a : Addr) (dx : Option Addr) (f : Str) (te : TE) : TE := fun σ H Q => te σ H fun x H1 => x = .ref a ∧ ∃ (dd : Addr) (fs : List (Str × V)) (v : V), dx = some dd ∧ H1 dd = some (.xd fs) ∧ fs.lookup f = some v ∧ Q v H1
theorem pe_fX (hc : HotX X a C dx) (T : XfC X.K C) {n : Str} (hno : PySem.W.findIn X.K (.ref C) n = some none) (he : PE X o te) (hb : attributeBase o n X.env (eval o X.env) = eval o X.env := by rfl) : PE X (.Attribute o n pos) (tXf a dx n te) := by
  refine ⟨fun pins s σ H Q I h => ?_⟩
  refine attr_of hb (thn (he.run pins s σ H _ I h) fun u s1 ⟨x, H1, I1, rx, ex, dd, fs, v, ed, ea, l, q⟩ => ?_)
  subst ex
  obtain rfl : u = Value.ref a := rx
  subst ed
  obtain ⟨oe, hm, h1, hz⟩ := hc
  obtain ⟨od, J⟩ := inst_at I1 hm h1 hz ⟨fs, ea⟩
  have hx : ObjOk X.prog X.w H1 s1.heap dd (.xd fs) := I1.hok dd _ ea
  obtain ⟨mA, hns, hr⟩ := hx
  obtain ⟨o2, ho, hl⟩ := lookIn_ns hns
  obtain ⟨u, hu, ru⟩ := RelO.some_of (v := v) (o := mA n) (by rw [← l]; exact hr n)
  obtain ⟨j1, j2, j3, _⟩ := J
  have J2 : PySem.W.InstAt s1.heap a oe C (some o2) := ⟨j1, j2, j3, by rw [hz.2.1]; exact ho⟩
  exact HandSPX.exc_get I1.kIn J2 T.ga T.gg T.exC (PySem.W.findObj_own T.hdC hno rfl (by rw [hl, hu])) (handed_of ru) ⟨v, H1, I1.tok _, ru, q⟩
def wXf (a : Addr) (dx : Option Addr) (f : Str) (w : WEx) : WEx := fun ρ μ Q => w ρ μ fun d μ1 => ∃ ks l x, d = .exc a dx ks l ∧ (ks.zip l).lookup f = some x ∧ Q x μ1
theorem lookup_dv {K : PySem.W.Frag} {F : Hp} {f : Str} {x : D} : ∀ {ys : List (Str × V)} {l : List D}, DVs K F l (ys.map (·.2)) → ((ys.map (·.1)).zip l).lookup f = some x → ∃ v, ys.lookup f = some v ∧ DV K F x v
  | [], l, _, e => by
    rw [List.map_nil, List.zip_nil_left] at e
    cases e
  | (k, u) :: ys, l, h, e => by
    cases l with
    | nil =>
      rw [List.zip_nil_right] at e
      cases e
    | cons d l =>
      obtain ⟨v, vs, ev, dv, r⟩ := h
      have e1 : u = v ∧ ys.map (·.2) = vs := by
        rw [List.map_cons] at ev
        exact ⟨(List.cons.inj ev).1, (List.cons.inj ev).2⟩
      obtain ⟨rfl, rfl⟩ := e1
      rw [List.map_cons, List.zip_cons_cons, List.lookup_cons] at e
      rw [List.lookup_cons]
      cases c : f == k with
      | true =>
        rw [c] at e
        cases e
        exact ⟨u, rfl, dv⟩
      | false =>
        rw [c] at e
        exact lookup_dv r e
theorem efX (hc : HotX X a C dx) (T : XfC X.K C) {n : Str} (hno : PySem.W.findIn X.K (.ref C) n = some none) (he : DE X W E o te we) (hb : attributeBase o n X.env (eval o X.env) = eval o X.env := by rfl) : DE X W E (.Attribute o n pos) (tXf a dx n te) (wXf a dx n we) := by
  refine ⟨pe_fX hc T hno he.pe hb, fun F μ H ρ σ Q0 Q s h q => ?_⟩
  refine he.dn F μ H ρ σ _ _ s h fun F1 μ1 H1 d v g1 s1 dv h1 => ?_
  obtain ⟨ks, l, x, rfl, el, h1⟩ := h1
  obtain ⟨rfl, h2⟩ := dv
  rcases h2 with ⟨_, rfl⟩ | ⟨dd, ys, rfl, hf, ek, dl⟩
  · rw [List.zip_nil_right] at el
    cases el
  · subst ek
    obtain ⟨v, hv, dv⟩ := lookup_dv dl el
    exact ⟨rfl, dd, ys, v, rfl, s1.ok.sub _ _ hf, hv, q F1 μ1 H1 x v g1 s1 dv h1⟩
end
/-! ### try: body, except x as n: suite -/
/-- P: the classes that are caught -/
def wTryX (P : Addr → Prop) (i : Nat) (wb : EX → WS) (ws : Addr → Addr → Option Addr → WS) : WS := fun D ρ μ => wb (fun C fs ρ1 μ1 => P C ∧ ∀ a dx, ws a C dx (clrD i D) (ρ1.set i (some (.exc a dx (fs.map (·.1)) (fs.map (·.2))))) μ1) D ρ μ
section
variable {X : Cx} {W : WX} {E : EX} {P : Addr → Prop} {i : Nat} {x n : Str} {c : Value} {np pos pos' : Pos} {body suite : List Stmt} {b₀ : Stmt} {wb : EX → WS} {ws : Addr → Addr → Option Addr → WS}
def tSuiteX (K : PySem.W.Frag) (P : Addr → Prop) (ws : Addr → Addr → Option Addr → WS) : Addr → Value → Option Addr → TS := fun a cls d Ds σ H => ∃ C, cls = .ref C ∧ P C ∧ ∃ F μ ρ D0, S0 K noW noE F μ H ρ σ ∧ ws a C d D0 ρ μ ∧ EndsOk K noW noE F D0 Ds
theorem stryX (tk : L2N.Takes X W) (hP : ∀ C, P C → PySem.W.exmOne X.K (.ref C) c = some true) (hc : Names X x c) (hN : X.N.Nodup)
    (hb : ∀ (W : WX) (E : EX) (pn : List (Addr × Obj)) (xe : Value → Shared → Prop), L2N.Takes (X.tr pn xe) W → ∃ t, DSs (X.tr pn xe) W E body t (wb E))
    (hsu : ∀ (a C : Addr) (dx : Option Addr) (pn : List (Addr × Obj)), P C → HotX (X.suite a pn) a C dx → L2N.Takes (X.suite a pn) noW → ∃ t, DSs (X.suite a pn) noW noE (b₀ :: suite) t (ws a C dx))
    (hs : X.stack = X.env :: X.outer := by rfl) (hf : X.env.frame = some X.env.locals := by rfl) (hi : X.N[i]? = some n := by rfl) (hln : X.env.kindOf n = some .local := by rfl) :
    DS X W E (.Try body [.ExceptHandler (some (.Name x np)) (some n) (b₀ :: suite) pos'] [] [] pos) (fun D σ H => tOfS X.K wb (wAs X.K c i (tSuiteX X.K P ws) W D) D σ H) (wTryX P i wb ws) := by
  have hot : ∀ a C dx oe pn, L2N.Zn (.ref C) dx oe → (∃ vs, oe.data = .fields vs) → HotX (X.suite a ((a, oe) :: pn)) a C dx := fun a C dx oe pn hz ⟨vs, hv⟩ => ⟨oe, List.mem_cons_self, ⟨rfl, vs, hv, hz.2.2 vs hv⟩, hz⟩
  refine ⟨L2N.ps_try_as hs hf hN hi hln hc tk (fun W' pn xe tk' _ => pss_of fun E => hb W' E pn xe tk') (fun a oe cls d pn hz hv => ?_), ?_⟩
  · refine ⟨fun pins s σ H Ds I ⟨C, ec, hPC, F, μ, ρ, D0, s0, hw, e⟩ => ?_⟩
    subst ec
    obtain ⟨t, su⟩ := hsu a C d _ hPC (hot a C d oe pn hz hv) takes_no
    exact su.pe.run pins s σ H Ds I (su.dn F μ H ρ σ D0 Ds s0 hw e)
  · intro F μ H ρ σ D0 Ds s h e
    refine ⟨fun C fs ρ1 μ1 => P C ∧ ∀ a dx, ws a C dx (clrD i D0) (ρ1.set i (some (.exc a dx (fs.map (·.1)) (fs.map (·.2))))) μ1, F, μ, ρ, D0, ⟨s.ok, s.env, fun F1 μ1 H1 ρ1 σ1 C d fs g1 s1 env1 ex1 ⟨hPC, hw⟩ => ?_⟩, h, fun F1 μ1 H1 ρ1 σ1 g1 s1 h1 => e.nx F1 μ1 H1 ρ1 σ1 g1 ⟨s1.ok, s1.env, s.wok.mono g1⟩ h1, e.rt, fun F1 μ1 H1 ρ1 σ1 g1 s1 h1 => e.bk F1 μ1 H1 ρ1 σ1 g1 ⟨s1.ok, s1.env, s.wok.mono g1⟩ h1, fun F1 μ1 H1 ρ1 σ1 g1 s1 h1 => e.ct F1 μ1 H1 ρ1 σ1 g1 ⟨s1.ok, s1.env, s.wok.mono g1⟩ h1⟩
    refine ⟨true, hP C hPC, fun _ a ha => ?_, fun z => nomatch z⟩
    have back : ∀ {N0 : En → Mu → Prop} {N : L2.St → Hp → Prop}, PN X.K W E F N0 N → PN X.K noW noE F1 (fun ρ μ => N0 (ρ.set i none) μ) (fun σ H => N (σ.set i none) H) := fun {N0 N} hn F2 μ2 H2 ρ2 σ2 g2 s2 h2 => hn F2 μ2 H2 _ _ (g1.trans g2) ⟨s2.ok, s2.env.clr, s.wok.mono (g1.trans g2)⟩ h2
    have dv : DV X.K F1 (.exc a d (fs.map (·.1)) (fs.map (·.2))) (.ref a) := by
      refine ⟨rfl, ?_⟩
      rcases ex1 with ⟨rfl, rfl⟩ | ⟨_, dd, ys, rfl, hf, ek, dl⟩
      · exact .inl ⟨rfl, rfl⟩
      · exact .inr ⟨dd, ys, rfl, hf, ek, dl⟩
    exact ⟨C, rfl, hPC, F1, μ1, _, clrD i D0, ⟨s1, env1.set dv, fun _ _ _ _ _ _ _ _ _ _ _ _ z => z.elim⟩, hw a d, back e.nx, fun F2 μ2 H2 d v g2 s2 dv h2 => e.rt F2 μ2 H2 d v (g1.trans g2) s2 dv h2, back e.bk, back e.ct⟩
end
end DL
set_option maxHeartbeats 4000000
namespace DL
open PySem L2 PySem.Spec PyProof.Rows HotX L2H
/-! ### exceptions made by an own __init__ of one assignment -/
/-- self.f = list(x) -/
def spIL (K : PySem.W.Frag) (C : Addr) (f : Str) : Sp := fun vs H Q _ => ∃ a p ys, vs = [.ref a, .ref p] ∧ H a = some (exo a C none) ∧ (SqL K H p ys ∨ SqT K H p ys) ∧
  ∀ l, H l = none → ∀ dx, upd H l (.lst ys) dx = none → dx ≠ a → Q .non (upd (upd (upd H l (.lst ys)) dx (exd dx [(f, .ref l)])) a (exo a C (some dx)))
/-- self.f = x -/
def spIV (K : PySem.W.Frag) (C : Addr) (f : Str) : Sp := fun vs H Q _ => ∃ a y, vs = [.ref a, y] ∧ H a = some (exo a C none) ∧ ∀ dx, H dx = none → dx ≠ a → Q .non (upd (upd H dx (exd dx [(f, y)])) a (exo a C (some dx)))
section
variable {P : Program} {w : World} {K : PySem.W.Frag} {mg : Str → Option Value} {base : Heap}
theorem okI {x qual : Str} {st : Stmt} {f : Addr} {fd : FuncData} {N ps : List Str} {sp : Sp} (F : Fun K x qual st f fd) (S : FnScope N ps (defScope st)) (len : ∀ vs H Q E, sp vs H Q E → vs.length = ps.length)
    (hb : ∀ (X : Cx) (cdv : Value) (A : Around) (outer : List Env) (s : Shared) (H : Hp) (Ex : XK), X = cxOf (L2N.CX P w) P w K mg base N qual (defScope st) f cdv A outer s H Ex →
      ∃ t, PSs X (defBody st) t ∧ ∀ (vs : List V) (H : Hp) (Q : VK) (E : XK), sp vs H Q E → t { nx := fun _ H' => Q .non H', rt := Q } (L2.start N vs) H) : FnOk P w K mg base (L2N.CX P w) 1 f fd ps sp := by
  obtain ⟨oc, od, dc, pm, an, kV, cdv, ct, sl, rfl, lk, hcd⟩ := F.ex
  refine fn_of lk hcd S len (fun A outer s H vs Q Ex hr h => ?_)
  obtain ⟨t, ht, hq⟩ := hb _ _ A outer s H Ex rfl
  exact ⟨t, ht, hq vs H Q Ex h⟩
end
section
variable {X : Cx} {o : Expr} {te : TE} {f p : Str} {p1 p2 p3 p4 p5 p6 pos : Pos} {K : PySem.W.Frag} {C : Addr} {N : List Str}
theorem tIL (T : OexC K C) (hno : PySem.W.findIn K (.ref C) f = some none) (a b : Str) : ∀ (vs : List V) (H : Hp) (Q : VK) (E : XK), spIL K C f vs H Q E →
    tOst K f (tVar 0) (tCB (fun xs H Q => ∃ p ys, xs = [.ref p] ∧ (SqL K H p ys ∨ SqT K H p ys) ∧ ∀ l, H l = none → Q (.ref l) (upd H l (.lst ys))) (tCons (tVar 1) tNil)) { nx := fun _ H' => Q .non H', rt := Q } (L2.start [a, b] vs) H := by
  rintro vs H Q E ⟨c, p, ys, rfl, hc, hs, q⟩
  refine ⟨_, rfl, p, ys, rfl, hs, fun l hl => ⟨_, rfl, c, C, rfl, T, hno, .inl ⟨by rw [upd_ne (ne_of_none hc hl)]; exact hc, fun dx hd hn => q l hl dx hd hn⟩⟩⟩
theorem tIV (T : OexC K C) (hno : PySem.W.findIn K (.ref C) f = some none) (a b : Str) : ∀ (vs : List V) (H : Hp) (Q : VK) (E : XK), spIV K C f vs H Q E →
    tOst K f (tVar 0) (tVar 1) { nx := fun _ H' => Q .non H', rt := Q } (L2.start [a, b] vs) H := by
  rintro vs H Q E ⟨c, y, rfl, hc, q⟩
  exact ⟨_, rfl, _, rfl, c, C, rfl, T, hno, .inl ⟨hc, fun dx hd hn => q dx hd hn⟩⟩
end
end DL
set_option maxHeartbeats 4000000
namespace DL
open PySem L2 PySem.Spec PyProof.Rows HotX L2H
/-! ### raise C(x), C's own __init__ a def that is known -/
/-- the class C, called x in the text, its __init__ keeping sp -/
structure DfI (P : Program) (w : World) (K : PySem.W.Frag) (mg : Str → Option Value) (base : Heap) (x : Str) (C : Addr) (sp : Sp) : Prop where
  ex : ∃ fI fd ps, FnOk P w K mg base (L2N.CX P w) 1 fI fd ps sp ∧ OexC K C ∧ PySem.W.findIn K (.ref C) "__init__" = some (some (.ref fI)) ∧ PySem.W.typeIn K (.ref fI) = some (.type "function") ∧ Binds K fd ps [] ∧ mg x = some (.ref C)
section
variable {X : Cx} {W : WX} {E : EX} {x f : Str} {C : Addr} {sp : Sp} {e : Expr} {es : List Expr} {ta : TA} {wa : WA} {p pos pos' : Pos}
/-- the kit's rule for such a call, with what is needed to catch it (calm) -/
theorem pmk_init (tk : L2N.Takes X W) (D : DfI X.prog X.w X.K X.mg X.base x C sp) (hr : Room 2 X.A) (hg : Gl X x) (ha : PA X (e :: es) ta)
    (hdb : (x == ("__debug__" : Str)) = false) (he : starEach (e :: es) X.env = (false, eval e X.env) :: starEach es X.env) (hpl : (backTo pos (starEach es X.env)).any (·.1) = false) :
    L2N.PMk X (.Call (.Name x p) (e :: es) [] pos) (tMkO C sp [] ta) := by
  obtain ⟨fI, fd, ps, G, T, iC, tI, hb, hm⟩ := D.ex
  intro pins s σ H Q I h
  obtain ⟨nm, q, N, bs, bm, sn, sub, ab, col, dd, k0, k1, k2, k3, k5, hC, hbm⟩ := T.cls
  refine wpAny_Call_Name_kw (ld_glob I hg hm ?_ hdb)
  refine PySem.W.callWith_K (h₀ := X.base) I.ok.mod.kin T.kC (thn (ha.run pos pins s σ H _ I h) fun us s1 ⟨vs, H1, I1, r1, hz, q1⟩ => ⟨I1.kIn, ?_⟩) he hpl
  obtain ⟨hp, g, dr, t, os⟩ := s1
  have le0 : hp.objs.size ≤ hp.objs.size + 1 := Nat.le_succ _
  have q2 := q1 (hp.objs.size + 1) (I1.hok.fresh le0)
  rw [List.append_nil] at q2
  have up : ∀ b o, hp.get? b = some o → ((hp.push (PySem.W.kdv_tup us)).push (PySem.HandSPX.excO C hp.objs.size)).get? b = some o := fun b o z => Heap.get?_push_of_some _ (Heap.get?_push_of_some _ z)
  have at0 : ((hp.push (PySem.W.kdv_tup us)).push (PySem.HandSPX.excO C hp.objs.size)).get? (hp.objs.size + 1) = some (PySem.HandSPX.excO C hp.objs.size) := by heap_get
  have J : Inv X pins σ (upd H1 (hp.objs.size + 1) (exo (hp.objs.size + 1) C none)) ⟨(hp.push (PySem.W.kdv_tup us)).push (PySem.HandSPX.excO C hp.objs.size), g, dr, t, os⟩ := I1.laid (t' := t) up le0 (exo_ok at0)
  have rs : Vals (V.ref (hp.objs.size + 1) :: vs) (Value.ref (hp.objs.size + 1) :: us) := .cons rfl r1
  have bb := hb _ (Value.ref (hp.objs.size + 1) :: us) J.kIn (by rw [List.append_nil, ← rs.length]; exact G.len _ _ _ _ q2)
  rw [List.append_nil] at bb
  have lim : us.length ≤ sizeLine := by
    have := r1.length
    rw [sizeLine_eq]
    omega
  refine wpAny_call (PySem.HandSPX.call_own F.excBase_ValueError (fun Y => PySem.HandSPX.refsVE_contains Y bm hbm) (I1.kIn _ _ hC) (PySem.W.looks_findIn I1.kIn iC) (fun self => PySem.W.bind_fn I1.kIn self tI) lim
    (codeAny_mono (G.run _ X.stack _ _ ⟨.ref (hp.objs.size + 1) :: us, []⟩ (.ref (hp.objs.size + 1) :: us) _ _ (fun _ _ _ => False) (hr.make C us []) (J.env0.make C us []) bb rs q2) fun r s' z => ?_))
  match r, z with
  | .error er, z => exact L2N.passes_call tk (fun _ _ _ _ (y : False) => y.elim) pins σ _ _ er s' J z
  | .ok (.ret u), z =>
    obtain ⟨v, H2, os2, bare2, un2, hok2, rv, ev, d, fs, ea, ed, hd1, q3⟩ := z
    subst ev
    obtain ⟨h2, g2, d2, t2, os'⟩ := s'
    obtain ⟨t0, G0, I3, kG, ge, hoe, na⟩ := mk_end0 (d2 := d2) (t2 := t2) I1 le0 up un2 hok2 os2 bare2 ea ed hd1
    exact ⟨rv, _, _, _, ⟨G0, g2, d2, t2, os'⟩, _, .ref C, some d, rfl, I3, kG, ge, hoe, ⟨rfl, rfl, fun vs hv => by cases hv; rfl⟩, rfl, rfl, na, rfl, bare2, raises_own T.exC T.tyC, q3⟩
/-- raise C(x), C keeping list(x) as f -/
def wRaiseL (C : Addr) (f : Str) (E : EX) (w : WA) : WS := fun _ ρ μ => w ρ μ fun ds μ1 => ∃ d l, ds = [d] ∧ lvr μ1 d = some l ∧ E C [(f, .lst l)] ρ μ1
/-- raise C(x), C keeping x as f -/
def wRaiseV (C : Addr) (f : Str) (E : EX) (w : WA) : WS := fun _ ρ μ => w ρ μ fun ds μ1 => ∃ d, ds = [d] ∧ E C [(f, d)] ρ μ1
theorem sraiseL (tk : L2N.Takes X W) (D : DfI X.prog X.w X.K X.mg X.base x C (spIL X.K C f)) (hr : Room 2 X.A) (ha : DA X W E (e :: es) ta wa) (hg : Gl X x := by rfl) (hc : X.calm = true := by rfl)
    (hdb : (x == ("__debug__" : Str)) = false := by decide) (he : starEach (e :: es) X.env = (false, eval e X.env) :: starEach es X.env := by rfl) (hpl : (backTo pos (starEach es X.env)).any (·.1) = false := by rfl) :
    DS X W E (.Raise (some (.Call (.Name x p) (e :: es) [] pos)) none pos') (fun _ σ H => tMkO C (spIL X.K C f) [] ta σ H fun cls d H' => W cls d σ H') (wRaiseL C f E wa) := by
  refine ⟨L2N.ps_raise hc tk (pmk_init tk D hr hg ha.pe hdb he hpl), fun F μ H ρ σ D0 Ds s h _ => ?_⟩
  refine ha.dn F μ H ρ σ _ _ s h fun F1 μ1 H1 ds vs g1 s1 dvs ⟨d0, l, ed, el, hE⟩ => ?_
  subst ed
  obtain ⟨v, r, rfl, dv, rfl⟩ := dvs
  obtain ⟨q, ys, rfl, sq, dl⟩ := lvr_ok s1.ok dv el
  refine ⟨Nat.le_of_ble_eq_true rfl, fun a ha0 => ⟨a, q, ys, rfl, upd_same, .inl ((Grow.new ha0).sl sq), fun l0 hl dx hdx hne => ?_⟩⟩
  have l0a : l0 ≠ a := fun z => by rw [z, upd_same] at hl; cases hl
  rw [upd_ne l0a] at hl
  have dl0 : dx ≠ l0 := fun z => by rw [z, upd_same] at hdx; cases hdx
  have hdx1 : upd H1 l0 (.lst ys) dx = none := by
    rw [upd_ne dl0] at hdx ⊢
    rwa [upd_ne hne] at hdx
  have eH : upd (del (upd (upd (upd (upd H1 a (exo a C none)) l0 (.lst ys)) dx (exd dx [(f, V.ref l0)])) a (exo a C (some dx))) a) dx (.xd [(f, V.ref l0)]) = upd (upd H1 l0 (.lst ys)) dx (.xd [(f, V.ref l0)]) := by
    funext b
    by_cases c1 : b = dx
    · rw [c1, upd_same, upd_same]
    · rw [upd_ne c1, upd_ne c1]
      by_cases c2 : b = a
      · rw [c2, del_same, upd_ne (Ne.symm l0a), ha0]
      · rw [del_ne c2, upd_ne c2, upd_ne c1]
        by_cases c3 : b = l0
        · rw [c3, upd_same, upd_same]
        · rw [upd_ne c3, upd_ne c3, upd_ne c2]
  refine ⟨rfl, dx, [(f, .ref l0)], upd_same, by rw [upd_ne hne, upd_same], by rw [upd_ne dl0] at hdx1; exact hdx1, ?_⟩
  rw [eH]
  have f1 := s1.ok.free hl
  have S1 := s1.ok.put (o := .lst ys) hl
  have f2 := S1.free hdx1
  have S2 := S1.put (o := .xd [(f, V.ref l0)]) hdx1
  have gg : Grow F1 (upd (upd F1 l0 (.lst ys)) dx (.xd [(f, V.ref l0)])) := (Grow.new f1.1).trans (Grow.new f2.1)
  refine s1.wok _ μ1 _ ρ σ C (some dx) [(f, .lst l)] gg S2 (s1.env.mono gg) (.inr ⟨fun z => (nomatch z), dx, _, rfl, upd_same, rfl, ?_⟩) hE
  exact DVs.cons ⟨l0, ys, rfl, by rw [upd_ne (Ne.symm dl0), upd_same], dl.mono gg⟩ DVs.nil
theorem sraiseV (tk : L2N.Takes X W) (D : DfI X.prog X.w X.K X.mg X.base x C (spIV X.K C f)) (hr : Room 2 X.A) (ha : DA X W E (e :: es) ta wa) (hg : Gl X x := by rfl) (hc : X.calm = true := by rfl)
    (hdb : (x == ("__debug__" : Str)) = false := by decide) (he : starEach (e :: es) X.env = (false, eval e X.env) :: starEach es X.env := by rfl) (hpl : (backTo pos (starEach es X.env)).any (·.1) = false := by rfl) :
    DS X W E (.Raise (some (.Call (.Name x p) (e :: es) [] pos)) none pos') (fun _ σ H => tMkO C (spIV X.K C f) [] ta σ H fun cls d H' => W cls d σ H') (wRaiseV C f E wa) := by
  refine ⟨L2N.ps_raise hc tk (pmk_init tk D hr hg ha.pe hdb he hpl), fun F μ H ρ σ D0 Ds s h _ => ?_⟩
  refine ha.dn F μ H ρ σ _ _ s h fun F1 μ1 H1 ds vs g1 s1 dvs ⟨d0, ed, hE⟩ => ?_
  subst ed
  obtain ⟨v, r, rfl, dv, rfl⟩ := dvs
  refine ⟨Nat.le_of_ble_eq_true rfl, fun a ha0 => ⟨a, v, rfl, upd_same, fun dx hdx hne => ?_⟩⟩
  rw [upd_ne hne] at hdx
  have eH : upd (del (upd (upd (upd H1 a (exo a C none)) dx (exd dx [(f, v)])) a (exo a C (some dx))) a) dx (.xd [(f, v)]) = upd H1 dx (.xd [(f, v)]) := by
    funext b
    by_cases c1 : b = dx
    · rw [c1, upd_same, upd_same]
    · rw [upd_ne c1, upd_ne c1]
      by_cases c2 : b = a
      · rw [c2, del_same, ha0]
      · rw [del_ne c2, upd_ne c2, upd_ne c1, upd_ne c2]
  refine ⟨rfl, dx, [(f, v)], upd_same, by rw [upd_ne hne, upd_same], hdx, ?_⟩
  rw [eH]
  have f1 := s1.ok.free hdx
  have S1 := s1.ok.put (o := .xd [(f, v)]) hdx
  have gg : Grow F1 (upd F1 dx (.xd [(f, v)])) := Grow.new f1.1
  refine s1.wok _ μ1 _ ρ σ C (some dx) [(f, d0)] gg S1 (s1.env.mono gg) (.inr ⟨fun z => (nomatch z), dx, _, rfl, upd_same, rfl, ?_⟩) hE
  exact DVs.cons (dv.mono gg) DVs.nil
end
end DL
set_option maxHeartbeats 4000000
namespace DL
open PySem L2 PySem.Spec PyProof.Rows HotX L2H
/-! ### where an exception is handled: a comprehension over range(n) -/
section
variable {X : Cx}
theorem lc_hotR {pins : List (Addr × Obj)} {s : Shared} {σ : L2.St} {H : Hp} {Q : VK} {elt tg a : Expr} {ifs : List Expr} {sc : Scope} {own : List (Str × Nat)} {pos ps p pr : Pos} {ta : TA} {g : TG} {tt : TT} {te : TE}
    (hot : HotC X) (nd : X.N.Nodup) (I : Inv X pins σ H s) (hgr : Gl X "range") (hmr : X.mg "range" = none) (ha : PA X [a] ta) (ok : BlkOk X.N X.env.scope sc own) (hg : ∀ u J C cl fp, PG (X.blk u J sc (compEnvC sc cl C X.env) fp) tg g)
    (ht : ∀ u J C cl fp, PTs (X.blk u J sc (compEnvC sc cl C X.env) fp) ifs tt) (he : ∀ u J C cl fp, PE (X.blk u J sc (compEnvC sc cl C X.env) fp) elt te) (hs : ∀ x, foldedSetIterable (.Call (.Name "range" p) [a] [] pr) X.env x = pure x)
    (hst : starEach [a] X.env = [(false, eval a X.env)])
    (h : tLc (iRng1 ta) g tt te (own.map (·.2)) σ H Q) : wpAny (model X.prog X.w) X.A (comprehension (.ListComp elt [⟨tg, .Call (.Name "range" p) [a] [] pr, ifs, 0⟩] sc pos) sc X.env ps (newList []) false (eval (.Call (.Name "range" p) [a] [] pr) X.env) none) (EP X pins σ Q) X.xe s := by
  have fr : ∀ y ∈ sc.names, y.2 = .free → ∃ c, X.env.cells.lookup y.1 = some c := fun y hy e => (ok.free y hy e).elim (fun k => I.ok.has _ (.inl k)) fun k => I.ok.has _ (.inr k)
  refine wpAny_comprehension_free (use := none) rfl hs (closure_ok fr) ok.kind (fun y hy e => by rw [ok.uniq y hy, e]) ?_
  refine Call_ (ld_blt I hgr hmr boot_range (PyProof.Rows.callWith_type1 (thn (ha.run pr pins s σ H _ I h) fun us s1 ⟨vs, H1, I1, r1, j, ej, j1, j2, q⟩ => ?_) hst rfl))
  subst ej
  obtain ⟨u1, rfl, t1, rfl⟩ := vals1 r1
  refine call_range_1 ?_
  refine wpAny_pyIter_range (IsRange.new ..) (small_one (by omega) (by omega) j1 j2) ?_
  generalize hb : ({ s1 with heap := s1.heap.push { cls := .type "range", data := .fields #[.int 0 (s1.toks), .int j t1, .int 1 (s1.toks + 1)] }, toks := s1.toks + 1 + 1 } : Shared) = sR
  have IR : Inv X pins σ H1 sR := by rw [← hb]; exact I1.kept fun b o e => Heap.get?_push_of_some _ e
  generalize hit : sR.heap.objs.size = it
  have fpI : FpOk X pins H1 it := IR.fpOk (Nat.le_of_eq hit) (IR.hok.fresh (Nat.le_of_eq hit))
  generalize hu2 : ({ sR with heap := sR.heap.push { cls := .type "range_iterator", data := .fields #[rawInt 0, rawInt (Builtin.Range.rangeSize 0 j 1), rawInt 1] } } : Shared) = u2
  have I2 : Inv X pins σ H1 u2 := by rw [← hu2]; exact IR.kept (t' := sR.toks) fun b o e => Heap.get?_push_of_some _ e
  have li2 : IsRangeIter u2.heap it (0 + ((0 : Nat) : Int) * 1) ((j.toNat : Nat) - ((0 : Nat) : Int)) 1 := by
    have e2 : ((j.toNat : Nat) : Int) - ((0 : Nat) : Int) = Builtin.Range.rangeSize 0 j 1 := by rw [rangeSize_one]; split <;> omega
    rw [e2, ← hu2, ← hit]
    exact Heap.get?_push_size _ rfl
  have T := turn_rangeH (P := X.prog) (w := X.w) (K := X.K) (tg := tg) it 0 j.toNat
  refine wpAny_newObj_type (newEnv_comp ?_) (Nat.zero_le _)
  generalize hD : u2.heap.objs.size = D
  have lt2 : it < u2.heap.objs.size := Heap.lt_size li2
  have hDn : H1 D = none := I2.hok.fresh (Nat.le_of_eq hD)
  obtain ⟨W, ⟨m0, w0⟩, turn⟩ := q D hDn
  generalize hu3 : ({ u2 with heap := u2.heap.push { cls := .type "list", data := .seq ([] : List Value).toArray } } : Shared) = u3
  have I3 : Inv X pins σ (upd H1 D (.lst [])) u3 := by
    rw [← hu3]
    refine I2.laid (t' := u2.toks) (fun b o e => Heap.get?_push_of_some _ e) (Nat.le_of_eq hD) ⟨Nat.zero_le _, [], 0, .nil, ?_⟩
    rw [← hD]; exact Heap.get?_push_size _ rfl
  have e3 : u3.heap = u2.heap.push { cls := .type "list", data := .seq ([] : List Value).toArray } := by rw [← hu3]
  have nDi : it ≠ D := by rw [← hD]; exact Nat.ne_of_lt lt2
  have fp3 : ∀ b ∈ [it], FpOk X pins (upd H1 D (.lst [])) b ∧ b < u3.heap.objs.size := fun b hb => by
    obtain rfl : b = it := by simpa using hb
    exact ⟨⟨by rw [upd_ne nDi]; exact fpI.1, fpI.2⟩, by rw [e3, Heap.size_push]; exact Nat.lt_succ_of_lt lt2⟩
  have lt3 := (fp3 it (by simp)).2
  have li3 : IsRangeIter u3.heap it (0 + ((0 : Nat) : Int) * 1) ((j.toNat : Nat) - ((0 : Nat) : Int)) 1 := T.keep 0 _ _ li2 fun b _ o e => by rw [e3]; exact Heap.get?_push_of_some _ e
  have I4 := block_start I3 ok nd fp3
  have pg := hg u3 (upd H1 D (.lst [])) u3.heap.objs.size (cellsFrom (u3.heap.objs.size + 1) sc.names (cloFrom X.env.cells sc.names [])) [it]
  have pt := ht u3 (upd H1 D (.lst [])) u3.heap.objs.size (cellsFrom (u3.heap.objs.size + 1) sc.names (cloFrom X.env.cells sc.names [])) [it]
  have pe := he u3 (upd H1 D (.lst [])) u3.heap.objs.size (cellsFrom (u3.heap.objs.size + 1) sc.names (cloFrom X.env.cells sc.names [])) [it]
  show codeAny _ _ (.compStart (.ListComp elt [⟨tg, .Call (.Name "range" p) [a] [] pr, ifs, 0⟩] sc pos) 0 (.ref it) (.ref D) (compEnvC sc (cellsFrom (u3.heap.objs.size + 1) sc.names (cloFrom X.env.cells sc.names [])) u3.heap.objs.size X.env)) (compPost (model X.prog X.w) X.A X.xe none (EP X pins σ Q) (.ref D) u3.heap.objs.size) { u3 with heap := pushCells (u3.heap.push { cls := .type "dict", data := .dict #[] }) sc.names }
  generalize hce : compEnvC sc (cellsFrom (u3.heap.objs.size + 1) sc.names (cloFrom X.env.cells sc.names [])) u3.heap.objs.size X.env = ce at I4 pg pt pe ⊢
  have cL : ce.locals = u3.heap.objs.size := by subst hce; rfl
  generalize hH3 : upd H1 D (.lst []) = H3 at I3 I4 pg pt pe w0 fp3
  generalize hu4 : ({ u3 with heap := pushCells (u3.heap.push { cls := .type "dict", data := .dict #[] }) sc.names } : Shared) = u4 at I4 ⊢
  have li4 : IsRangeIter u4.heap it (0 + ((0 : Nat) : Int) * 1) ((j.toNat : Nat) - ((0 : Nat) : Int)) 1 := T.keep 0 _ _ li3 fun b _ o e => by rw [← hu4]; exact pushCells_keeps _ _ _ _ (Heap.get?_push_of_some _ e)
  have stat : ∀ {τ : L2.St} {H' : Hp} {u : Shared}, Inv (X.blk u3 H3 sc ce [it]) [] τ H' u → H' it = none → ∀ b ∈ [it], FpOk (X.blk u3 H3 sc ce [it]) [] H' b := fun {τ H' u} J hn b hb => by
    obtain rfl : b = it := by simpa using hb
    exact ⟨hn, (J.ok.exf b hb).1, J.ok.exfs b hb, .inl hb, fun x c e => (J.ok.exf b hb).2 x c e, fun p hp => absurd (show p ∈ ([] : List (Addr × Obj)) ++ [] from hp) (by simp)⟩
  have loop : codeAny (model X.prog X.w) X.A (.compLoop (.ListComp elt [⟨tg, .Call (.Name "range" p) [a] [] pr, ifs, 0⟩] sc pos) 0 (.ref it) (.ref D) ce) (compPost (model X.prog X.w) X.A X.xe none (EP X pins σ Q) (.ref D) u3.heap.objs.size) u4 := by
    refine compLoop_any (fun n u => ∃ i H', Inv (X.blk u3 H3 sc ce [it]) [] (wipe σ (own.map (·.2))) H' u ∧ IsRangeIter u.heap it (0 + ((i : Nat) : Int) * 1) ((j.toNat : Nat) - ((i : Nat) : Int)) 1 ∧ H' it = none ∧ W i n H') ?_ m0 ⟨0, H3, I4, li4, (fp3 it (by simp)).1.1, w0⟩
    rintro n u5 ⟨i, H5, I5, li5, n5, w5⟩
    rcases turn i n H5 w5 with ⟨stop, qq⟩ | ⟨go, Nx, hNx, step⟩
    · have stop : j.toNat ≤ i := stop
      have hf := (fp3 it (by simp)).1
      have I7 : Inv X pins σ H5 u5 := I3.call' (ch := [it]) I5.os I5.base I5.hok I5.bare fun b hb => by
        obtain rfl : b = it := by simpa using hb
        exact ⟨hf.2.2.2.1, hf.2.1, hf.2.2.2.2.1, hf.2.2.2.2.2⟩
      obtain ⟨pp, ⟨hh, v1, d1, c1⟩, hp⟩ := hot
      have nC : H5 u3.heap.objs.size = none := by have z : H5 ce.locals = none := I5.free; rw [cL] at z; exact z
      obtain ⟨m, hn, _⟩ := I5.loc
      have hn : u5.heap.Ns ce.locals m := hn
      rw [cL] at hn
      refine HotX.pyNext_range_end_hot (x1 := pp.1) ⟨hh, pp.2, v1, (I7.pin pp (List.mem_append_left _ hp)).1, d1, c1⟩ li5 (by omega) fun h' kk => ?_
      have I8 : Inv X pins σ H5 { u5 with heap := h' } := I7.turned (it := it) (t' := u5.toks) (fun b o _ e => kk b o e) n5 hf.2.1 hf.2.2.2.1 hf.2.2.2.2.1 hf.2.2.2.2.2
      have fC : FpOk X pins H5 u3.heap.objs.size := I3.fpOk (Nat.le_refl _) nC
      obtain ⟨o, es, ep, eo, dd, rr⟩ := hn
      refine ⟨m, ⟨o, es, ep, kk _ o eo, dd, rr⟩, fun h'' sb => ?_⟩
      exact ⟨.ref D, H5, I8.turned (t' := u5.toks) (fun b o hb e => (sb.2 b hb).trans e) fC.1 fC.2.1 fC.2.2.2.1 fC.2.2.2.2.1 fC.2.2.2.2.2, rfl, qq⟩
    · have go : i < j.toNat := go
      obtain ⟨f0, f1, f2, f3, f4, f5⟩ := stat I5 n5 it (by simp)
      refine wpAny_pyNext_range_item li5 (by omega) fun h6 li6' sb => ?_
      have li6 : IsRangeIter h6 it (0 + ((i + 1 : Nat) : Int) * 1) ((j.toNat : Nat) - ((i + 1 : Nat) : Int)) 1 := by
        have e1 : (0 : Int) + ((i : Nat) : Int) * 1 + 1 = 0 + ((i + 1 : Nat) : Int) * 1 := by omega
        have e2 : ((j.toNat : Nat) : Int) - ((i : Nat) : Int) - 1 = ((j.toNat : Nat) : Int) - ((i + 1 : Nat) : Int) := by omega
        rw [← e1, ← e2]
        exact li6'
      have I6 : Inv (X.blk u3 H3 sc ce [it]) [] (wipe σ (own.map (·.2))) H5 { u5 with heap := h6, toks := u5.toks + 1 } := I5.turned (it := it) (t' := u5.toks + 1) (fun b o hb e => (sb.2 b hb).trans e) f0 f1 f3 f4 f5
      refine go_of (s := { u5 with heap := h6, toks := u5.toks + 1 }) (n := "range_iterator") li6 rfl rfl (by decide) ?_
      have I6' := I6.pinned (stat I6 n5) (T.obj (i + 1) h6 li6)
      have yl : (Itr 0 j.toNat).yld i H5 (V.int (0 + (i : Nat))) H5 := ⟨rfl, rfl⟩
      have ru : RelV (V.int (0 + (i : Nat))) (.int (0 + ((i : Nat) : Int) * 1) u5.toks) := ⟨u5.toks, by rw [Int.mul_one]⟩
      refine thnF (pg.run _ _ _ H5 _ _ _ I6' ru (step _ H5 yl)) fun _ u8 ⟨σ8, H8, I8, hw8, q8⟩ => ?_
      refine thnF (pt.run _ u8 σ8 H8 _ I8 q8) fun b u9 ⟨H9, I9, q9⟩ => ?_
      have fin : ∀ {u : Shared} {H' : Hp}, Inv (X.blk u3 H3 sc ce [it]) ([] ++ pinsAt [it] h6) σ8 H' u → Nx H' → ∃ m, m < n ∧ ∃ i H', Inv (X.blk u3 H3 sc ce [it]) [] (wipe σ (own.map (·.2))) H' u ∧ IsRangeIter u.heap it (0 + ((i : Nat) : Int) * 1) ((j.toNat : Nat) - ((i : Nat) : Int)) 1 ∧ H' it = none ∧ W i m H' := fun {u H'} J nx => by
        obtain ⟨m', hm, w'⟩ := hNx H' nx
        have pp := J.pin (it, _) (List.mem_append_right _ (List.mem_append_right _ (mem_pinsAt (by simp) li6)))
        have ll : (wipe σ (own.map (·.2))).length = σ8.length := by rw [← hw8, wipe_length]
        exact ⟨m', hm, i + 1, H', (J.unpinned (pins := [])).weak ll (fun j v e => by rw [← hw8] at e; exact (wipe_some e).1), pp.1, pp.2.1, w'⟩
      cases b with
      | false =>
        simp only [Bool.false_eq_true, if_false] at q9 ⊢
        exact fin I9 q9
      | true =>
        simp only [if_true] at q9 ⊢
        refine thnF (pe.run _ u9 σ8 H9 _ I9 q9) fun z u10 ⟨yv, H10, I10, r10, acc, hD10, hz10, nx⟩ => ?_
        exact app_ok (X := X.blk u3 H3 sc ce [it]) I10 hD10 hz10 r10 fun u11 I11 => fin I11 nx
  exact codeAny_compStart_list loop (T.self X.A 0 _ _ _ li4 loop)
theorem pe_lcHR {elt tg a : Expr} {ifs : List Expr} {sc : Scope} {own : List (Str × Nat)} {pos p pr : Pos} {ta : TA} {g : TG} {tt : TT} {te : TE} (hot : HotC X) (nd : X.N.Nodup) (hgr : Gl X "range") (hmr : X.mg "range" = none) (ha : PA X [a] ta) (ok : BlkOk X.N X.env.scope sc own)
    (hg : ∀ u J C cl fp, PG (X.blk u J sc (compEnvC sc cl C X.env) fp) tg g) (ht : ∀ u J C cl fp, PTs (X.blk u J sc (compEnvC sc cl C X.env) fp) ifs tt) (he : ∀ u J C cl fp, PE (X.blk u J sc (compEnvC sc cl C X.env) fp) elt te) (hs : ∀ x, foldedSetIterable (.Call (.Name "range" p) [a] [] pr) X.env x = pure x)
    (hst : starEach [a] X.env = [(false, eval a X.env)]) :
    PE X (.ListComp elt [⟨tg, .Call (.Name "range" p) [a] [] pr, ifs, 0⟩] sc pos) (tLc (iRng1 ta) g tt te (own.map (·.2))) := ⟨fun pins s σ H Q I h => by rw [eval_ListComp]; exact lc_hotR hot nd I hgr hmr ha ok hg ht he hs hst h⟩
end
section
variable {X : Cx} {W : WX} {E : EX} {elt a : Expr} {n : Str} {np pos p pr : Pos} {ifs : List Expr} {sc : Scope} {own : List (Str × Nat)} {ta : TA} {wa : WA} {wt : WT} {we : WEx}
theorem elcHR (hot : HotC X) (nd : X.N.Nodup) (own : List (Str × Nat)) (i : Nat) {vs : List Nat} (hmr : X.mg "range" = none) (hl : DA X W E [a] ta wa) (hg : ∀ u J C cl fp, PG (X.blk u J sc (compEnvC sc cl C X.env) fp) (.Name n np) (gName i)) (ht : ∀ u J C cl fp, ∃ tt, DTs (X.blk u J sc (compEnvC sc cl C X.env) fp) W E ifs tt wt)
    (he : ∀ u J C cl fp, ∃ te, DE (X.blk u J sc (compEnvC sc cl C X.env) fp) W E elt te we) (hgr : Gl X "range" := by rfl) (hvs : own.map (·.2) = vs := by rfl) (ok : blkC X.N X.env.scope sc own = true := by rfl) (hv : i ∈ own.map (·.2) := by decide) (hs : ∀ x, foldedSetIterable (.Call (.Name "range" p) [a] [] pr) X.env x = pure x := by intro _; rfl) (hst : starEach [a] X.env = [(false, eval a X.env)] := by rfl) :
    DE X W E (.ListComp elt [⟨.Name n np, .Call (.Name "range" p) [a] [] pr, ifs, 0⟩] sc pos) (tLc (iRng1 ta) (gName i) (tOfT X.K W E wt) (tOfE X.K W E we) vs) (wLc (iR1 wa) i vs wt we) := by
  subst hvs
  exact ⟨pe_lcHR hot nd hgr hmr hl.pe (blkOk_by ok) hg (fun u J C cl fp => (ht u J C cl fp).elim fun _ h => h.of) (fun u J C cl fp => (he u J C cl fp).elim fun _ h => h.of) hs hst, dn_lc (di_r1 hl.dn) dn_ofT dn_ofE hv⟩
end
end DL
set_option maxHeartbeats 4000000
namespace DL
open PySem L2 PySem.Spec PyProof.Rows He
/-! ### a head's facts, defs at any address, with a Bool of one's own -/
abbrev AlZ : Type := AlD × Bool
def obsZ (n : Nat) (fa : List Fa) (fn : List He5.DefA) (ex : PySem.W.Frag → Bool) (g : Addr → Option Obj) : AlZ := (He5.obsA fa fn (frG g (He5.asA g n)), ex (frG g (He5.asA g n)))
def hookZ (n : Nat) (fa : List Fa) (fn : List He5.DefA) (ex : PySem.W.Frag → Bool) : PySem.W.Hook where
  α := AlZ
  obs := fun s => obsZ n fa fn ex s.heap.get?
  val := fun _ => (He5.valA fn, true)
  says := fun _ h => ∃ K : PySem.W.Frag, K.In h ∧ He5.SaysA fa fn K ∧ ex K = true
  of := fun _ _ e => ⟨_, frG_in, congrArg (fun z : AlZ => z.1) e, congrArg (fun z : AlZ => z.2) e⟩
  keeps := fun _ _ _ ⟨K, hK, c⟩ k => ⟨K, PySem.W.Frag.In.keeps hK k, c⟩
theorem obsZ_eq {n : Nat} {fa : List Fa} {fn : List He5.DefA} {ex : PySem.W.Frag → Bool} {g : Addr → Option Obj} {s : Shared} (h : ∀ a, g a = s.heap.get? a) : obsZ n fa fn ex g = (hookZ n fa fn ex).obs s := by
  have e : g = s.heap.get? := funext h
  rw [e] <;> rfl
/-- a global def, a class's method, a property's getter -/
def dfG (x : Str) (st : Stmt) : He5.DefA := { at_ := fun K => ga K x, name := x, qual := x, params := defArgs st, body := defBody st, scope := defScope st }
def dfM (C m q : Str) (st : Stmt) : He5.DefA := { at_ := fun K => ma K (ga K C) m, name := m, qual := q, params := defArgs st, body := defBody st, scope := defScope st }
def dfP (C m q : Str) (st : Stmt) : He5.DefA := { at_ := fun K => He5.wf K (ga K C) "property" m, name := m, qual := q, params := defArgs st, body := defBody st, scope := defScope st }
section
variable {K : PySem.W.Frag} {h : Heap} {mg : Str → Option Value} {fa : List Fa} {fn : List He5.DefA}
theorem funA (c : He5.SaysA fa fn K) {d : He5.DefA} {x q : Str} {st : Stmt} (i : Nat) (hi : fn[i]? = some d) (h1 : d.name = x) (h2 : d.qual = q) (h3 : d.params = defArgs st) (h4 : d.body = defBody st) (h5 : d.scope = defScope st) (h6 : d.dfl = []) : ∃ fd, Fun K x q st (d.at_ K) fd := by
  obtain ⟨fd, F⟩ := c.def_ i hi
  have e : d.dvs K = [] := by unfold He5.DefA.dvs; rw [h6]; rfl
  rw [h1, h2, h3, h4, h5, e] at F
  exact ⟨fd, He5.fun_of F⟩
theorem dfn_ofA (X : K.In h) (G : h.Ns mainGlobals mg) (c : He5.SaysA fa fn K) {x : Str} {st : Stmt} {ps : List Str} (i j : Nat) (hi : fn[i]? = some (dfG x st)) (hj : fa[j]? = some (.glo x))
    (hb : ∀ (kV doc pm : Value) (an : Option Addr) (cdv ct : Value) (us : List Value), us.length = ps.length → bindArgs (PySem.W.fnOf x x (defArgs st) (defBody st) (defScope st) .none kV doc pm an cdv ct) ⟨us, []⟩ = pure (ps.zip us)) : Dfn K mg x x st ps := by
  obtain ⟨fd, F⟩ := funA c i hi (x := x) (q := x) (st := st) rfl rfl rfl rfl rfl rfl
  exact ⟨_, fd, F, glo_ok X G (c.fact j hj), F.binds hb⟩
end
/-! ### classes of errors with an own __init__ -/
def oexB (K : PySem.W.Frag) (C : Addr) : Bool := (match K.lookup C with
  | some ⟨.type "type", _, .cls cd, sl⟩ => (match cd.mro, sl.toList with
    | .ref C' :: bm, [_, _, _, _, some (.builtin n), _] => C' == C && n == "ValueError.__new__" && !cd.hasDel && cd.hasDict && PySem.HandSPX.refsVE bm
    | _, _ => false)
  | _ => false) && (decide (PySem.W.findIn K (.ref C) "__setattr__" = some (some (.builtin "object.__setattr__"))) && (decide (PySem.W.subIn K (.ref C) (.type "BaseException") = some true) && (decide (PySem.W.typeIn K (.ref C) = some (.type "type")) && PySem.W.keepIn K (.ref C))))
theorem oexB_ok {K : PySem.W.Frag} {C : Addr} (h : oexB K C = true) : OexC K C := by
  obtain ⟨q, h⟩ := ba h
  obtain ⟨h1, h⟩ := ba h
  obtain ⟨h2, h⟩ := ba h
  obtain ⟨h3, h4⟩ := ba h
  refine ⟨?_, of_decide_eq_true h1, of_decide_eq_true h2, of_decide_eq_true h3, h4⟩
  clear h1 h2 h3 h4
  split at q
  · rename_i dd cd sl ho
    split at q
    · rename_i C' bm k0 k1 k2 k3 n k5 hm hs
      simp only [Bool.and_eq_true, beq_iff_eq, Bool.not_eq_true'] at q
      obtain ⟨⟨⟨⟨rfl, rfl⟩, hdel⟩, hdict⟩, hve⟩ := q
      obtain ⟨nm, bs, mro, ns, qn, hd, sn, sub, ab, col, del⟩ := cd
      dsimp only at hm hdel hdict
      subst hm hdel hdict
      have hsl : sl = #[k0, k1, k2, k3, some (.builtin "ValueError.__new__"), k5] := by
        obtain ⟨l⟩ := sl
        simp only at hs
        rw [hs]
      subst hsl
      exact ⟨nm, qn, ns, bs, bm, sn, sub, ab, col, dd, k0, k1, k2, k3, k5, ho, hve⟩
    · cases q
  · cases q
/-- C's own __init__ -/
def oinB (K : PySem.W.Frag) (C : Addr) : Bool := decide (PySem.W.findIn K (.ref C) "__init__" = some (some (.ref (ma K C "__init__")))) && decide (PySem.W.typeIn K (.ref (ma K C "__init__")) = some (.type "function"))
/-! ### properties -/
def propB (K : PySem.W.Frag) (C : Addr) (f : Str) : Bool := decide (PySem.W.findIn K (.ref C) f = some (some (.ref (ma K C f)))) && (decide (PySem.W.specialIn K (.ref (ma K C f)) "__get__" = some (some (.builtin "property.__get__"))) && (decide (PySem.W.takesIn K (.ref (ma K C f)) = some true) && (match PySem.W.recIn K (ma K C f) "property" with
  | some (.ref _ :: _) => true
  | _ => false)))
theorem propB_ok {K : PySem.W.Frag} {C : Addr} {f : Str} (h : propB K C f = true) : PropOf K C f (ma K C f) (He5.wf K C "property" f) := by
  obtain ⟨h1, h⟩ := ba h
  obtain ⟨h2, h⟩ := ba h
  obtain ⟨h3, h4⟩ := ba h
  refine ⟨of_decide_eq_true h1, of_decide_eq_true h2, of_decide_eq_true h3, ?_⟩
  unfold He5.wf
  split at h4
  · rename_i g r e
    exact ⟨r, by rw [e]⟩
  · cases h4
end DL
set_option maxHeartbeats 4000000
namespace DL
open PySem L2 PySem.Spec PyProof.Rows He
/-! ### a head's facts in parts: each its own run -/
section
variable {S α β : Type} {Z : Option S} {x : S → α} {y : S → β} {n : Nat} {fa fa2 : List Fa} {fn fn2 : List He5.DefA} {ex ex2 : PySem.W.Frag → Bool} {g : S → Addr → Option Obj} {a : α} {b : β}
theorem run_join (h1 : Z.map (fun s => (x s, y s, obsZ n fa fn ex (g s))) = some (a, b, (He5.valA fn, true))) (h2 : Z.map (fun s => obsZ n fa2 fn2 ex2 (g s)) = some (He5.valA fn2, true)) :
    Z.map (fun s => (x s, y s, obsZ n (fa ++ fa2) (fn ++ fn2) (fun K => ex K && ex2 K) (g s))) = some (a, b, (He5.valA (fn ++ fn2), true)) := by
  cases Z with
  | none => cases h1
  | some s =>
    simp only [Option.map_some, Option.some.injEq, Prod.mk.injEq] at h1 h2 ⊢
    obtain ⟨e1, e2, e3⟩ := h1
    refine ⟨e1, e2, ?_⟩
    unfold obsZ He5.obsA He5.valA at *
    generalize frG (g s) (He5.asA (g s) n) = K at *
    simp only [Prod.mk.injEq, Bool.and_eq_true] at e3 h2 ⊢
    obtain ⟨⟨⟨a1, a2⟩, a3⟩, a4⟩ := e3
    obtain ⟨⟨⟨b1, b2⟩, b3⟩, b4⟩ := h2
    simp only [List.all_append, List.map_append, a1, a2, a3, a4, b1, b2, b3, b4, Bool.and_self, and_self]
theorem run_pair (h1 : Z.map (fun s => (x s, y s)) = some (a, b)) (h2 : Z.map (fun s => obsZ n fa fn ex (g s)) = some (He5.valA fn, true)) :
    Z.map (fun s => (x s, y s, obsZ n fa fn ex (g s))) = some (a, b, (He5.valA fn, true)) := by
  cases Z with
  | none => cases h1
  | some s =>
    simp only [Option.map_some, Option.some.injEq, Prod.mk.injEq] at h1 h2 ⊢
    exact ⟨h1.1, h1.2, h2⟩
end
end DL
set_option maxHeartbeats 0
namespace K14H
open PySem L2 DL PySem.Spec PyProof.Rows
def top (i : Nat) : Stmt := PySem.Challenge.pw_twothick_k14_groups_of_mutual_reach.main.body.getD i (.Pass ⟨0, 0, 0, 0⟩)
def errs : List Str := (["NoTag", "DoubleTag", "TooMany"] : List Str)
abbrev R : PySem.W.OpenRow := PySem.W.OpenLaw.row PySem.Challenge.rw_twothick_k14_groups_of_mutual_reach
def hfn : List He5.DefA := ([dfG "check_web" (top 9), dfG "gathered" (top 11), dfG "reached" (top 12), dfG "laid_out" (top 13), dfG "groups" (top 15), dfG "tangled" (top 16), dfG "_law_mix" (top 18), dfG "_law_store" (top 19), dfG "_law_take" (top 20), dfG "_law_rare" (top 21), dfG "_law_shuffled" (top 22), dfG "_law_web_tags" (top 23), dfG "_law_links" (top 24), dfG "_law_number" (top 25), dfG "_law_same" (top 26), dfG "_law_onward" (top 27), dfG "_law_classes" (top 28), dfG "_law_in_order" (top 29), dfG "_law_planted" (top 30), dfG "_law_drawn" (top 31)] : List He5.DefA) ++ ([dfG "_law_web" (top 32), dfG "_law_right" (top 33), dfG "law" (top 34), dfM "Web" "__init__" "Web.__init__" (inClass (top 8) 0), dfP "Web" "tags" "Web.tags" (inClass (top 8) 1), dfP "Web" "arrows" "Web.arrows" (inClass (top 8) 2)] : List He5.DefA)
def hfa : List He.Fa := ([.glo "check_web", .glo "gathered", .glo "reached", .glo "laid_out", .glo "groups", .glo "tangled", .glo "_law_mix", .glo "_law_store", .glo "_law_take", .glo "_law_rare", .glo "_law_shuffled", .glo "_law_web_tags", .glo "_law_links", .glo "_law_number", .glo "_law_same", .glo "_law_onward", .glo "_law_classes", .glo "_law_in_order", .glo "_law_planted", .glo "_law_drawn", .glo "_law_web", .glo "_law_right", .glo "law", .glo "YardError", .glo "NoTag", .glo "DoubleTag", .glo "TooMany", .glo "Web", .free "len", .free "abs"] : List He.Fa) ++ ([.free "int", .free "list", .free "range", .free "isinstance", .free "bool", .free "str", .free "tuple", .free "dict", .free "set", .free "sorted", .free "min", .int "MOST_TAGS" (40), .noat "Web" "own_arrows", .noat "Web" "own_tags", .mkr "Web", .cls "Web"] : List He.Fa)
def nmK (K : PySem.W.Frag) (a : Addr) : Str := (errs.find? fun n => He.ga K n == a).getD ""
def excB (K : PySem.W.Frag) (C : Addr) : Bool := decide (PySem.W.findIn K (.ref C) "__getattribute__" = some (some (.builtin "BaseException.__getattribute__"))) && (decide (PySem.W.findIn K (.ref C) "__getattr__" = some none) && (decide (PySem.W.subIn K (.ref C) (.type "BaseException") = some true) && (PySem.W.hasDictIn K C && (decide (PySem.W.findIn K (.ref C) "__class__" = some (some (.builtin "object.__class__"))) && (decide (PySem.W.specialIn K (.builtin "object.__class__") "__get__" = some (some (.builtin "getset_descriptor.__get__"))) && (decide (PySem.W.takesIn K (.builtin "object.__class__") = some true) && decide (PySem.W.mroIn K C (.type "object") = some true)))))))
theorem excB_ok {K : PySem.W.Frag} {C : Addr} (h : excB K C = true) : ExcC K C := by
  unfold excB at h
  simp only [Bool.and_eq_true, decide_eq_true_eq] at h
  obtain ⟨h1, h2, h3, h4, h5, h6, h7, h8⟩ := h
  exact ⟨h1, h2, h3, h4, h5, h6, h7, h8⟩
def hx0 (K : PySem.W.Frag) : Bool := errs.all fun n => decide (nmK K (He.ga K n) = n)
def hx1 (K : PySem.W.Frag) : Bool := ([("Web", "tags"), ("Web", "arrows")] : List (Str × Str)).all fun z => propB K (He.ga K z.1) z.2
def hex (K : PySem.W.Frag) : Bool := hx0 K && (hx1 K)
def hnames : List Str := (["MOST_TAGS", "_wall", "YardError", "NoTag", "DoubleTag", "TooMany", "Web", "check_web", "turned", "gathered", "reached", "laid_out", "groups", "tangled", "_law_mix", "_law_store", "_law_take", "_law_rare", "_law_shuffled", "_law_web_tags", "_law_links", "_law_number", "_law_same", "_law_onward", "_law_classes", "_law_in_order", "_law_planted", "_law_drawn", "_law_web", "_law_right"] : List Str)
abbrev hk : PySem.W.Hook := DL.hookZ 5 ([] ++ hfa ++ []) (hfn ++ [] ++ []) (fun K => (true && true) && hex K)
def hob (s : PySem.W.SharedT) : DL.AlZ := DL.obsZ 5 ([] ++ hfa ++ []) (hfn ++ [] ++ []) (fun K => (true && true) && hex K) (HandSHeadRun.getT s)
theorem hob_eq (s : PySem.W.SharedT) : hob s = hk.obs s.abs := DL.obsZ_eq (HandSHeadRun.getT_eq s)
open PySem.W PySem.Calls in
noncomputable abbrev hz (w : World) (os : OsState) := HandSHeadRun.endF (HandSHeadRun.stepQ (HandSHeadRun.denQ HandSHeadRun.tabQ) R.prog w) 20000 R.prog w os
open PySem.W PySem.Calls in
theorem hrun1 (w : World) (os : OsState) : (hz w os).map (fun s => (HandSHeadRun.looksF R.prog (boot_heap w.params) s.abs, HandSHeadRun.seenQ (PySem.W.view R.prog [34]) hnames (importedModules R.prog.main.body) (fun s => PySem.W.xlAt (PySem.W.view R.prog [34]) [] s && recOk R.toRowW.records s) s.abs)) = some (true, openGood (PySem.W.view R.prog [34]) hnames) := by
  kernel_rfl
open PySem.W PySem.Calls in
theorem hrun0 (w : World) (os : OsState) : (hz w os).map (fun s => DL.obsZ 5 [] hfn (fun _ => true) (HandSHeadRun.getT s)) = some (He5.valA hfn, true) := by
  kernel_rfl
open PySem.W PySem.Calls in
theorem hrun2 (w : World) (os : OsState) : (hz w os).map (fun s => DL.obsZ 5 hfa [] (fun _ => true) (HandSHeadRun.getT s)) = some (He5.valA [], true) := by
  kernel_rfl
open PySem.W PySem.Calls in
theorem hrun3 (w : World) (os : OsState) : (hz w os).map (fun s => DL.obsZ 5 [] [] hex (HandSHeadRun.getT s)) = some (He5.valA [], true) := by
  kernel_rfl
theorem hrun (w : World) : HandSHeadRun.RunEq R (PySem.W.view R.prog [34]) hk hob 20000 hnames w := by
  intro os
  exact DL.run_join (DL.run_join (DL.run_pair (hrun1 w os) (hrun0 w os)) (hrun2 w os)) (hrun3 w os)
end K14H
set_option maxHeartbeats 4000000
/-! sets of tuples of whole numbers, of any size up to 1000: the tables' masks are any powers of two -/
namespace SG
open PySem L2

/-! ### x ↦ 5 x + 1 runs through all of 2 ^ k -/
def Pw (m : Nat) : Prop := ∃ k, 3 ≤ k ∧ m + 1 = 2 ^ k
/-- 1 + 5 + .. + 5 ^ (n - 1) -/
def geo : Nat → Nat
  | 0 => 0
  | n + 1 => 5 * geo n + 1
theorem geo4 : ∀ n, 4 * geo n + 1 = 5 ^ n
  | 0 => rfl
  | n + 1 => by
    have ih := geo4 n
    rw [Nat.pow_succ]
    show 4 * (5 * geo n + 1) + 1 = _
    omega
theorem geo_add (a : Nat) : ∀ b, geo (a + b) = 5 ^ b * geo a + geo b
  | 0 => by simp [geo]
  | b + 1 => by
    show 5 * geo (a + b) + 1 = 5 ^ (b + 1) * geo a + (5 * geo b + 1)
    rw [geo_add a b, Nat.pow_succ, Nat.mul_comm (5 ^ b) 5, Nat.mul_assoc]
    omega
theorem geo_par : ∀ n, geo n % 2 = n % 2
  | 0 => rfl
  | n + 1 => by
    have ih := geo_par n
    show (5 * geo n + 1) % 2 = _
    omega
theorem geo_two (e : Nat) : geo (2 * e) = 2 * (geo e * (2 * geo e + 1)) := by
  have h := geo_add e e
  have g := geo4 e
  rw [show 2 * e = e + e by omega, h, ← g]
  have : (4 * geo e + 1) * geo e = 4 * (geo e * geo e) + geo e := by rw [Nat.add_mul, Nat.one_mul, Nat.mul_assoc]
  have : geo e * (2 * geo e + 1) = 2 * (geo e * geo e) + geo e := by
    rw [Nat.mul_add, Nat.mul_one, Nat.mul_left_comm]
  omega
theorem odd_drop {k a b : Nat} (hb : b % 2 = 1) (h : 2 ^ k ∣ a * b) : 2 ^ k ∣ a := by
  have hc : Nat.Coprime (2 ^ k) b := by
    refine Nat.Coprime.pow_left k ?_
    rw [Nat.coprime_iff_gcd_eq_one, Nat.gcd_rec, hb]
    rfl
  exact hc.dvd_of_dvd_mul_right h
theorem geo_dvd : ∀ k d, 2 ^ k ∣ geo d → 2 ^ k ∣ d
  | 0, d, _ => by simp
  | k + 1, d, h => by
    have h2 : 2 ∣ geo d := Nat.dvd_trans ⟨2 ^ k, by rw [Nat.pow_succ, Nat.mul_comm]⟩ h
    have hp := geo_par d
    obtain ⟨e, he⟩ : ∃ e, d = 2 * e := ⟨d / 2, by omega⟩
    subst he
    rw [geo_two, Nat.pow_succ, Nat.mul_comm (2 ^ k) 2] at h
    have h3 := Nat.dvd_of_mul_dvd_mul_left (by decide) h
    have h4 := geo_dvd k e (odd_drop (by omega) h3)
    rw [Nat.pow_succ, Nat.mul_comm]
    exact Nat.mul_dvd_mul_left 2 h4
theorem lcgI_eq (m i : Nat) (hi : i ≤ m) : ∀ n, lcgI m i n = (5 ^ n * i + geo n) % (m + 1)
  | 0 => by
    show i = (5 ^ 0 * i + 0) % (m + 1)
    rw [Nat.pow_zero, Nat.one_mul, Nat.add_zero, Nat.mod_eq_of_lt (by omega)]
  | n + 1 => by
    show (lcgI m i n * 5 + 1) % (m + 1) = (5 ^ (n + 1) * i + (5 * geo n + 1)) % (m + 1)
    rw [lcgI_eq m i hi n, Nat.add_mod, Nat.mod_mul_mod, ← Nat.add_mod]
    congr 1
    rw [Nat.pow_succ, Nat.mul_comm (5 ^ n) 5, Nat.mul_assoc, Nat.add_mul]
    omega
theorem dvd_of_mods {m a b : Nat} (hab : a ≤ b) (h : a % m = b % m) : m ∣ b - a := by
  exact Nat.dvd_of_mod_eq_zero (Nat.sub_mod_eq_zero_of_mod_eq h.symm)
theorem lcg_inj {m : Nat} (hm : Pw m) {i : Nat} (hi : i ≤ m) {a d : Nat} (h : a + d ≤ m) (e : lcgI m i a = lcgI m i (a + d)) : d = 0 := by
  obtain ⟨k, _, hk⟩ := hm
  rw [lcgI_eq m i hi, lcgI_eq m i hi] at e
  have g4 := geo4 d
  have key : 5 ^ (a + d) * i + geo (a + d) = (5 ^ a * i + geo a) + 5 ^ a * (geo d * (4 * i + 1)) := by
    have e1 : 5 ^ (a + d) = 5 ^ a * (4 * geo d) + 5 ^ a := by
      rw [Nat.pow_add, ← g4, Nat.mul_add, Nat.mul_one]
    have e2 : geo (a + d) = 5 ^ a * geo d + geo a := by rw [Nat.add_comm, geo_add]
    rw [e1, e2, Nat.add_mul, Nat.mul_add (geo d), Nat.mul_one, Nat.mul_add (5 ^ a)]
    have e3 : 5 ^ a * (4 * geo d) * i = 5 ^ a * (geo d * (4 * i)) := by
      rw [Nat.mul_assoc]
      congr 1
      rw [Nat.mul_right_comm, Nat.mul_comm]
      
    rw [e3]
    omega
  have hd := dvd_of_mods (by rw [key]; omega) e
  rw [key, Nat.add_sub_cancel_left, hk, Nat.mul_comm (5 ^ a)] at hd
  have h5 : 5 ^ a % 2 = 1 := by
    have := geo4 a
    omega
  have h6 := geo_dvd k d (odd_drop (by omega) (odd_drop h5 hd))
  rw [← hk] at h6
  rcases Nat.eq_zero_or_pos d with z | z
  · exact z
  · have := Nat.le_of_dvd z h6
    omega
theorem lcg_onto {m : Nat} (hm : Pw m) {i j : Nat} (hi : i ≤ m) (hj : j ≤ m) : ∃ n, n ≤ m ∧ lcgI m i n = j := by
  apply Classical.byContradiction
  intro no
  have lt : ∀ n, lcgI m i n ≤ m := fun n => by
    rw [lcgI_eq m i hi]
    exact Nat.le_of_lt_succ (Nat.mod_lt _ (Nat.succ_pos m))
  have nd : ((List.range (m + 1)).map (lcgI m i)).Nodup := by
    refine List.pairwise_map.mpr (List.Pairwise.imp_of_mem (fun {a b} ha hb hab => ?_) (List.pairwise_lt_range (n := m + 1)))
    intro e
    have hb := List.mem_range.mp hb
    obtain ⟨d, rfl⟩ : ∃ d, b = a + d := ⟨b - a, by omega⟩
    have := lcg_inj hm hi (by omega) e
    omega
  have le := nat_nodup_len _ ((List.range (m + 1)).erase j) nd fun x hx => by
    obtain ⟨n, hn, rfl⟩ := List.mem_map.mp hx
    have hn := List.mem_range.mp hn
    refine (List.mem_erase_of_ne fun e => no ⟨n, by omega, e⟩).mpr (List.mem_range.mpr ?_)
    have := lt n
    omega
  rw [List.length_map, List.length_erase_of_mem (List.mem_range.mpr (by omega)), List.length_range] at le
  omega
/-- each slot begins a run, soon enough -/
theorem run_all {m : Nat} (hm : Pw m) (h : Int) {j : Nat} (hj : j ≤ m) : ∃ n, n ≤ m + 12 ∧ runI m (SetTable.bits h) n = j := by
  obtain ⟨n, h1, h2⟩ := lcg_onto hm (runI_le m (SetTable.bits h) 12) hj
  exact ⟨12 + n, by omega, (runI_tail (bits_lt h) n).trans h2⟩
theorem way_all {m : Nat} (hm : Pw m) (h : Int) {j : Nat} (hj : j ≤ m) : ∃ k, k < 10 * SetTable.turns m ∧ way m h k = j := by
  obtain ⟨n, h1, h2⟩ := run_all hm h hj
  obtain ⟨k, h3, h4⟩ := run_nth m (SetTable.bits h) n
  refine ⟨k, ?_, (congrArg SetTable.Probe.j h4).trans h2⟩
  unfold SetTable.turns
  omega
theorem way_in {m : Nat} (h : Int) (k : Nat) : way m h k ≤ m := by
  have h0 : SetTable.bits h % (m + 1) ≤ m := Nat.le_of_lt_succ (Nat.mod_lt _ (Nat.succ_pos m))
  obtain ⟨r1, r2, _⟩ := runEnd_bd h0
  refine Nat.le_trans (Nat.le_add_right _ _) (nth_in k (runAt m _ (SetTable.bits h)) ?_)
  unfold runAt
  dsimp only
  omega
end SG
set_option maxHeartbeats 4000000
namespace SG
open PySem L2 PySem.Spec PyProof.Rows

/-! ### tables without dummies, of any size -/
structure TabG (t : SetTable) (hs : List Int) : Prop where
  up : Ris t.place.toList
  dm : t.dummies = #[]
  cnt : t.place.size = hs.length
  pw : Pw t.mask
  inb : ∀ x ∈ t.place.toList, x ≤ t.mask
  go : ∀ (i : Nat) (h : Int) (j : Nat), hs[i]? = some h → t.place.toList[i]? = some j → ∃ k, way t.mask h k = j ∧ ∀ q, q < k → way t.mask h q ∈ t.place.toList
theorem Pw.odd {m : Nat} : Pw m → m % 2 = 1
  | ⟨k, h3, e⟩ => by
    obtain ⟨n, rfl⟩ : ∃ n, k = n + 1 := ⟨k - 1, by omega⟩
    rw [Nat.pow_succ] at e
    omega
theorem Pw.ge {m : Nat} : Pw m → 7 ≤ m
  | ⟨k, h3, e⟩ => by
    have := Nat.pow_le_pow_right (n := 2) (by decide) h3
    omega
section
variable {t : SetTable} {hs : List Int} {h : Int} {K i j : Nat}
theorem TabG.len (T : TabG t hs) : t.place.toList.length = hs.length := T.cnt
/-- the first empty slot on h's way -/
theorem TabG.empty (T : TabG t hs) (few : hs.length ≤ t.mask) (h : Int) : ∃ K, K < 10 * SetTable.turns t.mask ∧ way t.mask h K ∉ t.place.toList ∧ ∀ q, q < K → way t.mask h q ∈ t.place.toList := by
  obtain ⟨j, hj, no⟩ := st_missing t.place.toList (t.mask + 1) (by rw [T.len]; omega)
  obtain ⟨k, hk, rfl⟩ := way_all T.pw h (Nat.le_of_lt_succ hj)
  obtain ⟨K, le, nK, fst⟩ := st_least (p := fun q => way t.mask h q ∉ t.place.toList) k no
  exact ⟨K, by omega, nK, fun q hq => Classical.byContradiction (fst q hq)⟩
/-- an entry of hash h stands ahead of it -/
theorem TabG.ahead (T : TabG t hs) (no : way t.mask h K ∉ t.place.toList) (hi : hs[i]? = some h) (hj : t.place.toList[i]? = some j) : ∃ q, q < K ∧ way t.mask h q = j := by
  obtain ⟨q, rfl, all⟩ := T.go i h j hi hj
  have hm := List.mem_of_getElem? hj
  refine ⟨q, Classical.byContradiction fun c => ?_, rfl⟩
  rcases Nat.lt_or_eq_of_le (Nat.le_of_not_lt c) with z | z
  · exact no (all K z)
  · subst z
    exact no hm
/-- one more laid -/
theorem TabG.more (T : TabG t hs) (no : way t.mask h K ∉ t.place.toList) (all : ∀ q, q < K → way t.mask h q ∈ t.place.toList) :
    ∃ (p : Nat) (t1 : SetTable), t.put (way t.mask h K) = (t1, p) ∧ p ≤ hs.length ∧ TabG t1 (hs.take p ++ h :: hs.drop p) ∧ t1.mask = t.mask ∧ t1.led = t.led ∧ t1.plain = t.plain ∧ t1.fill = hs.length + 1 := by
  generalize hj : way t.mask h K = j at no
  have jm : j ≤ t.mask := hj ▸ way_in h K
  refine ⟨SetTable.below t.place j, (t.put j).1, rfl, ?_⟩
  have place := put_place t j
  have pl : SetTable.below t.place j ≤ t.place.size := (below_cut T.up j).1
  generalize hp : SetTable.below t.place j = p at place pl
  have ph : p ≤ hs.length := T.cnt ▸ pl
  have pt : p ≤ t.place.toList.length := pl
  have fresh : t.place[SetTable.below t.place j]? ≠ some j := fun e => no (List.mem_of_getElem? (i := SetTable.below t.place j) (by rw [Array.getElem?_toList, e]))
  have size : (t.put j).1.place.size = hs.length + 1 := by
    have q := congrArg List.length place
    rw [len_ins _ pt, T.len] at q
    exact q
  have keep : ∀ x ∈ t.place.toList, x ∈ (t.put j).1.place.toList := fun x hx => place ▸ mem_ins.mpr (.inr hx)
  have rise : Ris (t.put j).1.place.toList := ris_insert T.up fresh
  refine ⟨ph, { up := rise, dm := put_dm T.dm j, cnt := by rw [len_ins _ ph, size], pw := T.pw, inb := fun x hx => ?_, go := fun i g z a b => ?_ }, rfl, rfl, rfl, ?_⟩
  · rcases mem_ins.mp (place ▸ hx) with e | e
    · exact e ▸ jm
    · exact T.inb x e
  · rw [tins_get hs ph] at a
    rw [place, tins_get _ pt] at b
    have old : ∀ n, hs[n]? = some g → t.place.toList[n]? = some z → ∃ k, way t.mask g k = z ∧ ∀ q, q < k → way t.mask g q ∈ (t.put j).1.place.toList := fun n a b =>
      (T.go n g z a b).imp fun k hk => ⟨hk.1, fun q hq => keep _ (hk.2 q hq)⟩
    rcases Nat.lt_trichotomy i p with c | c | c
    · rw [if_pos c] at a b
      exact old i a b
    · subst c
      rw [if_neg (Nat.lt_irrefl _), if_pos rfl] at a b
      cases a
      cases b
      exact ⟨K, hj, fun q hq => keep _ (all q hq)⟩
    · rw [if_neg (by omega), if_neg (by omega)] at a b
      exact old _ a b
  · have dm : (t.put j).1.dummies.size = 0 := by rw [put_dm T.dm j]; rfl
    unfold SetTable.fill
    rw [size, dm]
end

/-! ### all laid anew -/
/-- a free slot's way -/
theorem free_way {m : Nat} (hm : Pw m) (ow : Array (Option Nat)) (h : Int) {j : Nat} (hj : j ≤ m) (hf : oAt ow j = none) :
    ∃ K, SetTable.layClean.free m ow (SetTable.turns m) (SetTable.bits h % (m + 1)) (SetTable.bits h) = some (way m h K) ∧ oAt ow (way m h K) = none ∧ ∀ q, q < K → oAt ow (way m h q) ≠ none := by
  obtain ⟨n, hn, rfl⟩ := run_all hm h hj
  have here : way m h (off m (SetTable.bits h % (m + 1)) (SetTable.bits h) n) = runI m (SetTable.bits h) n := by
    unfold way
    rw [nth_off, itL_run]
    rfl
  obtain ⟨K, le, eK, fst⟩ := st_least (p := fun q => oAt ow (way m h q) = none) _ ((congrArg (oAt ow) here).trans hf)
  refine ⟨K, free_spec m ow _ n _ _ K (by unfold SetTable.turns; omega) le (fun q hq => ?_) (by rw [eK]; rfl), eK, fst⟩
  have := fst q hq
  revert this
  cases oAt ow (way m h q) with
  | none => exact fun z => absurd rfl z
  | some _ => exact fun _ => rfl
theorem own_more {m : Nat} (hm : Pw m) {done : List Int} {ow : Array (Option Nat)} (W : Own m done ow) (few : done.length ≤ m) (h : Int) :
    ∃ j, SetTable.layClean.free m ow (SetTable.turns m) (SetTable.bits h % (m + 1)) (SetTable.bits h) = some j ∧ Own m (done ++ [h]) (ow.setIfInBounds j (some done.length)) := by
  obtain ⟨ps, len, sits⟩ := W.ps
  obtain ⟨f, flt, fno⟩ := st_missing ps (m + 1) (by omega)
  have fe : oAt ow f = none := Classical.byContradiction fun c => fno (sits f (Nat.le_of_lt_succ flt) c)
  obtain ⟨K, found, free, taken⟩ := free_way hm ow h (Nat.le_of_lt_succ flt) fe
  refine ⟨_, found, ?_⟩
  generalize hj : way m h K = j at free
  have jm : j ≤ m := hj ▸ way_in h K
  have me := oAt_set_self (owner := ow) (some done.length) (j := j) (by rw [W.sz]; omega)
  have other : ∀ i, i ≠ j → oAt (ow.setIfInBounds j (some done.length)) i = oAt ow i := fun i hi => oAt_set_ne _ hi
  have still : ∀ i, oAt ow i ≠ none → oAt (ow.setIfInBounds j (some done.length)) i ≠ none := fun i hi => by
    rcases Classical.em (i = j) with rfl | c
    · exact absurd free hi
    · rw [other i c]; exact hi
  refine { sz := by rw [Array.size_setIfInBounds, W.sz], at_ := fun i k hi e => ?_, all := fun k hk => ?_, ps := ⟨j :: ps, by simp [len], fun i hi e => ?_⟩ }
  · rcases Classical.em (i = j) with c | c
    · subst c
      have e : k = done.length := (Option.some.inj (me.symm.trans e)).symm
      subst e
      exact ⟨h, K, by simp, hj, fun q hq => still _ (taken q hq)⟩
    · rw [other i c] at e
      obtain ⟨g, G, a, b, d⟩ := W.at_ i k hi e
      have lt := (List.getElem?_eq_some_iff.mp a).1
      exact ⟨g, G, by rw [List.getElem?_append_left lt, a], b, fun q hq => still _ (d q hq)⟩
  · rcases Nat.lt_or_ge k done.length with c | c
    · obtain ⟨i, hi, e⟩ := W.all k c
      refine ⟨i, hi, (other i fun z => ?_).trans e⟩
      subst z
      rw [free] at e
      cases e
    · have : k = done.length := by simp at hk; omega
      subst this
      exact ⟨j, jm, me⟩
  · rcases Classical.em (i = j) with c | c
    · exact c ▸ List.mem_cons_self
    · rw [other i c] at e
      exact List.mem_cons_of_mem _ (sits i hi e)
theorem own_all {m : Nat} (hm : Pw m) : ∀ (rest done : List Int) (ow : Array (Option Nat)), Own m done ow → done.length + rest.length ≤ m →
    ∃ ow', rest.foldl (stepF m) (some (ow, done.length)) = some (ow', done.length + rest.length) ∧ Own m (done ++ rest) ow'
  | [], done, ow, W, _ => ⟨ow, rfl, by rw [List.append_nil]; exact W⟩
  | h :: rest, done, ow, W, few => by
    have few : done.length + (rest.length + 1) ≤ m := few
    obtain ⟨j, found, W1⟩ := own_more hm W (by omega) h
    obtain ⟨ow', e, W2⟩ := own_all hm rest (done ++ [h]) _ W1 (by simp; omega)
    refine ⟨ow', ?_, by simpa using W2⟩
    simp only [List.length_append, List.length_cons, List.length_nil] at e
    rw [List.foldl_cons, stepF_some found, e]
    simp only [List.length_cons]
    congr 2
    omega
theorem laid_ok {m : Nat} (hm : Pw m) {hs : Array Int} (few : hs.size ≤ m) : ∃ ow, SetTable.layClean m hs = some ow ∧ Own m hs.toList ow := by
  obtain ⟨ow, e, W⟩ := own_all hm hs.toList [] _ (Own.init m) (by simpa using few)
  refine ⟨ow, ?_, by simpa using W⟩
  rw [layClean_eq]
  simp only [List.length_nil] at e
  rw [e]
  rfl
theorem anew_ok (t : SetTable) {hs : Array Int} {wanted M : Nat} (hw : SetTable.sizeAbove wanted - 1 = M) (hM : Pw M) (few : hs.size ≤ M) :
    ∃ t' order, t.relaid hs wanted = some (t', order) ∧ order.toList.Perm (List.range hs.size) ∧ TabG t' (order.toList.map fun i => hs.getD i 0) ∧ t'.mask = M ∧ t'.led = t.led ∧ t'.plain = t.plain := by
  obtain ⟨ow, lay, W⟩ := laid_ok hM few
  have said : t.relaid hs wanted = some (tabOf t M ow, ((liveOf M ow).map (·.2)).toArray) := by
    rw [relaid_eq, hw, lay]
    rfl
  obtain ⟨rise, within⟩ : Ris ((liveOf M ow).map (·.1)) ∧ ∀ x ∈ (liveOf M ow).map (·.1), x ∈ List.range (M + 1) := ris_live (fun j => ow.getD j none) (List.range (M + 1)) List.pairwise_lt_range
  have live := fun {j k} => mem_live (owner := ow) (j := j) (k := k) W.sz
  have many : (liveOf M ow).length = hs.size := by
    obtain ⟨ps, len, sits⟩ := W.ps
    have up := nat_nodup_len _ ps (rise.imp fun h => Nat.ne_of_lt h) fun x hx => by
      obtain ⟨⟨y, k⟩, hq, rfl⟩ := List.mem_map.mp hx
      obtain ⟨a, b⟩ := live.mp hq
      exact sits y a (by rw [b]; simp)
    have down := nat_nodup_len (List.range hs.size) ((liveOf M ow).map (·.2)) List.nodup_range fun k hk => by
      obtain ⟨j, a, b⟩ := W.all k (List.mem_range.mp hk)
      exact List.mem_map.mpr ⟨_, live.mpr ⟨a, b⟩, rfl⟩
    simp only [List.length_map, List.length_range, Array.length_toList] at up down len
    omega
  refine ⟨_, _, said, perm_range _ _ ?_ fun k hk => ?_, { up := rise, dm := rfl, cnt := ?_, pw := hM, inb := fun x hx => ?_, go := fun i g z a b => ?_ }, rfl, rfl, rfl⟩
  · simp only [List.length_map]
    exact many
  · obtain ⟨j, a, b⟩ := W.all k hk
    exact List.mem_map.mpr ⟨_, live.mpr ⟨a, b⟩, rfl⟩
  · unfold tabOf
    simp
  · have := List.mem_range.mp (within x hx)
    exact Nat.le_of_lt_succ this
  · have a : (((liveOf M ow).map (·.2)).map fun i => hs.getD i 0)[i]? = some g := a
    have b : ((liveOf M ow).map (·.1))[i]? = some z := b
    simp only [List.getElem?_map, Option.map_map, Option.map_eq_some_iff] at a b
    obtain ⟨⟨y, k⟩, hq, rfl⟩ := b
    obtain ⟨q, hq', rfl⟩ := a
    cases hq.symm.trans hq'
    obtain ⟨le, at_⟩ := live.mp (List.mem_of_getElem? hq)
    obtain ⟨g, G, c, d, f⟩ := W.at_ y k le at_
    have eg : hs.getD k 0 = g := by
      rw [Array.getElem?_toList] at c
      rw [Array.getD_eq_getD_getElem?, c]
      rfl
    show ∃ q, way M (hs.getD k 0) q = y ∧ ∀ q', q' < q → way M (hs.getD k 0) q' ∈ (liveOf M ow).map (·.1)
    rw [eg]
    refine ⟨G, d, fun q hq => ?_⟩
    cases z : oAt ow (way M g q) with
    | none => exact absurd z (f q hq)
    | some n => exact List.mem_map.mpr ⟨_, live.mpr ⟨way_in g q, z⟩, rfl⟩
/-- the tables' sizes are powers of two -/
theorem size_go : ∀ (f n s k : Nat), 3 ≤ k → s = 2 ^ k → n < s * 2 ^ f → s ≤ 2 * n + 8 → ∃ K, 3 ≤ K ∧ SetTable.sizeAbove.go n f s = 2 ^ K ∧ n < 2 ^ K ∧ 2 ^ K ≤ 2 * n + 8
  | 0, n, s, k, hk, e, h, le => by
    refine ⟨k, hk, e, ?_, e ▸ le⟩
    rw [Nat.pow_zero, Nat.mul_one] at h
    exact e ▸ h
  | f + 1, n, s, k, hk, e, h, le => by
    unfold SetTable.sizeAbove.go
    by_cases c : s ≤ n
    · rw [if_pos c]
      refine size_go f n (s * 2) (k + 1) (by omega) (by rw [e, Nat.pow_succ]) ?_ (by omega)
      rw [Nat.mul_assoc, ← Nat.pow_succ']
      exact h
    · rw [if_neg c]
      exact ⟨k, hk, e, by omega, by omega⟩
theorem size_pw {n : Nat} (h : n ≤ 10000) : Pw (SetTable.sizeAbove n - 1) ∧ n < SetTable.sizeAbove n ∧ SetTable.sizeAbove n ≤ 2 * n + 8 := by
  have big : 10000 < 8 * 2 ^ 64 := by decide
  obtain ⟨K, h3, e, lt, le⟩ := size_go 64 n 8 3 (by decide) rfl (by omega) (by omega)
  have e : SetTable.sizeAbove n = 2 ^ K := e
  rw [e]
  exact ⟨⟨K, h3, by omega⟩, lt, le⟩
end SG
set_option maxHeartbeats 4000000
namespace SG
open PySem L2 PySem.Spec PyProof.Rows

/-! ### the set -/
structure SetG (P : Program) (w : World) (h : Heap) (a : Addr) (L : List (Addr × List Int)) (es : Array (Int × Value)) (ep : Nat) (t : SetTable) : Prop where
  ob : ∃ o, h.get? a = some o ∧ o.ExactSet ∧ o.data = .set es ep t
  rows : es.toList = rowsOf P w L
  tab : TabG t (L.map fun p => thash P w p.2)
  nd : (L.map (·.2)).Nodup
  tup : ∀ p ∈ L, IsT P w h p.2 p.1
  pl : t.plain = true
  led : w.params.followText "set-order" = true ∨ t.led = true
  room : L.length * 5 < t.mask * 3
  small : t.mask ≤ 8100
  few : L.length ≤ 1000
section
variable {P : Program} {w : World} {A : Around} {E : Value → Shared → Prop} {s : Shared} {a : Addr} {L : List (Addr × List Int)} {es : Array (Int × Value)} {ep : Nat} {t : SetTable}
theorem rows_len : es.toList = rowsOf P w L → es.size = L.length := fun e => by
  have := congrArg List.length e
  unfold rowsOf at this
  simpa using this
theorem rows_at (e : es.toList = rowsOf P w L) {i : Nat} {p : Addr × List Int} (h : L[i]? = some p) : es[i]? = some (thash P w p.2, Value.ref p.1) := by
  have : es.toList[i]? = some (thash P w p.2, Value.ref p.1) := by
    rw [e]
    unfold rowsOf
    rw [List.getElem?_map, h]
    rfl
  rwa [Array.getElem?_toList] at this
theorem fits_of {n : Nat} (e : t.place.size = n) (dm : t.dummies = #[]) (le : n ≤ t.mask) : t.fits n = true := by
  unfold SetTable.fits SetTable.fill
  simp [e, dm, le]
theorem SetG.fits (R : SetG P w s.heap a L es ep t) : t.fits es.size = true := by
  have c := R.tab.cnt
  rw [List.length_map] at c
  have r := R.room
  exact fits_of (c.trans (rows_len R.rows).symm) R.tab.dm (by rw [rows_len R.rows]; omega)
theorem SetG.stays (R : SetG P w s.heap a L es ep t) : ¬ t.gaveWay = true := by
  unfold SetTable.gaveWay
  rw [R.tab.pw.odd]
  decide
theorem nth_nodummy (m : Nat) : ∀ (n : Nat) (p : SetTable.Probe), p.dummy = none → (nth m p n).dummy = none
  | 0, _, h => h
  | n + 1, p, h => nth_nodummy m n _ (by
      unfold adv
      split
      · exact h
      · exact h)
/-- the start of a hash's way -/
abbrev st0 (m : Nat) (g : Int) : SetTable.Probe := runAt m (SetTable.bits g % (m + 1)) (SetTable.bits g)

/-- the search, from the c-th step on -/
theorem look (R : SetG P w s.heap a L es ep t) {x : Addr} {k : List Int} (hx : IsT P w s.heap k x) (hu : A.units < cLine) {K : Nat} (hf : K < 10 * SetTable.turns t.mask)
    (no : way t.mask (thash P w k) K ∉ t.place.toList) (all : ∀ q, q < K → way t.mask (thash P w k) q ∈ t.place.toList) {Q : SetFound → Shared → Prop}
    (yes : k ∈ L.map (·.2) → Q (.there none) s) (new : k ∉ L.map (·.2) → Q (.free (way t.mask (thash P w k) K) false) s) :
    ∀ (f c : Nat) (st : Option SetTable.Probe), st.getD (t.probeStart (thash P w k)) = nth t.mask (st0 t.mask (thash P w k)) c → c ≤ K → K - c < f →
      (∀ (i : Nat) p, L[i]? = some p → p.2 = k → ∃ d, c ≤ d ∧ d < K ∧ t.place.toList[i]? = some (way t.mask (thash P w k) d)) →
      wpAny (model P w) A (setSearchFrom a (.ref x) (thash P w k) true f st) Q E s
  | 0, _, _, _, _, z, _ => absurd z (Nat.not_lt_zero _)
  | f + 1, c, st, hst, hc, hfu, here => by
    obtain ⟨o, ho, hex, hd⟩ := R.ob
    generalize hg : thash P w k = g at *
    have step : ∀ q, nth t.mask (nth t.mask (st0 t.mask g) c) q = nth t.mask (st0 t.mask g) (c + q) := fun q => (nth_add _ c _ q).symm
    have stepj : ∀ q, (nth t.mask (nth t.mask (st0 t.mask g) c) q).j = way t.mask g (c + q) := fun q => congrArg SetTable.Probe.j (step q)
    have back : c + (K - c) = K := by omega
    have answer := go_spec t R.tab.up R.tab.dm (fun i => (es[i]?.map (·.1)).getD 0) g (10 * SetTable.turns t.mask) (K - c) (nth t.mask (st0 t.mask g) c) (nth_nodummy _ c _ rfl) (by omega)
      (fun q hq => stepj q ▸ all _ (by omega)) (by rw [stepj, back]; exact no)
    have hash : ∀ (i : Nat) p, L[i]? = some p → (es[i]?.map (·.1)).getD 0 = thash P w p.2 := fun i p hp => by
      rw [rows_at R.rows hp]
      rfl
    -- what has the key is met in time
    have met : ∀ (i : Nat) p, L[i]? = some p → p.2 = k → ∀ n, (∀ (q j : Nat), q < n → t.place.toList[j]? = some (nth t.mask (nth t.mask (st0 t.mask g) c) q).j → (es[j]?.map (·.1)).getD 0 ≠ g) → ∃ d, c + n ≤ d ∧ d < K ∧ t.place.toList[i]? = some (way t.mask g d) := fun i p hp hk n fresh => by
      obtain ⟨d, h1, h2, h3⟩ := here i p hp hk
      refine ⟨d, Classical.byContradiction fun lt => ?_, h2, h3⟩
      refine fresh (d - c) i (by omega) (by rw [stepj, show c + (d - c) = d by omega]; exact h3) ?_
      rw [hash i p hp, hk, hg]
    rw [setSearchFrom_succ]
    refine wpAny_bind (wpAny_setState_of ho hd R.fits ?_)
    dsimp only
    refine wp_if_neg R.stays ?_
    try refine wpAny_bind (wpAny_pure ?_)
    rw [show t.probe (fun i => (es[i]?.map (·.1)).getD 0) g (st.getD (t.probeStart g)) = SetTable.probe.go t (fun i => (es[i]?.map (·.1)).getD 0) g (10 * SetTable.turns t.mask) (nth t.mask (st0 t.mask g) c) by rw [hst]; rfl]
    rcases answer with ⟨q, i, hq, hi, _, fresh, e⟩ | ⟨fresh, e⟩
    · rw [e]
      dsimp only
      rw [stepj] at hi
      have lt : i < L.length := by
        have z := (List.getElem?_eq_some_iff.mp hi).1
        rw [R.tab.len, List.length_map] at z
        exact z
      obtain ⟨p, hp⟩ : ∃ p, L[i]? = some p := ⟨_, List.getElem?_eq_getElem lt⟩
      have pm := List.mem_of_getElem? hp
      have slot := slot_live R.tab.up hi
      have rest : wpAny (model P w) A (searchRest a (.ref x) g true f es t (nth t.mask (nth t.mask (st0 t.mask g) c) q).j i (nth t.mask (nth t.mask (st0 t.mask g) c) (q + 1))) Q E s := by
        rw [stepj, step]
        unfold searchRest
        rw [rows_at R.rows hp]
        dsimp only
        refine wpAny_bind (wpAny_holding (wpAny_eqBool_tuple hu (R.tup p pm) hx ?_))
        refine wpAny_bind (wpAny_setState_of ho hd R.fits ?_)
        dsimp only
        rcases Classical.em (p.2 = k) with same | other
        · refine wp_if_pos (by simp [same]) (wpAny_pure (yes ?_))
          exact same ▸ List.mem_map_of_mem pm
        · refine wp_if_neg (by simp [other]) ?_
          try refine wpAny_bind (wpAny_pure ?_)
          rw [sameMem]
          dsimp only
          simp only [if_true, slot, rows_at R.rows hp]
          refine wpAny_bind (wpAny_isSame_ref_self (wpAny_bind (wpAny_pure ?_)))
          simp only [if_true]
          refine wp_if_neg (by simp [other]) ?_
          subst hg
          refine look R hx hu hf no all yes new f (c + (q + 1)) _ rfl (by omega) (by omega) fun j r hr hk => ?_
          obtain ⟨d, h1, h2, h3⟩ := met j r hr hk q fresh
          refine ⟨d, Nat.lt_of_le_of_ne h1 fun z => ?_, h2, h3⟩
          subst z
          have two := slot.symm.trans (slot_live R.tab.up h3)
          injection two with two
          subst two
          exact other (by rw [← hk]; exact congrArg Prod.snd (Option.some.inj (hp.symm.trans hr)))
      rcases Bool.eq_false_or_eq_true t.led with led | led
      · refine wp_if_neg (by simp [led]) ?_
        try refine wpAny_bind (wpAny_pure ?_)
        exact rest
      · refine wp_if_pos (by simp [led]) ?_
        refine wpAny_bind (seen_tup hx (fun y hy => ?_) ?_)
        · simp only [List.mem_map, Array.mem_toList_iff, Array.mem_filter] at hy
          obtain ⟨e0, ⟨he, _⟩, rfl⟩ := hy
          rw [← Array.mem_toList_iff, R.rows] at he
          unfold rowsOf at he
          obtain ⟨r, hr, rfl⟩ := List.mem_map.mp he
          exact ⟨r.2, r.1, rfl, R.tup r hr⟩
        · refine wp_if_neg (by decide) ?_
          try refine wpAny_bind (wpAny_pure ?_)
          exact rest
    · rw [e, stepj, back]
      dsimp only
      refine wpAny_pure (new fun hm => ?_)
      obtain ⟨r, hr, hk⟩ := List.mem_map.mp hm
      obtain ⟨j, hj, ej⟩ := List.getElem_of_mem hr
      obtain ⟨d, h1, h2, _⟩ := met j r (by rw [List.getElem?_eq_getElem hj, ej]) hk (K - c) fresh
      omega
/-- the search that adding asks for -/
theorem look_all (R : SetG P w s.heap a L es ep t) {x : Addr} {k : List Int} (hx : IsT P w s.heap k x) (hu : A.units < cLine) {Q : SetFound → Shared → Prop} (yes : k ∈ L.map (·.2) → Q (.there none) s)
    (new : ∀ K, k ∉ L.map (·.2) → way t.mask (thash P w k) K ∉ t.place.toList → (∀ q, q < K → way t.mask (thash P w k) q ∈ t.place.toList) → Q (.free (way t.mask (thash P w k) K) false) s) :
    wpAny (model P w) A (setSearch a (.ref x) (thash P w k) true) Q E s := by
  have r := R.room
  have sm := R.small
  obtain ⟨K, h1, h2, h3⟩ := R.tab.empty (by rw [List.length_map]; omega) (thash P w k)
  have fuel : K < 100000 := by
    unfold SetTable.turns at h1
    omega
  unfold setSearch
  refine look R hx hu h1 h2 h3 yes (fun z => new K z h2 h3) 100000 0 none rfl (Nat.zero_le _) (by omega) fun i p hp hk => ?_
  have lt : i < t.place.toList.length := by
    rw [R.tab.len, List.length_map]
    exact (List.getElem?_eq_some_iff.mp hp).1
  have at_ := List.getElem?_eq_getElem lt
  obtain ⟨d, hd, e⟩ := R.tab.ahead h2 (i := i) (by rw [List.getElem?_map, hp, ← hk]; rfl) at_
  exact ⟨d, Nat.zero_le _, hd, by rw [at_, e]⟩

/-- laid anew, larger -/
theorem relay {o : Obj} (ho : s.heap.get? a = some o) (hex : o.ExactSet) (hd : o.data = .set es ep t) (rows : es.toList = rowsOf P w L) (cnt : t.place.size = es.size) (dm : t.dummies = #[]) (fl : es.size ≤ t.mask)
    (nd : (L.map (·.2)).Nodup) (tup : ∀ p ∈ L, IsT P w s.heap p.2 p.1) (pl : t.plain = true) (led : w.params.followText "set-order" = true ∨ t.led = true) {u : Nat} (hu : L.length = u) (u1 : 1 ≤ u) (u2 : u ≤ 1000) {Q : Unit → Shared → Prop}
    (q : ∀ h' L' es' ep' t', Heap.SameBut a s.heap h' → SetG P w h' a L' es' ep' t' → L'.Perm L → Q () { s with heap := h' }) : wpAny (model P w) A (setRelay a (SetTable.grown u)) Q E s := by
  have gr : SetTable.grown u = u * 4 := by
    unfold SetTable.grown
    rw [if_neg (by omega)]
  rw [gr]
  obtain ⟨pw, lt, le⟩ := size_pw (n := u * 4) (by omega)
  have n := rows_len rows
  obtain ⟨t', order, e, pm, T, em, el, epl⟩ := anew_ok t (hs := es.map (·.1)) rfl pw (by rw [Array.size_map]; omega)
  rw [Array.size_map, n] at pm
  obtain ⟨L2, r1, r2, r3⟩ := order_rows L es order rows pm
  rw [← r3] at T
  have n2 : (order.filterMap (es[·]?)).size = es.size := (rows_len r1).trans (r2.length_eq.trans n.symm)
  rw [setRelay_eq]
  refine wpAny_bind (wpAny_setState_of ho hd (fits_of cnt dm fl) ?_)
  dsimp only
  refine wp_if_neg (by rw [sizeLine_eq]; omega) ?_
  try refine wpAny_bind (wpAny_pure ?_)
  rw [e]
  dsimp only
  refine wpAny_bind (wp_if_neg (by simp [n2]) ?_)
  try refine wpAny_bind (wpAny_pure ?_)
  refine wpAny_pure ?_
  dsimp only
  refine wpAny_storeSet_of ho hd ?_ (by rw [n2, n, sizeLine_eq]; omega)
  have sb : Heap.SameBut a s.heap (s.heap.update a (Obj.putSet (order.filterMap (es[·]?)) t')) := Heap.SameBut.update ..
  refine q _ L2 _ (ep + 1) t' sb { ob := ⟨_, store_at ho hd, ⟨hex.1, hex.2.1, hex.2.2⟩, rfl⟩, rows := r1, tab := T, nd := (r2.map (·.2)).nodup_iff.mpr nd, tup := fun p hp => isT_same (tup p (r2.mem_iff.mp hp)) ho hd sb, pl := epl.trans pl, led := el ▸ led, room := ?_, small := ?_, few := by rw [r2.length_eq]; omega } r2
  · rw [r2.length_eq, em]
    omega
  · rw [em]
    omega
/-- one added -/
theorem add (R : SetG P w s.heap a L es ep t) {x : Addr} {k : List Int} (hx : IsT P w s.heap k x) (hu : A.units < cLine) (few : L.length < 1000) {Q : Bool → Shared → Prop}
    (q : ∀ b h' L' es' ep' t', Heap.SameBut a s.heap h' → SetG P w h' a L' es' ep' t' → (k ∈ L.map (·.2) → L' = L) → (k ∉ L.map (·.2) → L'.Perm ((x, k) :: L)) → Q b { s with heap := h' }) :
    wpAny (model P w) A (setAddHashed a (.ref x) (thash P w k)) Q E s := by
  obtain ⟨o, ho, hex, hd⟩ := R.ob
  have n := rows_len R.rows
  have r := R.room
  unfold setAddHashed
  refine wpAny_holding ?_
  rw [show (100000 : Nat) = 99999 + 1 from rfl, setAddHashedIn_succ]
  refine wpAny_bind (wpAny_setState_of ho hd R.fits ?_)
  dsimp only
  refine wp_if_neg (by simp [byScan, Value.scannable]) ?_
  try refine wpAny_bind (wpAny_pure ?_)
  refine wpAny_bind (look_all R hx hu (fun hm => ?_) fun K hm no all => ?_)
  · dsimp only
    exact wpAny_pure (q _ _ _ _ _ _ (Heap.SameBut.refl a s.heap) R (fun _ => rfl) fun z => absurd hm z)
  dsimp only
  refine wpAny_bind (wpAny_setState_of ho hd R.fits ?_)
  dsimp only
  obtain ⟨p, t1, e, hp, T, em, el, epl, fill⟩ := R.tab.more no all
  rw [e]
  dsimp only
  have pl1 : t1.plain = true := epl.trans R.pl
  first
    | (refine wpAny_bind ?_; refine wp_if_pos pl1 ?_; refine hashBy_tup hx ?_)
    | refine wp_if_pos pl1 (wpAny_bind (hashBy_tup hx ?_))
  simp only [if_true]
  have pm := put_perm L p (x, k)
  have rows1 : (SetTable.insertAt es p (thash P w k, Value.ref x)).toList = rowsOf P w (L.take p ++ (x, k) :: L.drop p) := by
    rw [SetTable.toList_insertAt, rows_put, R.rows]
  have hs1 : (L.map fun p => thash P w p.2).take p ++ thash P w k :: (L.map fun p => thash P w p.2).drop p = (L.take p ++ (x, k) :: L.drop p).map fun p => thash P w p.2 := by
    simp
  rw [hs1] at T
  generalize SetTable.insertAt es p (thash P w k, Value.ref x) = es1 at rows1 ⊢
  generalize L.take p ++ (x, k) :: L.drop p = L1 at pm rows1 T
  have len1 : L1.length = L.length + 1 := pm.length_eq
  have n1 := rows_len rows1
  have nd1 : (L1.map (·.2)).Nodup := (pm.map (·.2)).nodup_iff.mpr (List.nodup_cons.mpr ⟨hm, R.nd⟩)
  refine wpAny_bind (wpAny_storeSet_of ho hd ?_ (by rw [n1, len1, sizeLine_eq]; omega))
  have sb : Heap.SameBut a s.heap (s.heap.update a (Obj.putSet es1 t1)) := Heap.SameBut.update ..
  have ho1 := store_at (es' := es1) (t' := t1) ho hd
  generalize s.heap.update a (Obj.putSet es1 t1) = h1 at sb ho1 ⊢
  have tup1 : ∀ p ∈ L1, IsT P w h1 p.2 p.1 := fun r hr => by
    rcases List.mem_cons.mp (pm.mem_iff.mp hr) with z | z
    · exact isT_same (z ▸ hx) ho hd sb
    · exact isT_same (R.tup r z) ho hd sb
  rw [List.length_map] at fill
  rcases Classical.em (t1.tooFull = true) with full | full
  · first
      | (refine wpAny_bind ?_; refine wp_if_pos (by simp [full]) ?_)
      | (refine wp_if_pos (by simp [full]) ?_; refine wpAny_bind ?_)
    have c := T.cnt
    rw [List.length_map] at c
    have m7 := R.tab.pw.ge
    rw [n]
    refine relay (s := { s with heap := h1 }) ho1 ⟨hex.1, hex.2.1, hex.2.2⟩ rfl rows1 (c.trans n1.symm) T.dm (by rw [n1, len1, em]; omega) nd1 tup1 pl1 (el ▸ R.led) len1 (by omega) (by omega) ?_
    intro h2 L2 es2 ep2 t2 sb2 R2 pm2
    exact wpAny_pure (q true _ _ _ _ _ (sb.trans sb2) R2 (fun z => absurd z hm) fun _ => pm2.trans pm)
  · first
      | refine wp_if_neg (by simp [full]) ?_
      | (refine wpAny_bind ?_; refine wp_if_neg (by simp [full]) ?_; refine wpAny_pure ?_)
    refine wpAny_pure (q true _ _ _ _ _ sb { ob := ⟨_, ho1, ⟨hex.1, hex.2.1, hex.2.2⟩, rfl⟩, rows := rows1, tab := T, nd := nd1, tup := tup1, pl := pl1, led := el ▸ R.led, room := ?_, small := em ▸ R.small, few := by omega } (fun z => absurd z hm) fun _ => pm)
    unfold SetTable.tooFull at full
    rw [decide_eq_true_eq, fill] at full
    omega
end
end SG
set_option maxHeartbeats 4000000
namespace SG
open PySem L2 PySem.Spec PyProof.Rows
section
variable {P : Program} {w : World} {A : Around} {E : Value → Shared → Prop} {s : Shared}
theorem SetG.keep {h h' : Heap} {a : Addr} {L : List (Addr × List Int)} {es : Array (Int × Value)} {ep : Nat} {t : SetTable} (R : SetG P w h a L es ep t) (ha : ∀ o, h.get? a = some o → h'.get? a = some o) (ht : ∀ p ∈ L, IsT P w h' p.2 p.1) : SetG P w h' a L es ep t :=
  { R with ob := R.ob.imp fun o z => ⟨ha o z.1, z.2⟩, tup := ht }
/-- the object of a new set -/
abbrev newSet (w : World) : Obj := { cls := .type "set", dict := none, data := .set #[] 0 (.fresh 0 0 (!w.params.followText "set-order")) }
theorem setG_new {h : Heap} {a : Addr} (ho : h.get? a = some (newSet w)) : SetG P w h a [] #[] 0 (.fresh 0 0 (!w.params.followText "set-order")) where
  ob := ⟨_, ho, ⟨rfl, rfl, rfl⟩, rfl⟩
  rows := rfl
  tab := { up := .nil, dm := rfl, cnt := rfl, pw := ⟨3, by decide, rfl⟩, inb := fun x hx => (nomatch hx), go := fun i h j e => by simp at e }
  nd := .nil
  tup := fun p hp => (nomatch hp)
  pl := rfl
  led := by
    show _ ∨ (!w.params.followText "set-order") = true
    cases w.params.followText "set-order"
    · exact .inr rfl
    · exact .inl rfl
  room := show 0 * 5 < 7 * 3 by decide
  small := show 7 ≤ 8100 by decide
  few := Nat.zero_le _
/-- what the first i items have left in the set -/
structure Has (ks : List (Addr × List Int)) (i : Nat) (L : List (Addr × List Int)) : Prop where
  from_ : ∀ p ∈ L, p ∈ ks.take i
  each : ∀ p ∈ ks.take i, p.2 ∈ L.map (·.2)
  few : L.length ≤ i
theorem Has.next {ks L L' : List (Addr × List Int)} {i : Nat} {x : Addr × List Int} (g : Has ks i L) (h : ks[i]? = some x) (c1 : x.2 ∈ L.map (·.2) → L' = L) (c2 : x.2 ∉ L.map (·.2) → L'.Perm ((x.1, x.2) :: L)) : Has ks (i + 1) L' := by
  have tk : ks.take (i + 1) = ks.take i ++ [x] := by rw [List.take_succ, h]; rfl
  rcases Classical.em (x.2 ∈ L.map (·.2)) with c | c
  · rw [c1 c]
    refine { from_ := fun p hp => tk ▸ List.mem_append_left _ (g.from_ p hp), each := fun p hp => ?_, few := Nat.le_succ_of_le g.few }
    rw [tk, List.mem_append, List.mem_singleton] at hp
    exact hp.elim (g.each p) fun e => e ▸ c
  · have pm := c2 c
    refine { from_ := fun p hp => ?_, each := fun p hp => ?_, few := ?_ }
    · rw [tk, List.mem_append, List.mem_singleton]
      exact (List.mem_cons.mp (pm.mem_iff.mp hp)).elim .inr fun z => .inl (g.from_ p z)
    · rw [tk, List.mem_append, List.mem_singleton] at hp
      refine (pm.map (·.2)).mem_iff.mpr (hp.elim (fun z => List.mem_cons_of_mem _ (g.each p z)) fun z => ?_)
      subst z
      exact List.mem_cons_self
    · have := pm.length_eq
      simp only [List.length_cons] at this
      have := g.few
      omega
/-- the loop of set.update over tuples -/
theorem update_loop {I : Addr} {fp wr : List Addr} {G : Array GenState → Array GenState → Prop} {Pv : Nat → Value → Prop} {St : Nat → Shared → Prop} {R : Result → Shared → Prop} (ks : List (Addr × List Int))
    (W : WalksS P w A.in1 I fp wr G ks.length Pv St) (S : Addr) (off : S ∉ fp) (few : ks.length ≤ 1000) (val : ∀ i v, Pv i v → ∃ p, ks[i]? = some p ∧ v = .ref p.1)
    (h0 : Heap) (tups : ∀ p ∈ ks, IsT P w h0 p.2 p.1) (new : h0.get? S = none) (wr0 : ∀ b ∈ wr, h0.get? b = none) (un : A.in1.units < cLine)
    (fin : ∀ s' L es ep t s0, Moved (S :: wr) G s0 s' → SetG P w s'.heap S L es ep t → Has ks ks.length L → (∀ b o, h0.get? b = some o → s'.heap.get? b = some o) → s0 = s → R (.ok (.ret .none)) s') :
    ∀ (k i : Nat) (s1 : Shared), ks.length - i = k → i ≤ ks.length → St i s1 → Moved (S :: wr) G s s1 → (∀ b o, h0.get? b = some o → s1.heap.get? b = some o) → (∃ L es ep t, SetG P w s1.heap S L es ep t ∧ Has ks i L) →
      codeAny (model P w) A (.builtin "set.update.loop" ⟨[.ref S, .ref I], []⟩) R s1 := by
  have offw : S ∉ wr := fun z => off (W.sub _ z)
  have up : ∀ b ∈ wr, b ∈ S :: wr := fun b => List.mem_cons_of_mem _
  have old : ∀ {u v : Shared}, Moved wr G u v → (∀ b o, h0.get? b = some o → u.heap.get? b = some o) → ∀ b o, h0.get? b = some o → v.heap.get? b = some o := fun mv z b o e => by
    refine mv.heap b o (fun hb => ?_) (z b o e)
    rw [wr0 b hb] at e
    cases e
  intro k
  induction k with
  | zero =>
    rintro i s1 hk hi st mv z ⟨L, es, ep, t, R1, g⟩
    obtain rfl : i = ks.length := by omega
    refine codeAny_builtin F.entry_set_update_loop ?_
    rw [Around.under_plainId F.plain_set_update_loop _]
    show wpAny _ A.in1 (pyNext (.ref I) >>= _) _ _ s1
    refine wpAny_bind (W.done s1 _ _ st fun s2 mv2 => ?_)
    have z2 := old mv2 z
    exact wpAny_pure (fin s2 L es ep t s (Moved.trans W.gtrans mv (mv2.mono up)) (R1.keep (fun o e => mv2.heap S o offw e) fun p hp => isT_keep (tups p (List.mem_of_mem_take (g.from_ p hp))) z2) g z2 rfl)
  | succ k ih =>
    rintro i s1 hk hi st mv z ⟨L, es, ep, t, R1, g⟩
    have lt : i < ks.length := by omega
    refine codeAny_builtin F.entry_set_update_loop ?_
    rw [Around.under_plainId F.plain_set_update_loop _]
    show wpAny _ A.in1 (pyNext (.ref I) >>= _) _ _ s1
    refine wpAny_bind (W.item i s1 _ _ lt st fun v s2 pv st2 mv2 => ?_)
    obtain ⟨p, hp, rfl⟩ := val i v pv
    have z2 := old mv2 z
    have mem := List.mem_of_getElem? hp
    have R2 : SetG P w s2.heap S L es ep t := R1.keep (fun o e => mv2.heap S o offw e) fun q hq => isT_keep (tups q (List.mem_of_mem_take (g.from_ q hq))) z2
    have this : IsT P w s2.heap p.2 p.1 := isT_keep (tups p mem) z2
    show wpAny _ A.in1 (holding [Value.ref p.1] (setAdd S (.ref p.1)) >>= _) _ _ s2
    refine wpAny_bind (wpAny_holding ?_)
    unfold setAdd
    refine wpAny_holding (wpAny_bind (wpAny_pyHash_tuple un this ?_))
    refine add (s := { s2 with toks := s2.toks + (p.2.length + 1) }) R2 this un (by have := g.few; omega) fun b h3 L3 es3 ep3 t3 sb R3 c1 c2 => ?_
    have z3 : ∀ b o, h0.get? b = some o → h3.get? b = some o := fun b o e => (sb.2 b fun eq => by rw [eq, new] at e; cases e).trans (z2 b o e)
    have st3 := W.frame (i + 1) s2 h3 (s2.toks + (p.2.length + 1)) st2 (Nat.le_add_right _ _) fun b hb o e => (sb.2 b fun eq => off (eq ▸ hb)).trans e
    refine wpAny_pure ⟨plainId_quiet F.plain_set_update_loop _, ih (i + 1) _ (by omega) lt st3 ?_ z3 ⟨L3, es3, ep3, t3, R3, g.next hp c1 c2⟩⟩
    exact Moved.trans W.gtrans mv ((mv2.mono up).then_heap (Nat.le_add_right _ _) fun b o hb e => (sb.2 b fun eq => hb (eq ▸ List.mem_cons_self)).trans e)
end
end SG
set_option maxHeartbeats 4000000
namespace SG
open PySem L2 PySem.Spec PyProof.Rows
section
variable {P : Program} {w : World} {A : Around} {E : Value → Shared → Prop} {s : Shared}
/-- the heap with a new set -/
abbrev withSet (w : World) (h : Heap) : Heap := h.push (newSet w)
set_option maxHeartbeats 8000000 in
/-- set(xs), xs a list of tuples of whole numbers -/
theorem call_set {l : Addr} {items : Array Value} (ks : List (Addr × List Int)) {Q : Value → Shared → Prop} (calm : A.handled = none) (hl : s.heap.IsList l items) (hit : items.toList = ks.map fun p => Value.ref p.1)
    (tups : ∀ p ∈ ks, IsT P w s.heap p.2 p.1) (few : ks.length ≤ 1000) (un : A.units + 3 < cLine)
    (q : ∀ (h' : Heap) (tk : Nat) L es ep t, SetG P w h' s.heap.objs.size L es ep t → Has ks ks.length L → (∀ b o, s.heap.get? b = some o → h'.get? b = some o) → Q (.ref s.heap.objs.size) { s with heap := h', toks := tk }) :
    wpAny (model P w) A (call (.type "set") [.ref l]) Q E s := by
  have size : items.size = ks.length := by
    rw [← Array.length_toList, hit, List.length_map]
  obtain ⟨c, tl, hmro⟩ := F.called_set.mro
  have made := F.called_set.made
  have sub := F.called_set.sub
  refine wpAny_call (codeAny_of_tree ?_)
  show wpAny _ _ (callAny (.type "set") _) _ _ _
  refine wpAny_pure ⟨Code.quiet_builtin _ (by decide +kernel), codeAny_builtin F.entry_type_call ?_⟩
  rw [Around.under_plain (weight_type_call_type "set" [.ref l] []) rfl]
  have noType := F.called_set.notType
  have can := F.called_set.canCreate
  have tc := F.typeCall_set_1 (.ref l)
  repeat (any_goals (first | assumption | wp_step))

  refine codeAny_mono (code_set_led1 (.ref l) (E := E) (Q₁ := fun obj s₁ => obj = .ref s.heap.objs.size ∧ s₁ = { s with heap := withSet w s.heap }) ⟨rfl, rfl⟩) fun r s₁ hr => ?_
  cases r with
  | error e => exact hr
  | ok fl =>
    cases fl with
    | ret obj =>
      obtain ⟨rfl, rfl⟩ := hr
      have at_ : (withSet w s.heap).get? s.heap.objs.size = some (newSet w) := Heap.get?_push_size _ rfl
      have ty : Shared.TypeIs { s with heap := withSet w s.heap } (.ref s.heap.objs.size) "set" := ⟨_, at_, rfl⟩
      have li := F.called_set.init.lookup
      have bi := F.called_set.init.bind (.ref s.heap.objs.size)
      repeat (any_goals (first | assumption | wp_step))

      refine codeAny_mono (codeAny_call_builtin (R := wants (fun r s₂ => r = .none ∧ ∃ h' tk L es ep t, s₂ = { s with heap := h', toks := tk } ∧ SetG P w h' s.heap.objs.size L es ep t ∧ Has ks ks.length L ∧
          (∀ b o, s.heap.get? b = some o → h'.get? b = some o)) E) F.called_set.init.plain F.entry_set_init (check_set_init_1 ty ?_)) fun r₂ s₂ hr₂ => ?_
      · obtain ⟨ol, hol, hcl, nl, hdl⟩ := hl
        obtain ⟨ocls, odict, odata, oslots⟩ := ol
        simp only at hcl hdl
        subst hcl; subst hdl
        have hol' : (withSet w s.heap).get? l = some { cls := .type "list", dict := odict, data := .seq items nl, slots := oslots } := Heap.get?_push_of_some _ hol
        have n1 := F.sub_list_set
        have n2 := F.sub_list_frozenset
        have n3 : (Value.type "list" == Value.type "dict") = false := by decide
        have lst : (withSet w s.heap).IsList l items := ⟨_, hol', rfl, nl, rfl⟩
        have lt : l < s.heap.objs.size := Heap.lt_size hol
        have sz : (withSet w s.heap).objs.size = s.heap.objs.size + 1 := Heap.size_push ..
        unfold Builtin.«set.__init__» noKeywords Builtin.Frozenset.updateFrom
        generalize hPI : pyIter = PI
        wp_walk
        subst hPI

        refine wpAny_pyIter_list lst ?_
        refine wpAny_bind (wpAny_runValue ?_)
        have calm3 : A.in1.in1.in1.handled = none := by simp [calm]
        have ne : l ≠ (withSet w s.heap).objs.size := by
          rw [sz]
          exact Nat.ne_of_lt (Nat.lt_succ_of_lt lt)
        have off : s.heap.objs.size ∉ [(withSet w s.heap).objs.size, l] := by
          rw [sz]
          simp only [List.mem_cons, List.not_mem_nil, or_false, not_or]
          exact ⟨Nat.ne_of_lt (Nat.lt_succ_self _), Nat.ne_of_gt lt⟩
        have val : ∀ (i : Nat) (v : Value), items[i]? = some v → ∃ p, ks[i]? = some p ∧ v = .ref p.1 := fun i v hv => by
          rw [← Array.getElem?_toList, hit, List.getElem?_map, Option.map_eq_some_iff] at hv
          obtain ⟨p, h1, h2⟩ := hv
          exact ⟨p, h1, h2.symm⟩
        have none_ : ∀ b, s.heap.objs.size ≤ b → s.heap.get? b = none := fun b hb => by
          cases z : s.heap.get? b with
          | none => rfl
          | some o => exact absurd (Nat.lt_of_lt_of_le (Heap.lt_size z) hb) (Nat.lt_irrefl _)
        have W := (Walks.list (prog := P) (w := w) calm3 _ l ne items).toS
        rw [size] at W
        refine update_loop ks W s.heap.objs.size off few val s.heap tups (none_ _ (Nat.le_refl _)) (fun b hb => none_ b ?_) un ?fin (ks.length - 0) 0 _ rfl (Nat.zero_le _) ⟨⟨_, Heap.get?_push_size _ rfl, rfl, rfl⟩, lst.push _⟩ (Moved.refl (fun a => rfl)) (fun b o e => Heap.get?_push_of_some _ (Heap.get?_push_of_some _ e)) ⟨[], #[], 0, _, setG_new (Heap.get?_push_of_some _ at_), ⟨fun p hp => (nomatch hp), fun p hp => by simp at hp, Nat.le_refl _⟩⟩
        · rw [List.mem_singleton.mp hb, sz]
          exact Nat.le_succ _
        case fin =>
          intro s' L es ep t s0 mv R g old e0
          subst e0
          obtain ⟨h', g2, d', tk', os'⟩ := s'
          obtain rfl : g2 = s.gens := mv.gens
          obtain rfl : d' = s.drawn := mv.drawn
          obtain rfl : os' = s.os := mv.os
          show wpAny _ _ _ _ _ _
          refine wpAny_pure ?_
          show wpAny _ _ (ret Value.none) _ _ _
          exact wpAny_pure ⟨rfl, h', tk', L, es, ep, t, rfl, R, g, old⟩

      · cases r₂ with
        | error e => exact hr₂
        | ok fl₂ =>
          cases fl₂ with
          | ret r =>
            obtain ⟨rfl, h', tk, L, es, ep, t, rfl, R, g, old⟩ := hr₂
            repeat (any_goals (first | assumption | wp_step))
            exact q _ _ _ _ _ _ R g old
          | _ => exact hr₂.elim
    | _ => exact hr.elim
end
end SG
set_option maxHeartbeats 4000000
namespace SG
open PySem L2 PySem.Spec PyProof.Rows
/-- pairs, by their parts -/
def ltL (x y : List Int) : Bool := SrtO.lexB (x.getD 0 0, x.getD 1 0) (y.getD 0 0, y.getD 1 0)
section
variable {P : Program} {w : World} {A : Around} {E : Value → Shared → Prop} {s : Shared}
theorem pair_at {h : Heap} {k : List Int} {b : Addr} (x : IsT P w h k b) (two : k.length = 2) : Srt.IsPair h (.ref b) (k.getD 0 0) (k.getD 1 0) := by
  obtain ⟨o, its, n, ho, hc, hd, hi⟩ := x
  have hi := ints_of_items hi
  obtain ⟨l⟩ := its
  match k, two with
  | [i, j], _ =>
    have hi : IntsAre l [i, j] := hi
    cases hi with
    | cons _ t1 r =>
      cases r with
      | cons _ t2 r =>
        cases r
        exact ⟨b, o, t1, t2, n, rfl, ho, hc, hd⟩
/-- whose address it is -/
def whose (L : List (Addr × List Int)) (v : Value) : List Int := match v with
  | .ref b => ((L.find? fun q => decide (q.1 = b)).map (·.2)).getD []
  | _ => []
theorem whose_ok {L : List (Addr × List Int)} (one : ∀ q ∈ L, ∀ r ∈ L, q.1 = r.1 → q = r) {q : Addr × List Int} (hq : q ∈ L) : whose L (.ref q.1) = q.2 := by
  unfold whose
  dsimp only
  cases e : L.find? fun r => decide (r.1 = q.1) with
  | none =>
    have := List.find?_eq_none.mp e q hq
    simp at this
  | some r =>
    have h1 := List.mem_of_find?_eq_some e
    have h2 := List.find?_some e
    simp only [decide_eq_true_eq] at h2
    rw [one r h1 q hq h2]
    rfl
theorem sorted_setG {a : Addr} {L : List (Addr × List Int)} {es : Array (Int × Value)} {ep : Nat} {t : SetTable} {Q : Value → Shared → Prop} (R : SetG P w s.heap a L es ep t) (calm : A.handled = none) (two : ∀ p ∈ L, p.2.length = 2)
    (q : ∀ s' p (out : Array Value) (c : Nat) (L' : List (Addr × List Int)), (∀ b o, s.heap.get? b = some o → s'.heap.get? b = some o) → s'.gens = s.gens → s'.os = s.os → s.heap.objs.size ≤ p →
      s'.heap.get? p = some (seqObj "list" out c) → out.toList = L'.map (fun q => Value.ref q.1) → L'.Perm L → L'.Pairwise (fun x y => ltL y.2 x.2 = false) → Q (.ref p) s') :
    wpAny (model P w) A (call (.builtin "sorted") [.ref a]) Q E s := by
  obtain ⟨o, ho, hex, hd⟩ := R.ob
  have sz := rows_len R.rows
  have room := R.room
  have few := R.few
  have one : ∀ q ∈ L, ∀ r ∈ L, q.1 = r.1 → q = r := fun q hq r hr e => Prod.ext e ((e ▸ R.tup q hq).inj (R.tup r hr))
  refine Calls.call_function_entry kind_sorted plain_sorted entry_sorted (args_sorted1 _) ?_
  unfold Builtin.«sorted»
  refine wpAny_bind (m := checkCount "sorted" 1 1 _) (wpAny_pure ?_)
  refine wpAny_bind (collect_set (A := A.in1) calm ⟨o, ho, hex.1, hd⟩ R.fits (by unfold scanBound; omega) R.tab.up R.led fun s1 vs k1 hz g1 o1 pm => ?_)
  have pm : vs.Perm (L.map fun q => Value.ref q.1) := by
    have e : es.toList.map (·.2) = L.map fun q => Value.ref q.1 := by
      rw [R.rows]
      unfold rowsOf
      rw [List.map_map]
      rfl
    exact e ▸ pm
  have len : vs.length = L.length := by rw [pm.length_eq, List.length_map]
  have big : vs.length ≤ sizeLine := by rw [sizeLine_eq]; omega
  refine wpAny_bind (wpAny_newList ?_ big)
  have hoL : (s1.heap.push (seqObj "list" vs.toArray 0)).get? s1.heap.objs.size = some (seqObj "list" vs.toArray 0) := Heap.get?_push_size _ rfl
  have from_ : ∀ v ∈ vs, ∃ q ∈ L, v = Value.ref q.1 := fun v hv => by
    obtain ⟨q, hq, e⟩ := List.mem_map.mp (pm.mem_iff.mp hv)
    exact ⟨q, hq, e.symm⟩
  let k : Value → Int × Int := fun v => ((whose L v).getD 0 0, (whose L v).getD 1 0)
  have pairs : ∀ v ∈ vs, Srt.IsPair (s1.heap.push (seqObj "list" vs.toArray 0)) v (k v).1 (k v).2 := fun v hv => by
    obtain ⟨q, hq, rfl⟩ := from_ v hv
    have := pair_at (isT_keep (R.tup q hq) fun b u e => Heap.get?_push_of_some _ (k1 b u e)) (two q hq) (h := s1.heap.push (seqObj "list" vs.toArray 0))
    show Srt.IsPair _ _ ((whose L (.ref q.1)).getD 0 0) ((whose L (.ref q.1)).getD 1 0)
    rw [whose_ok one hq]
    exact this
  refine wpAny_bind (wpAny_holding (wpAny_call_entry slot_list_sort ⟨_, hoL, rfl⟩ entry_list_sort (SrtO.list_sort_ord (s := { s1 with heap := s1.heap.push (seqObj "list" vs.toArray 0) }) (SrtO.swo_lex k) hoL big (fun h2 => SrtO.pairs_sortableO (by omega) pairs fun u e => ?_) fun out hs hb => ⟨_, rfl, ?_⟩) (args_list_sort _)))
  · have e := e.symm.trans hoL
    cases e
    intro c
    exact absurd (Value.type.inj c) (by decide)
  obtain ⟨c, hc⟩ := sortedHeap_at (vs := vs) (out := out.toArray) hoL
  have names : ∀ l : List Value, (∀ v ∈ l, ∃ q ∈ L, v = Value.ref q.1) → ∃ L1 : List (Addr × List Int), l = L1.map (fun q => Value.ref q.1) ∧ ∀ q ∈ L1, q ∈ L := by
    intro l
    induction l with
    | nil => exact fun _ => ⟨[], rfl, fun q hq => nomatch hq⟩
    | cons v l ih =>
      intro hv
      obtain ⟨q, hq, rfl⟩ := hv v List.mem_cons_self
      obtain ⟨L1, rfl, h1⟩ := ih fun u hu => hv u (List.mem_cons_of_mem _ hu)
      exact ⟨q :: L1, rfl, fun r hr => (List.mem_cons.mp hr).elim (fun z => z ▸ hq) (h1 r)⟩
  obtain ⟨L', rfl, sub⟩ := names out fun v hv => from_ v (hb.perm.mem_iff.mp hv)
  have ndL : L.Nodup := nodup_of_map R.nd
  have pmL : L'.Perm L := by
    have pr : (L'.map fun q => Value.ref q.1).Perm (L.map fun q => Value.ref q.1) := hb.perm.trans pm
    have ndr : (L.map fun q => Value.ref q.1).Nodup := List.pairwise_map.mpr (List.Pairwise.imp_of_mem (fun {x y} hx hy ne e => ne (one x hx y hy (by injection e))) ndL)
    refine (List.perm_ext_iff_of_nodup (nodup_of_map (pr.nodup_iff.mpr ndr)) ndL).mpr fun x => ⟨sub x, fun hx => ?_⟩
    obtain ⟨y, hy, e⟩ := List.mem_map.mp (pr.mem_iff.mpr (List.mem_map_of_mem (f := fun q : Addr × List Int => Value.ref q.1) hx))
    injection e with e
    exact one y (sub y hy) x hx e ▸ hy
  refine wpAny_pure ⟨_, rfl, q _ s1.heap.objs.size _ c L' (fun b u e => ?_) g1 o1 hz hc rfl pmL ?_⟩
  · have z := k1 b u e
    have lt := Heap.lt_size z
    show (sortedHeap _ s1.heap.objs.size vs _).get? b = some u
    rw [sortedHeap_old (Nat.ne_of_lt lt) (by rw [size_push']; exact Nat.lt_succ_of_lt lt)]
    exact Heap.get?_push_of_some _ z
  · refine List.Pairwise.imp_of_mem (fun {x y} hx hy h => ?_) (List.pairwise_map.mp hs)
    have h : SrtO.lexB (k (.ref y.1)) (k (.ref x.1)) = false := h
    have ex : whose L (.ref x.1) = x.2 := whose_ok one (sub x hx)
    have ey : whose L (.ref y.1) = y.2 := whose_ok one (sub y hy)
    unfold ltL
    rw [← ex, ← ey]
    exact h
end
end SG
set_option maxHeartbeats 4000000
namespace SG
open PySem L2 PySem.Spec PyProof.Rows
section
variable {P : Program} {w : World} {A : Around} {E : Value → Shared → Prop} {s : Shared}
set_option maxHeartbeats 8000000 in
/-- set(xs), xs a list of whole numbers -/
theorem call_setI {l : Addr} {items : Array Value} (ns : List Int) {Q : Value → Shared → Prop} (calm : A.handled = none) (hl : s.heap.IsList l items) (hit : IntsAre items.toList ns) (few : ns.length + 1 < scanBound)
    (q : ∀ (h' : Heap) (tk c : Nat), SetR w h' s.heap.objs.size (fun j => decide (j ∈ ns)) c → c ≤ ns.length → (∀ b o, s.heap.get? b = some o → h'.get? b = some o) → Q (.ref s.heap.objs.size) { s with heap := h', toks := tk }) :
    wpAny (model P w) A (call (.type "set") [.ref l]) Q E s := by
  have size : items.size = ns.length := by
    rw [← Array.length_toList]
    exact IntsAre.length hit
  obtain ⟨c, tl, hmro⟩ := F.called_set.mro
  have made := F.called_set.made
  have sub := F.called_set.sub
  refine wpAny_call (codeAny_of_tree ?_)
  show wpAny _ _ (callAny (.type "set") _) _ _ _
  refine wpAny_pure ⟨Code.quiet_builtin _ (by decide +kernel), codeAny_builtin F.entry_type_call ?_⟩
  rw [Around.under_plain (weight_type_call_type "set" [.ref l] []) rfl]
  have noType := F.called_set.notType
  have can := F.called_set.canCreate
  have tc := F.typeCall_set_1 (.ref l)
  repeat (any_goals (first | assumption | wp_step))

  refine codeAny_mono (code_set_led1 (.ref l) (E := E) (Q₁ := fun obj s₁ => obj = .ref s.heap.objs.size ∧ s₁ = { s with heap := withSet w s.heap }) ⟨rfl, rfl⟩) fun r s₁ hr => ?_
  cases r with
  | error e => exact hr
  | ok fl =>
    cases fl with
    | ret obj =>
      obtain ⟨rfl, rfl⟩ := hr
      have at_ : (withSet w s.heap).get? s.heap.objs.size = some (newSet w) := Heap.get?_push_size _ rfl
      have ty : Shared.TypeIs { s with heap := withSet w s.heap } (.ref s.heap.objs.size) "set" := ⟨_, at_, rfl⟩
      have li := F.called_set.init.lookup
      have bi := F.called_set.init.bind (.ref s.heap.objs.size)
      repeat (any_goals (first | assumption | wp_step))

      refine codeAny_mono (codeAny_call_builtin (R := wants (fun r s₂ => r = .none ∧ ∃ h' tk c, s₂ = { s with heap := h', toks := tk } ∧ SetR w h' s.heap.objs.size (fun j => decide (j ∈ ns)) c ∧ c ≤ ns.length ∧
          (∀ b o, s.heap.get? b = some o → h'.get? b = some o)) E) F.called_set.init.plain F.entry_set_init (check_set_init_1 ty ?_)) fun r₂ s₂ hr₂ => ?_
      · obtain ⟨ol, hol, hcl, nl, hdl⟩ := hl
        obtain ⟨ocls, odict, odata, oslots⟩ := ol
        simp only at hcl hdl
        subst hcl; subst hdl
        have hol' : (withSet w s.heap).get? l = some { cls := .type "list", dict := odict, data := .seq items nl, slots := oslots } := Heap.get?_push_of_some _ hol
        have n1 := F.sub_list_set
        have n2 := F.sub_list_frozenset
        have n3 : (Value.type "list" == Value.type "dict") = false := by decide
        have lst : (withSet w s.heap).IsList l items := ⟨_, hol', rfl, nl, rfl⟩
        have lt : l < s.heap.objs.size := Heap.lt_size hol
        have sz : (withSet w s.heap).objs.size = s.heap.objs.size + 1 := Heap.size_push ..
        unfold Builtin.«set.__init__» noKeywords Builtin.Frozenset.updateFrom
        generalize hPI : pyIter = PI
        wp_walk
        subst hPI

        refine wpAny_pyIter_list lst ?_
        refine wpAny_bind (wpAny_runValue ?_)
        have calm3 : A.in1.in1.in1.handled = none := by simp [calm]
        have ne : l ≠ (withSet w s.heap).objs.size := by
          rw [sz]
          exact Nat.ne_of_lt (Nat.lt_succ_of_lt lt)
        have off : s.heap.objs.size ∉ [(withSet w s.heap).objs.size, l] := by
          rw [sz]
          simp only [List.mem_cons, List.not_mem_nil, or_false, not_or]
          exact ⟨Nat.ne_of_lt (Nat.lt_succ_self _), Nat.ne_of_gt lt⟩
        have val : ∀ (i : Nat) (v : Value), items[i]? = some v → ∃ k t, ns[i]? = some k ∧ v = .int k t := fun i v hv => by
          rw [← Array.getElem?_toList] at hv
          obtain ⟨k, t, h1, h2⟩ := hit.at i v hv
          exact ⟨k, t, h2, h1⟩
        have none_ : ∀ b, s.heap.objs.size ≤ b → s.heap.get? b = none := fun b hb => by
          cases z : s.heap.get? b with
          | none => rfl
          | some o => exact absurd (Nat.lt_of_lt_of_le (Heap.lt_size z) hb) (Nat.lt_irrefl _)
        have W := (Walks.list (prog := P) (w := w) calm3 _ l ne items).toS
        refine set_update_ints W s.heap.objs.size off ns size few val (items.size - 0) 0 _ rfl (Nat.zero_le _) ⟨⟨_, Heap.get?_push_size _ rfl, rfl, rfl⟩, lst.push _⟩ ⟨0, Nat.le_refl _, setR_new_at (Heap.get?_push_of_some _ at_)⟩ fun s' c mv le R => ?_
        have old : ∀ b o, s.heap.get? b = some o → s'.heap.get? b = some o := fun b o e => by
          refine mv.heap b o (fun hb => ?_) (Heap.get?_push_of_some _ (Heap.get?_push_of_some _ e))
          have z : s.heap.objs.size ≤ b := by
            simp only [List.mem_cons, List.not_mem_nil, or_false] at hb
            rcases hb with rfl | rfl
            · exact Nat.le_refl _
            · rw [sz]; exact Nat.le_succ _
          rw [none_ b z] at e
          cases e
        obtain ⟨h', g2, d', tk', os'⟩ := s'
        obtain rfl : g2 = s.gens := mv.gens
        obtain rfl : d' = s.drawn := mv.drawn
        obtain rfl : os' = s.os := mv.os
        show wpAny _ _ _ _ _ _
        refine wpAny_pure ?_
        show wpAny _ _ (ret Value.none) _ _ _
        exact wpAny_pure ⟨rfl, h', tk', c, rfl, R, by rw [← size]; exact le, old⟩

      · cases r₂ with
        | error e => exact hr₂
        | ok fl₂ =>
          cases fl₂ with
          | ret r =>
            obtain ⟨rfl, h', tk, c, rfl, R, le, old⟩ := hr₂
            repeat (any_goals (first | assumption | wp_step))
            exact q _ _ _ R le old
          | _ => exact hr₂.elim
    | _ => exact hr.elim
end
end SG
set_option maxHeartbeats 4000000
namespace DL
open PySem L2 PySem.Spec PyProof.Rows SG
/-! ### sorted lists of whole numbers; their sets -/
def insI (x : Int) : List Int → List Int
  | [] => [x]
  | y :: l => if x ≤ y then x :: y :: l else y :: insI x l
def srt : List Int → List Int
  | [] => []
  | x :: l => insI x (srt l)
theorem insI_perm (x : Int) : ∀ l, (insI x l).Perm (x :: l)
  | [] => .refl _
  | y :: l => by
    unfold insI
    split
    · exact .refl _
    · exact ((insI_perm x l).cons y).trans (.swap x y l)
theorem srt_perm : ∀ l, (srt l).Perm l
  | [] => .refl _
  | x :: l => (insI_perm x _).trans ((srt_perm l).cons x)
theorem insI_pw (x : Int) : ∀ l : List Int, l.Pairwise (· ≤ ·) → (insI x l).Pairwise (· ≤ ·)
  | [], _ => List.pairwise_singleton _ _
  | y :: l, h => by
    unfold insI
    have h1 := List.pairwise_cons.mp h
    split
    · rename_i c
      refine List.pairwise_cons.mpr ⟨fun z hz => ?_, h⟩
      rcases List.mem_cons.mp hz with e | e
      · omega
      · have := h1.1 z e; omega
    · rename_i c
      refine List.pairwise_cons.mpr ⟨fun z hz => ?_, insI_pw x l h1.2⟩
      rcases List.mem_cons.mp ((insI_perm x l).mem_iff.mp hz) with e | e
      · omega
      · exact h1.1 z e
theorem srt_pw : ∀ l, (srt l).Pairwise (· ≤ ·)
  | [] => .nil
  | x :: l => insI_pw x _ (srt_pw l)
theorem pw_uniq : ∀ {l m : List Int}, l.Perm m → l.Pairwise (· ≤ ·) → m.Pairwise (· ≤ ·) → l = m
  | [], m, p, _, _ => p.nil_eq
  | x :: l, [], p, _, _ => absurd p.length_eq (by simp)
  | x :: l, y :: m, p, h1, h2 => by
    have a := List.pairwise_cons.mp h1
    have b := List.pairwise_cons.mp h2
    have e : x = y := by
      have m1 : y ∈ x :: l := p.mem_iff.mpr List.mem_cons_self
      have m2 : x ∈ y :: m := p.mem_iff.mp List.mem_cons_self
      rcases List.mem_cons.mp m1 with z | z
      · exact z.symm
      · rcases List.mem_cons.mp m2 with u | u
        · exact u
        · have := a.1 y z; have := b.1 x u; omega
    subst e
    rw [pw_uniq ((List.perm_cons x).mp p) a.2 b.2]
theorem srt_uniq {l m : List Int} (p : m.Perm l) (h : m.Pairwise (· ≤ ·)) : m = srt l := pw_uniq (p.trans (srt_perm l).symm) h (srt_pw l)
theorem mem_srt {l : List Int} {x : Int} : x ∈ srt l ↔ x ∈ l := (srt_perm l).mem_iff
theorem srt_len (l : List Int) : (srt l).length = l.length := (srt_perm l).length_eq
def insU (x : Int) : List Int → List Int
  | [] => [x]
  | y :: l => if x < y then x :: y :: l else if x = y then y :: l else y :: insU x l
def setI : List Int → List Int
  | [] => []
  | x :: l => insU x (setI l)
theorem mem_insU {x z : Int} : ∀ {l : List Int}, z ∈ insU x l ↔ z = x ∨ z ∈ l
  | [] => by simp [insU]
  | y :: l => by
    unfold insU
    split
    · simp
    · split
      · rename_i e; subst e; simp
      · simp only [List.mem_cons, mem_insU (l := l)]
        constructor
        · rintro (h | h | h)
          · exact .inr (.inl h)
          · exact .inl h
          · exact .inr (.inr h)
        · rintro (h | h | h)
          · exact .inr (.inl h)
          · exact .inl h
          · exact .inr (.inr h)
theorem mem_setI {z : Int} : ∀ {l : List Int}, z ∈ setI l ↔ z ∈ l
  | [] => by simp [setI]
  | y :: l => by
    show z ∈ insU y (setI l) ↔ _
    rw [mem_insU, mem_setI (l := l), List.mem_cons]
theorem insU_pw (x : Int) : ∀ l : List Int, l.Pairwise (· < ·) → (insU x l).Pairwise (· < ·)
  | [], _ => List.pairwise_singleton _ _
  | y :: l, h => by
    unfold insU
    have h1 := List.pairwise_cons.mp h
    split
    · refine List.pairwise_cons.mpr ⟨fun z hz => ?_, h⟩
      rcases List.mem_cons.mp hz with e | e
      · omega
      · have := h1.1 z e; omega
    · split
      · exact h
      · refine List.pairwise_cons.mpr ⟨fun z hz => ?_, insU_pw x l h1.2⟩
        rcases mem_insU.mp hz with e | e
        · omega
        · exact h1.1 z e
theorem setI_pw : ∀ l, (setI l).Pairwise (· < ·)
  | [] => .nil
  | x :: l => insU_pw x _ (setI_pw l)
theorem lt_uniq : ∀ {l m : List Int}, (∀ k, k ∈ l ↔ k ∈ m) → l.Pairwise (· < ·) → m.Pairwise (· < ·) → l = m
  | [], [], _, _, _ => rfl
  | [], y :: m, h, _, _ => absurd ((h y).mpr List.mem_cons_self) (by simp)
  | x :: l, [], h, _, _ => absurd ((h x).mp List.mem_cons_self) (by simp)
  | x :: l, y :: m, h, h1, h2 => by
    have a := List.pairwise_cons.mp h1
    have b := List.pairwise_cons.mp h2
    have e : x = y := by
      rcases List.mem_cons.mp ((h y).mpr List.mem_cons_self) with z | z
      · exact z.symm
      · rcases List.mem_cons.mp ((h x).mp List.mem_cons_self) with u | u
        · exact u
        · have := a.1 y z; have := b.1 x u; omega
    subst e
    rw [lt_uniq (fun k => ?_) a.2 b.2]
    have hk := h k
    simp only [List.mem_cons] at hk
    constructor
    · intro z
      rcases hk.mp (.inr z) with u | u
      · have := a.1 k z; omega
      · exact u
    · intro z
      rcases hk.mpr (.inr z) with u | u
      · have := b.1 k z; omega
      · exact u
theorem setI_uniq {l m : List Int} (p : ∀ k, k ∈ m ↔ k ∈ l) (h : m.Pairwise (· < ·)) : m = setI l := lt_uniq (fun k => (p k).trans mem_setI.symm) h (setI_pw l)
theorem setI_len (l : List Int) : (setI l).length ≤ l.length := nat_le l
where
  nat_ins (x : Int) : ∀ l, (insU x l).length ≤ l.length + 1
    | [] => Nat.le_refl _
    | y :: l => by
      unfold insU
      split
      · exact Nat.le_refl _
      · split
        · exact Nat.le_succ _
        · exact Nat.succ_le_succ (nat_ins x l)
  nat_le : ∀ l, (setI l).length ≤ l.length
    | [] => Nat.le_refl _
    | x :: l => Nat.le_trans (nat_ins x _) (Nat.succ_le_succ (nat_le l))
/-! ### pairs -/
abbrev I2 := Int × Int
def pD (p : I2) : D := .tup [.int p.1, .int p.2]
def lt2 (p q : I2) : Prop := p.1 < q.1 ∨ p.1 = q.1 ∧ p.2 < q.2
instance (p q : I2) : Decidable (lt2 p q) := by unfold lt2; infer_instance
theorem lt2_tri (p q : I2) : lt2 p q ∨ p = q ∨ lt2 q p := by
  obtain ⟨a, b⟩ := p
  obtain ⟨c, d⟩ := q
  unfold lt2
  simp only [Prod.mk.injEq]
  omega
theorem lt2_tr {p q r : I2} (h : lt2 p q) (h' : lt2 q r) : lt2 p r := by
  unfold lt2 at *
  omega
theorem lt2_ir {p : I2} : ¬ lt2 p p := by
  unfold lt2
  omega
theorem lt2_as {p q : I2} (h : lt2 p q) (h' : lt2 q p) : False := lt2_ir (lt2_tr h h')
def insP (x : I2) : List I2 → List I2
  | [] => [x]
  | y :: l => if lt2 x y then x :: y :: l else if x = y then y :: l else y :: insP x l
def setP : List I2 → List I2
  | [] => []
  | x :: l => insP x (setP l)
theorem mem_insP {x z : I2} : ∀ {l : List I2}, z ∈ insP x l ↔ z = x ∨ z ∈ l
  | [] => by simp [insP]
  | y :: l => by
    unfold insP
    split
    · simp
    · split
      · rename_i e; subst e; simp
      · simp only [List.mem_cons, mem_insP (l := l)]
        constructor
        · rintro (h | h | h)
          · exact .inr (.inl h)
          · exact .inl h
          · exact .inr (.inr h)
        · rintro (h | h | h)
          · exact .inr (.inl h)
          · exact .inl h
          · exact .inr (.inr h)
theorem mem_setP {z : I2} : ∀ {l : List I2}, z ∈ setP l ↔ z ∈ l
  | [] => by simp [setP]
  | y :: l => by
    show z ∈ insP y (setP l) ↔ _
    rw [mem_insP, mem_setP (l := l), List.mem_cons]
theorem insP_pw (x : I2) : ∀ l : List I2, l.Pairwise lt2 → (insP x l).Pairwise lt2
  | [], _ => List.pairwise_singleton _ _
  | y :: l, h => by
    unfold insP
    have h1 := List.pairwise_cons.mp h
    split
    · rename_i c
      refine List.pairwise_cons.mpr ⟨fun z hz => ?_, h⟩
      rcases List.mem_cons.mp hz with e | e
      · exact e ▸ c
      · exact lt2_tr c (h1.1 z e)
    · split
      · exact h
      · rename_i c1 c2
        refine List.pairwise_cons.mpr ⟨fun z hz => ?_, insP_pw x l h1.2⟩
        rcases mem_insP.mp hz with e | e
        · subst e
          exact ((lt2_tri z y).resolve_left c1).resolve_left c2
        · exact h1.1 z e
theorem setP_pw : ∀ l, (setP l).Pairwise lt2
  | [] => .nil
  | x :: l => insP_pw x _ (setP_pw l)
theorem lt2_uniq : ∀ {l m : List I2}, (∀ k, k ∈ l ↔ k ∈ m) → l.Pairwise lt2 → m.Pairwise lt2 → l = m
  | [], [], _, _, _ => rfl
  | [], y :: m, h, _, _ => absurd ((h y).mpr List.mem_cons_self) (by simp)
  | x :: l, [], h, _, _ => absurd ((h x).mp List.mem_cons_self) (by simp)
  | x :: l, y :: m, h, h1, h2 => by
    have a := List.pairwise_cons.mp h1
    have b := List.pairwise_cons.mp h2
    have e : x = y := by
      rcases List.mem_cons.mp ((h y).mpr List.mem_cons_self) with z | z
      · exact z.symm
      · rcases List.mem_cons.mp ((h x).mp List.mem_cons_self) with u | u
        · exact u
        · exact (lt2_as (a.1 y z) (b.1 x u)).elim
    subst e
    rw [lt2_uniq (fun k => ?_) a.2 b.2]
    have hk := h k
    simp only [List.mem_cons] at hk
    constructor
    · intro z
      rcases hk.mp (.inr z) with u | u
      · subst u; exact (lt2_ir (a.1 k z)).elim
      · exact u
    · intro z
      rcases hk.mpr (.inr z) with u | u
      · subst u; exact (lt2_ir (b.1 k z)).elim
      · exact u
theorem setP_uniq {l m : List I2} (p : ∀ k, k ∈ m ↔ k ∈ l) (h : m.Pairwise lt2) : m = setP l := lt2_uniq (fun k => (p k).trans mem_setP.symm) h (setP_pw l)
theorem setP_len (l : List I2) : (setP l).length ≤ l.length := go l
where
  ins (x : I2) : ∀ l, (insP x l).length ≤ l.length + 1
    | [] => Nat.le_refl _
    | y :: l => by
      unfold insP
      split
      · exact Nat.le_refl _
      · split
        · exact Nat.le_succ _
        · exact Nat.succ_le_succ (ins x l)
  go : ∀ l, (setP l).length ≤ l.length
    | [] => Nat.le_refl _
    | x :: l => Nat.le_trans (ins x _) (Nat.succ_le_succ (go l))
end DL
set_option maxHeartbeats 4000000
namespace DL
open PySem L2 PySem.Spec PyProof.Rows SG
/-! ### sets, over the layer -/
theorem nodup_le : ∀ (l D : List Int), l.Nodup → (∀ x ∈ l, x ∈ D) → l.length ≤ D.length
  | [], _, _, _ => Nat.zero_le _
  | x :: l, D, h, s => by
    have h := List.nodup_cons.mp h
    have m := s x List.mem_cons_self
    have ih := nodup_le l (D.erase x) h.2 fun y hy => (List.mem_erase_of_ne fun e => h.1 (by rw [← e]; exact hy)).mpr (s y (List.mem_cons_of_mem _ hy))
    rw [List.length_erase_of_mem m] at ih
    have := List.length_pos_of_mem m
    show l.length + 1 ≤ _
    omega
/-- the set at a, without its tuples -/
def SetG0 (P : Program) (w : World) (h : Heap) (a : Addr) (L : List (Addr × List Int)) : Prop := ∃ (es : Array (Int × Value)) (ep : Nat) (t : SetTable), (∃ o, h.get? a = some o ∧ o.ExactSet ∧ o.data = .set es ep t) ∧ es.toList = rowsOf P w L ∧ TabG t (L.map fun p => thash P w p.2) ∧ (L.map (·.2)).Nodup ∧ t.plain = true ∧
    (w.params.followText "set-order" = true ∨ t.led = true) ∧ L.length * 5 < t.mask * 3 ∧ t.mask ≤ 8100 ∧ L.length ≤ 1000
def SetGO (P : Program) (w : World) (a : Addr) (L : List (Addr × List Int)) : HO := .ext fun h => SetG0 P w h a L
theorem setGO_new {P : Program} {w : World} {H : Hp} {h : Heap} {a : Addr} {L : List (Addr × List Int)} {es : Array (Int × Value)} {ep : Nat} {t : SetTable} (R : SetG P w h a L es ep t) : ObjOk P w H h a (SetGO P w a L) := by
  have ⟨o, ho, r⟩ := R.ob
  refine ⟨⟨es, ep, t, R.ob, R.rows, R.tab, R.nd, R.pl, R.led, R.room, R.small, R.few⟩, ⟨o, ho⟩, fun h1 h2 p k => ?_⟩
  have p : SetG0 P w h1 a L := p
  obtain ⟨es', ep', t', ⟨o', ho', r'⟩, q'⟩ := p
  exact ⟨es', ep', t', ⟨o', k o' ho', r'⟩, q'⟩
section
variable {X : Cx}
/-- set(xs), tuples of whole numbers -/
def rSetG (K : PySem.W.Frag) (P : Program) (w : World) : List V → Hp → VK → Prop := fun xs H Q => ∃ (l : Addr) (ks : List (Addr × List Int)), xs = [V.ref l] ∧ SqL K H l (ks.map fun p => V.ref p.1) ∧ (∀ p ∈ ks, SqT K H p.1 (p.2.map V.int)) ∧ ks.length ≤ 1000 ∧
  ∀ a L, H a = none → (∀ p ∈ L, p ∈ ks) → (∀ p ∈ ks, p.2 ∈ L.map (·.2)) → Q (.ref a) (upd H a (SetGO P w a L))
theorem cr_setG (hc : X.calm = true) (hu : X.A.units + 65 < cLine) : CallR X (.type "set") (rSetG X.K X.prog X.w) := by
  intro pins s σ H xs us Q I r h
  obtain ⟨l, ks, rfl, hl, hk, few, q⟩ := h
  rw [Vals.ref1 r]
  obtain ⟨its, rv, pl, _⟩ := I.list hl
  refine call_set ks (I.ok.hd hc) pl.isList (by simpa using refs_of_vals rv) (fun p hp => I.isT (hk p hp)) few (by omega) fun h' tk L es ep t R g k => ?_
  refine ⟨.ref s.heap.objs.size, upd H s.heap.objs.size (SetGO X.prog X.w s.heap.objs.size L), I.laid (t' := tk) k (Nat.le_refl _) (setGO_new R), rfl, q _ L (I.hok.fresh (Nat.le_refl _)) (fun p hp => ?_) fun p hp => ?_⟩
  · exact List.mem_of_mem_take (g.from_ p hp)
  · exact g.each p (by rw [List.take_length]; exact hp)
/-- sorted(set) of pairs -/
def rSortG (K : PySem.W.Frag) (P : Program) (w : World) : List V → Hp → VK → Prop := fun vs H Q => ∃ (a : Addr) (L : List (Addr × List Int)), vs = [V.ref a] ∧ H a = some (SetGO P w a L) ∧ (∀ p ∈ L, SqT K H p.1 (p.2.map V.int)) ∧ (∀ p ∈ L, p.2.length = 2) ∧
  ∀ (L' : List (Addr × List Int)) (p : Addr), L'.Perm L → (L'.map (·.2)).Nodup → L'.Pairwise (fun x y => ltL y.2 x.2 = false) → H p = none → Q (.ref p) (upd H p (.lst (L'.map fun q => V.ref q.1)))
theorem cr_sortG (hc : X.calm = true) : CallR X (.builtin "sorted") (rSortG X.K X.prog X.w) := by
  intro pins s σ H vs us Q I r h
  obtain ⟨a, L, rfl, ha, hk, two, q⟩ := h
  have R0 : SetG0 X.prog X.w s.heap a L := (I.hok a _ ha).1
  obtain ⟨es, ep, t, b1, b2, b3, b4, b5, b6, b7, b8, b9⟩ := R0
  have R : SetG X.prog X.w s.heap a L es ep t := { ob := b1, rows := b2, tab := b3, nd := b4, tup := fun p hp => I.isT (hk p hp), pl := b5, led := b6, room := b7, small := b8, few := b9 }
  rw [Vals.ref1 r]
  refine sorted_setG R (I.ok.hd hc) two fun s' p out c L' k g o hp hg hout pm pw => ?_
  have hlen : (L'.map fun q => V.ref q.1).length ≤ sizeLine := by rw [List.length_map, pm.length_eq, sizeLine_eq]; omega
  have hn : H p = none := I.hok.fresh hp
  have hv : Vals (L'.map fun q => V.ref q.1) out.toList := by rw [hout]; exact vals_of_refs L'
  have J : Inv X pins σ (upd H p (.lst (L'.map fun q => V.ref q.1))) { s with heap := s'.heap, gens := s'.gens, drawn := s'.drawn, toks := s'.toks } :=
    I.call (ch := []) (Un.laid k hp hn) (I.hok.laid k hp ⟨hlen, out.toList, c, hv, hg⟩) (by rw [g]; exact I.bare) (fun _ z => nomatch z)
  have e : s' = { s with heap := s'.heap, gens := s'.gens, drawn := s'.drawn, toks := s'.toks } := by
    cases s'
    cases s
    cases o
    rfl
  rw [e]
  exact ⟨.ref p, _, J, rfl, q L' p pm ((pm.map (·.2)).nodup_iff.mpr b4) pw hn⟩
/-- set(xs), whole numbers -/
def rSetI (K : PySem.W.Frag) (w : World) : List V → Hp → VK → Prop := fun xs H Q => ∃ (l : Addr) (ns : List Int), xs = [V.ref l] ∧ SqL K H l (ns.map V.int) ∧ ns.length ≤ 1000 ∧
  ∀ a, H a = none → Q (.ref a) (upd H a (SetO w a (fun j => decide (j ∈ ns)) (setI ns).length))
theorem cr_setI (hc : X.calm = true) : CallR X (.type "set") (rSetI X.K X.w) := by
  intro pins s σ H xs us Q I r h
  obtain ⟨l, ns, rfl, hl, few, q⟩ := h
  rw [Vals.ref1 r]
  obtain ⟨its, rv, pl, _⟩ := I.list hl
  refine call_setI ns (I.ok.hd hc) pl.isList (by simpa using ints_of_vals rv) (by unfold scanBound; omega) fun h' tk c R le k => ?_
  have ec : c = (setI ns).length := by
    obtain ⟨o, es, ep, t, ho, hex, hd, g, nd, mem, _, _, hn, _⟩ := R
    have a := nodup_le (es.toList.map keyOf) (setI ns) nd fun x hx => mem_setI.mpr (of_decide_eq_true ((mem x).mpr hx))
    have b := nodup_le (setI ns) (es.toList.map keyOf) ((setI_pw ns).imp fun h => Int.ne_of_lt h) fun x hx => (mem x).mp (decide_eq_true (mem_setI.mp hx))
    simp only [List.length_map, Array.length_toList] at a b
    omega
  subst ec
  exact ⟨.ref s.heap.objs.size, _, I.laid (t' := tk) k (Nat.le_refl _) (setO_new R), rfl, q _ (I.hok.fresh (Nat.le_refl _))⟩
/-- len of a set -/
def rLenS (w : World) : List V → Hp → VK → Prop := fun xs H Q => ∃ (a : Addr) (S : Int → Bool) (n : Nat), xs = [V.ref a] ∧ H a = some (SetO w a S n) ∧ Q (.int n) H
theorem cr_lenS : CallR X (.builtin "len") (rLenS X.w) := by
  intro pins s σ H xs us Q I r h
  obtain ⟨a, S, n, rfl, ha, q⟩ := h
  rw [Vals.ref1 r]
  obtain ⟨o, es, ep, t, ho, hex, hd, _, _, _, hb, hf, hn, _⟩ := setO_get I ha
  have hb : es.size < 4096 := hb
  refine call_len_set ho hex hd hf (by omega) ⟨.int n, H, I.tok _, ⟨_, by rw [hn]⟩, q⟩
end
/-! ### data -/
def stI (w : World) (a : Addr) (ns : List Int) : D := .ob a (SetO w a (fun j => decide (j ∈ ns)) (setI ns).length)
def fSetI (w : World) (ds : List D) (μ : Mu) (Q : D → Mu → Prop) : Prop := ∃ (d : D) (ns : List Int), ds = [d] ∧ lvr μ d = some (ns.map D.int) ∧ ns.length ≤ 1000 ∧ ∀ a, Q (stI w a ns) μ
def fLenS (w : World) (ds : List D) (μ : Mu) (Q : D → Mu → Prop) : Prop := ∃ (a : Addr) (ns : List Int), ds = [stI w a ns] ∧ Q (.int (setI ns).length) μ
def fInS (w : World) (neg : Bool) : F2 := fun x y μ Q => ∃ (k : Int) (a : Addr) (ns : List Int), x = .int k ∧ y = stI w a ns ∧ Q (.bl (if neg = true then !decide (k ∈ ns) else decide (k ∈ ns))) μ
section
variable {K : PySem.W.Frag} {w w' : World}
theorem dc_setI (e : w' = w) : DCa K (rSetI K w) (fSetI w') := by
  subst e
  rintro F μ H vs ds Q0 Q s dv ⟨d, ns, rfl, el, few, h⟩ q
  obtain ⟨v, r, rfl, d1, rfl⟩ := dv
  obtain ⟨l, xs, rfl, r, dl⟩ := lvr_ok s d1 el
  refine ⟨l, ns, rfl, by rw [← DVs.ints dl]; exact r, few, fun a ha => ?_⟩
  have f := s.free ha
  exact q _ _ _ (stI w' a ns) _ (Grow.new f.1) (s.put ha) ⟨rfl, upd_same⟩ (h a)
theorem dc_lenS (e : w' = w) : DCa K (rLenS w) (fLenS w') := by
  subst e
  rintro F μ H vs ds Q0 Q s dv ⟨a, ns, rfl, h⟩ q
  obtain ⟨v, r, rfl, ⟨rfl, e⟩, rfl⟩ := dv
  exact ⟨a, _, _, rfl, s.sub _ _ e, q F μ H (.int _) _ Grow.refl s rfl h⟩
theorem do_inS (e : w' = w) : DOp K (rSIn w) (fInS w' false) := by
  subst e
  rintro F μ H x y dx dy Q0 Q s d1 d2 ⟨k, a, ns, rfl, rfl, h⟩ q
  obtain rfl : x = V.int k := d1
  obtain ⟨rfl, e⟩ := d2
  exact ⟨k, a, _, _, rfl, rfl, s.sub _ _ e, q F μ H (.bl _) _ Grow.refl s rfl h⟩
theorem do_ninS (e : w' = w) : DOp K (rSNotIn w) (fInS w' true) := by
  subst e
  rintro F μ H x y dx dy Q0 Q s d1 d2 ⟨k, a, ns, rfl, rfl, h⟩ q
  obtain rfl : x = V.int k := d1
  obtain ⟨rfl, e⟩ := d2
  exact ⟨k, a, _, _, rfl, rfl, s.sub _ _ e, q F μ H (.bl _) _ Grow.refl s rfl h⟩
end
/-- sorted(xs), whole numbers -/
def fSort (ds : List D) (μ : Mu) (Q : D → Mu → Prop) : Prop := ∃ (d : D) (ns : List Int), ds = [d] ∧ lvr μ d = some (ns.map D.int) ∧ ∀ p, μ p = none → Q (.mut p) (um μ p (.lst ((srt ns).map D.int)))
theorem dc_sort {K : PySem.W.Frag} : DCa K (rSortedI K) fSort := by
  rintro F μ H vs ds Q0 Q s dv ⟨d, ns, rfl, el, h⟩ q
  obtain ⟨v, r, rfl, d1, rfl⟩ := dv
  obtain ⟨l, xs, rfl, r, dl⟩ := lvr_ok s d1 el
  refine ⟨l, ns, rfl, by rw [← DVs.ints dl]; exact r, fun ns' p pm pw hp => ?_⟩
  obtain rfl := srt_uniq pm pw
  have f := s.free hp
  exact q F _ _ (.mut p) _ Grow.refl (s.cell (m := .lst _) f.1 ⟨_, upd_same, DVs.of_ints⟩) rfl (h p f.2)
/-- sorted(d) of a dict's keys, whole numbers, fewer than 64 -/
abbrev rSortDI : List V → Hp → VK → Prop := fun xs H Q => ∃ (a : Addr) (kvs : List (Key × V)) (ks : List Int), xs = [.ref a] ∧ Rd H a (.dK kvs) ∧ kvs.map (·.1) = ks.map Sum.inl ∧ ks.length < 64 ∧
    ∀ (ys : List Int) (p : Addr), ys.Perm ks → ys.Pairwise (· ≤ ·) → H p = none → Q (.ref p) (upd H p (.lst (ys.map V.int)))
def dkeys (μ : Mu) : D → Option (List Key)
  | .dK ks _ => some ks
  | .mut a => match μ a with
    | some (.dK kvs) => some (kvs.map (·.1))
    | _ => none
  | _ => none
def fSortD (ds : List D) (μ : Mu) (Q : D → Mu → Prop) : Prop := ∃ (d : D) (ns : List Int), ds = [d] ∧ dkeys μ d = some (ns.map Sum.inl) ∧ ns.length < 64 ∧ ∀ p, μ p = none → Q (.mut p) (um μ p (.lst ((srt ns).map D.int)))
theorem dc_sortD {K : PySem.W.Frag} : DCa K rSortDI fSortD := by
  rintro F μ H vs ds Q0 Q s dv ⟨d, ns, rfl, el, few, h⟩ q
  obtain ⟨v, r, rfl, d1, rfl⟩ := dv
  have key : ∃ a kvs, v = V.ref a ∧ H a = some (.dK kvs) ∧ kvs.map (·.1) = ns.map Sum.inl := by
    unfold dkeys at el
    split at el
    · obtain ⟨a, kvs, rfl, e, k, _⟩ := d1
      cases el
      exact ⟨a, kvs, rfl, s.sub _ _ e, k⟩
    · rename_i a
      obtain rfl : v = V.ref a := d1
      split at el
      · rename_i kvs em
        obtain ⟨_, ys, ho, kd⟩ := s.cel a _ em
        exact ⟨a, ys, rfl, ho, kd.1.trans (Option.some.inj el)⟩
      · cases el
    · cases el
  obtain ⟨a, kvs, rfl, e, k⟩ := key
  refine ⟨a, kvs, ns, rfl, .inl e, k, few, fun ys p pm pw hp => ?_⟩
  obtain rfl := srt_uniq pm pw
  have f := s.free hp
  exact q F _ _ (.mut p) _ Grow.refl (s.cell (m := .lst _) f.1 ⟨_, upd_same, DVs.of_ints⟩) rfl (h p f.2)
/-! ### sorted(set(xs)) -/
def fSortSetI (ds : List D) (μ : Mu) (Q : D → Mu → Prop) : Prop := ∃ (d : D) (ns : List Int), ds = [d] ∧ lvr μ d = some (ns.map D.int) ∧ ns.length ≤ 1000 ∧ (setI ns).length < 64 ∧ ∀ p, μ p = none → Q (.mut p) (um μ p (.lst ((setI ns).map D.int)))
def fSortSetP (ds : List D) (μ : Mu) (Q : D → Mu → Prop) : Prop := ∃ (d : D) (ps : List I2), ds = [d] ∧ lvr μ d = some (ps.map pD) ∧ ps.length ≤ 1000 ∧ ∀ p, μ p = none → Q (.mut p) (um μ p (.lst ((setP ps).map pD)))
/-- where the pairs stand -/
theorem DVs.pairs {K : PySem.W.Frag} {F : Hp} : ∀ {ps : List I2} {xs : List V}, DVs K F (ps.map pD) xs → ∃ ks : List (Addr × List Int), xs = ks.map (fun q => V.ref q.1) ∧ ks.map (·.2) = ps.map (fun p => [p.1, p.2]) ∧ ∀ q ∈ ks, F q.1 = some (.tup (q.2.map V.int))
  | [], _, h => ⟨[], h, rfl, fun q hq => nomatch hq⟩
  | p :: ps, _, h => by
    obtain ⟨v, vs, rfl, ⟨a, xs, rfl, e, dl⟩, r⟩ := h
    obtain ⟨ks, rfl, h2, h3⟩ := DVs.pairs r
    have e2 : xs = [V.int p.1, V.int p.2] := DVs.ints (ns := [p.1, p.2]) dl
    subst e2
    refine ⟨(a, [p.1, p.2]) :: ks, rfl, by rw [List.map_cons, List.map_cons, h2], fun q hq => ?_⟩
    rcases List.mem_cons.mp hq with rfl | z
    · exact e
    · exact h3 q z
theorem DVs.of_pairs {K : PySem.W.Frag} {F : Hp} : ∀ {ps : List I2} {ks : List (Addr × List Int)}, ks.map (·.2) = ps.map (fun p => [p.1, p.2]) → (∀ q ∈ ks, F q.1 = some (.tup (q.2.map V.int))) → DVs K F (ps.map pD) (ks.map fun q => V.ref q.1)
  | [], [], _, _ => rfl
  | [], _ :: _, h, _ => by simp at h
  | _ :: _, [], h, _ => by simp at h
  | p :: ps, k :: ks, h, f => by
    rw [List.map_cons, List.map_cons] at h
    injection h with h1 h2
    have e := f k List.mem_cons_self
    rw [h1] at e
    exact DVs.cons ⟨k.1, _, rfl, e, DVs.of_ints (ns := [p.1, p.2])⟩ (DVs.of_pairs h2 fun q hq => f q (List.mem_cons_of_mem _ hq))
section
variable {X : Cx} {W : WX} {E : EX} {e : Expr} {tas : TA} {was : WA}
theorem dn_sortsetI (ha : DnA X.K W E tas was) : Dn X.K W E (tCB (rSortedSet X.w) (tCons (tCB (rSetI X.K X.w) tas) tNil)) (wCB fSortSetI was) := by
  intro F μ H ρ σ Q0 Q s h q
  refine ha F μ H ρ σ _ _ s h fun F1 μ1 H1 ds vs g1 s1 dv ⟨d, ns, e1, el, few, f64, h1⟩ => ?_
  subst e1
  obtain ⟨v, r, rfl, d1, rfl⟩ := dv
  obtain ⟨l, xs, rfl, r, dl⟩ := lvr_ok s1.ok d1 el
  refine ⟨l, ns, rfl, by rw [← DVs.ints dl]; exact r, few, fun a ha => ?_⟩
  refine ⟨a, _, _, rfl, upd_same, f64, fun ms p pw mem len hp => ?_⟩
  obtain rfl : ms = setI ns := setI_uniq (fun k => (mem k).trans decide_eq_true_iff) pw
  have s2 := s1.ok.junk (o := SetO X.w a (fun j => decide (j ∈ ns)) (setI ns).length) ha
  have f := s2.free hp
  exact q F1 _ _ (.mut p) _ g1 (s1.mono Grow.refl (s2.cell (m := .lst _) f.1 ⟨_, upd_same, DVs.of_ints⟩)) rfl (h1 p f.2)
theorem dn_sortsetP (ha : DnA X.K W E tas was) : Dn X.K W E (tCB (rSortG X.K X.prog X.w) (tCons (tCB (rSetG X.K X.prog X.w) tas) tNil)) (wCB fSortSetP was) := by
  intro F μ H ρ σ Q0 Q s h q
  refine ha F μ H ρ σ _ _ s h fun F1 μ1 H1 ds vs g1 s1 dv ⟨d, ps, e1, el, few, h1⟩ => ?_
  subst e1
  obtain ⟨v, r, rfl, d1, rfl⟩ := dv
  obtain ⟨l, xs, rfl, r, dl⟩ := lvr_ok s1.ok d1 el
  obtain ⟨ks, rfl, e2, at_⟩ := DVs.pairs dl
  have kl : ks.length = ps.length := by have := congrArg List.length e2; simpa using this
  refine ⟨l, ks, rfl, r, fun p hp => .of (s1.ok.sub _ _ (at_ p hp)), by omega, fun a L ha sub all => ?_⟩
  have s2 := s1.ok.junk (o := SetGO X.prog X.w a L) ha
  have pairL : ∀ q ∈ L, ∃ p : I2, p ∈ ps ∧ q.2 = [p.1, p.2] := fun q hq => by
    have m : q.2 ∈ ks.map (·.2) := List.mem_map_of_mem (sub q hq)
    rw [e2] at m
    obtain ⟨p, hp, z⟩ := List.mem_map.mp m
    exact ⟨p, hp, z.symm⟩
  refine ⟨a, L, rfl, upd_same, fun p hp => .of (s2.sub _ _ (at_ p (sub p hp))), fun p hp => ?_, fun L' p pm nd pw hp => ?_⟩
  · obtain ⟨z, _, e⟩ := pairL p hp
    rw [e]; rfl
  have f := s2.free hp
  have eq : L'.map (·.2) = (setP ps).map fun p => [p.1, p.2] := by
    have e3 : L'.map (·.2) = ((L'.map fun q => ((q.2.getD 0 0, q.2.getD 1 0) : I2))).map fun p => [p.1, p.2] := by
      rw [List.map_map]
      refine List.map_congr_left fun q hq => ?_
      obtain ⟨z, _, e⟩ := pairL q (pm.mem_iff.mp hq)
      simp [e]
    rw [e3]
    congr 1
    refine setP_uniq (fun k => ⟨fun hk => ?_, fun hk => ?_⟩) (List.pairwise_map.mpr ?_)
    · obtain ⟨q, hq, rfl⟩ := List.mem_map.mp hk
      obtain ⟨z, hz, e⟩ := pairL q (pm.mem_iff.mp hq)
      simpa [e] using hz
    · have m : [k.1, k.2] ∈ ks.map (·.2) := by rw [e2]; exact List.mem_map.mpr ⟨k, hk, rfl⟩
      obtain ⟨q0, hq0, z⟩ := List.mem_map.mp m
      obtain ⟨q, hq, z2⟩ := List.mem_map.mp (all q0 hq0)
      refine List.mem_map.mpr ⟨q, pm.mem_iff.mpr hq, ?_⟩
      have z3 : q.2 = [k.1, k.2] := z2.trans z
      simp [z3]
    · have nd := List.pairwise_map.mp nd
      have both : L'.Pairwise fun x y => x.2 ≠ y.2 ∧ ltL y.2 x.2 = false := List.Pairwise.and nd pw
      refine List.Pairwise.imp_of_mem (fun {x y} hx hy h => ?_) both
      obtain ⟨h1, h2⟩ := h
      obtain ⟨a1, _, e1⟩ := pairL x (pm.mem_iff.mp hx)
      obtain ⟨a2, _, e2⟩ := pairL y (pm.mem_iff.mp hy)
      have h2 := SrtO.lexB_no.mp h2
      simp only [e1, e2, List.getD_cons_zero, List.getD_cons_succ] at h1 h2 ⊢
      refine (lt2_tri (a1.1, a1.2) (a2.1, a2.2)).resolve_right fun c => ?_
      rcases c with c | c
      · injection c with c1 c2
        exact h1 (by rw [c1, c2])
      · exact h2 c
  exact q F1 _ _ (.mut p) _ g1 (s1.mono Grow.refl (s2.cell (m := .lst _) f.1 ⟨_, upd_same, DVs.of_pairs eq fun q hq => at_ q (sub q (pm.mem_iff.mp hq))⟩)) rfl (h1 p f.2)
end
end DL
set_option maxHeartbeats 4000000
namespace DL
open PySem L2 PySem.Spec PyProof.Rows
/-! ### name = {k: v for ..} -/
section
variable {X : Cx}
theorem sw_trueD {kx vx : Expr} {gs : List Comprehension} {scope : Scope} {pos py : Pos} {y : Str} {l : Nat} {env : Env} (hk : env.scope.kind = .function) (hy : env.scope.names.lookup y = some .local) (hl : (py.line == pos.line) = true)
    (ha : (scope.names.any fun (n, k) => n == y && (k == .local || k == .cell)) = false) : swapsWith (.DictComp kx vx gs scope pos) (some (.Name y py)) l env = pure true := by
  have ky : env.kindOf y = some .local := hy
  have hb : env.blockKind = .function := by
    unfold Env.blockKind
    rw [hk]
    rfl
  unfold swapsWith
  simp only [hb, ky, ha, Expr.pos, hl]
  rfl
theorem ps_setDc {i : Nat} {y : Str} {py : Pos} {kx vx tg iter : Expr} {ifs : List Expr} {scope : Scope} {own : List (Str × Nat)} {pos spos : Pos} {wi : TI} {g : TG} {tt : TT} {tk tv : TE} (hc : X.calm = true) (hN : X.N.Nodup) (hy : X.N[i]? = some y) (hyl : X.env.scope.names.lookup y = some .local)
    (hsw : swapsWith (.DictComp kx vx [⟨tg, iter, ifs, 0⟩] scope pos) (some (.Name y py)) spos.line X.env = pure true) (hi : PI X tg iter wi) (ok : BlkOk X.N X.env.scope scope own)
    (hg : ∀ s H C cl fp, PG (X.blk s H scope (compEnvC scope cl C X.env) fp) tg g) (ht : ∀ s H C cl fp, PTs (X.blk s H scope (compEnvC scope cl C X.env) fp) ifs tt)
    (hk : ∀ s H C cl fp, PE (X.blk s H scope (compEnvC scope cl C X.env) fp) kx tk) (he : ∀ s H C cl fp, PE (X.blk s H scope (compEnvC scope cl C X.env) fp) vx tv) (hs : ∀ x, foldedSetIterable iter X.env x = pure x) :
    PS X (.Assign [.Name y py] (.DictComp kx vx [⟨tg, iter, ifs, 0⟩] scope pos) spos) (tAsg (tDc wi g tt tk tv (own.map (·.2))) (gName i)) := by
  constructor
  intro pins s σ H D I h
  rw [exec_Assign_Name_used _ _ _ _ hsw]
  refine wpAny_bind (wpAny_standAt (wpAny_bind ?_))
  show wpAny _ X.A (do let _ ← comprehension (.DictComp kx vx [⟨tg, iter, ifs, 0⟩] scope pos) scope X.env (firstIterPos [⟨tg, iter, ifs, 0⟩] pos) newDict false (eval iter X.env) (some (assign (.Name y py) X.env))) _ _ s
  have h : tDc wi g tt tk tv (own.map (·.2)) σ H (fun x H1 => gName i x σ H1 D.nx) := h
  refine wpAny_bind (thn (dc_core (Qf := fun _ s' => SP X pins D .next s') hc hN I hi ok hg ht hk he hs h fun L C s' m H' I' q hn f => ?_) fun _ s' hq => wpAny_pure (wpAny_pure hq))
  show wpAny _ _ (assign (.Name y py) X.env (.ref L)) _ _ _
  obtain ⟨f0, f1, f2, f3, f4, f5⟩ := f
  refine wpAny_assign_Name (store_ok2 (v := V.ref L) I' hN hy (.inl hyl) rfl (fun s2 I2 ⟨a, sb, ha⟩ => ?_) (.inr hyl))
  have ne : C ≠ a := ha.elim (fun z => z ▸ f1) fun z e => f4 y a z e.symm
  exact ⟨m, hn.sameBut sb ne, fun h3 sb3 => ⟨_, H', I2.turned (t' := s2.toks) (fun b o hb e => (sb3.2 b hb).trans e) f0 f1 f3 f4 f5, q⟩⟩
end
/-- {k: v for i in ..}: p is the new dict; I of the turn and the cells -/
def wDc (wi : WI) (i : Nat) (vs : List Nat) (tt : WT) (tk tv : WEx) : WEx := fun ρ μ Q => wi ρ μ fun k μ1 => ∀ p, μ1 p = none → ∃ I : Nat → Mu → Prop, I 0 (um μ1 p (.dK [])) ∧ (∀ j μ, I j μ → k.ok μ) ∧
  (∀ j d μ, k.items[j]? = some d → I j μ → tt ((wip ρ vs).set i (some d)) μ fun b μ3 => if b = true then tk ((wip ρ vs).set i (some d)) μ3 fun y μ4 => tv ((wip ρ vs).set i (some d)) μ4 fun z μ5 => ∃ kvs key, μ5 p = some (.dK kvs) ∧ keyD y = some key ∧ kvs.length < 100000 ∧ I (j + 1) (um μ5 p (.dK (putKD kvs key z))) else I (j + 1) μ3) ∧ ∀ μ, I k.items.length μ → Q (.mut p) μ
section
variable {K : PySem.W.Frag} {W : WX} {E : EX}
theorem dn_dc {ti : TI} {wi : WI} {tt : TT} {wt : WT} {tk tv : TE} {wk wv : WEx} {i : Nat} {vs : List Nat} (hi : DnI K W E ti wi) (ht : DnT K noW noE tt wt) (hk : Dn K noW noE tk wk) (he : Dn K noW noE tv wv) (hv : i ∈ vs) : Dn K W E (tDc ti (gName i) tt tk tv vs) (wDc wi i vs wt wk wv) := by
  intro F μ H ρ σ Q0 Q s h q
  refine hi F μ H ρ σ _ _ s h fun F1 μ1 H1 J k g1 s1 kk h1 => ?_
  intro p hp
  have fr := s1.ok.free hp
  obtain ⟨I, i0, hok, step, done⟩ := h1 p fr.2
  refine ⟨fun j m H' => m = k.items.length - j ∧ j ≤ k.items.length ∧ ∃ F' μ', Grow F1 F' ∧ S0 K W E F' μ' H' ρ σ ∧ I j μ', ⟨_, rfl, Nat.zero_le _, F1, _, Grow.refl, s1.mono Grow.refl (s1.ok.cell (m := .dK []) fr.1 ⟨[], upd_same, rfl, DVs.nil⟩), i0⟩, ?_⟩
  rintro j m H2 ⟨rfl, hl, F2, μ2, g2, s2, i2⟩
  by_cases lt : j < k.items.length
  · refine .inr ⟨kk.go F2 μ2 H2 j g2 s2.ok (hok j μ2 i2) lt, fun H' => j + 1 ≤ k.items.length ∧ ∃ F' μ', Grow F1 F' ∧ S0 K W E F' μ' H' ρ σ ∧ I (j + 1) μ', fun H' hN => ⟨k.items.length - (j + 1), by omega, rfl, hN.1, hN.2⟩, fun x H3 y => ?_⟩
    obtain ⟨F3, d, g3, s3, ed, dv⟩ := kk.yld F2 μ2 H2 j x H3 g2 s2.ok (hok j μ2 i2) lt y
    have h3 := step j d μ2 ed i2
    rw [← wip_eq]
    refine ⟨by rw [← wip_eq]; exact wip_set σ (some x) hv, ?_⟩
    have S3 : S0 K W E F3 μ2 H3 ρ σ := s2.mono g3 s3
    have N3 : S0 K noW noE F3 μ2 H3 ((wip ρ vs).set i (some d)) ((wip σ vs).set i (some x)) := ⟨s3, (S3.env.wip (vs := vs)).set dv, fun _ _ _ _ _ _ _ _ _ _ _ _ z => z.elim⟩
    refine ht F3 μ2 H3 _ _ _ _ N3 h3 fun F4 μ4 H4 b g4 s4 h4 => ?_
    have S4 : S0 K W E F4 μ4 H4 ρ σ := S3.mono g4 s4.ok
    cases b with
    | false =>
      simp only [Bool.false_eq_true, if_false] at h4 ⊢
      exact ⟨lt, F4, μ4, g2.trans (g3.trans g4), S4, h4⟩
    | true =>
      simp only [if_true] at h4 ⊢
      refine hk F4 μ4 H4 _ _ _ _ s4 h4 fun F5 μ5 H5 dy yv g5 s5 dvy h5 => ?_
      refine he F5 μ5 H5 _ _ _ _ s5 h5 fun F6 μ6 H6 dz zv g6 s6 dvz ⟨kvs, key, ea, ek, la, h6⟩ => ?_
      obtain ⟨f6, ys, ho, kd⟩ := s6.ok.cel p _ ea
      exact ⟨ys, key, keyD_ok dvy ek, ho, sz5l (by rw [kd.len]; exact la), lt, F6, _, g2.trans (g3.trans (g4.trans (g5.trans g6))), ((S4.mono g5 s5.ok).mono g6 s6.ok).mono Grow.refl (s6.ok.cell (m := .dK _) f6 ⟨_, upd_same, kd.put dvz⟩), h6⟩
  · obtain rfl : j = k.items.length := by omega
    exact .inl ⟨kk.stop F2 μ2 H2 _ g2 s2.ok (hok _ μ2 i2) (Nat.le_refl _), q F2 μ2 H2 (.mut p) (.ref p) (g1.trans g2) s2 rfl (done μ2 i2)⟩
end
section
variable {X : Cx} {W : WX} {E : EX} {kx vx it : Expr} {n y : Str} {np py pos spos : Pos} {ifs : List Expr} {sc : Scope} {ti : TI} {wi : WI} {wt : WT} {wk wv : WEx}
theorem ssetdc (nd : X.N.Nodup) (iy : Nat) (own : List (Str × Nat)) (i : Nat) {vs : List Nat} (hi : DIt X W E (.Name n np) it ti wi) (hg : ∀ u J C cl fp, PG (X.blk u J sc (compEnvC sc cl C X.env) fp) (.Name n np) (gName i)) (ht : ∀ u J C cl fp, ∃ tt, DTs (X.blk u J sc (compEnvC sc cl C X.env) fp) noW noE ifs tt wt)
    (hk : ∀ u J C cl fp, ∃ te, DE (X.blk u J sc (compEnvC sc cl C X.env) fp) noW noE kx te wk) (he : ∀ u J C cl fp, ∃ te, DE (X.blk u J sc (compEnvC sc cl C X.env) fp) noW noE vx te wv) (hc : X.calm = true := by rfl) (hvs : own.map (·.2) = vs := by rfl) (ok : blkC X.N X.env.scope sc own = true := by rfl) (hv : i ∈ own.map (·.2) := by decide) (hs : ∀ x, foldedSetIterable it X.env x = pure x := by intro _; rfl)
    (hy : X.N[iy]? = some y := by rfl) (hyl : X.env.scope.names.lookup y = some .local := by rfl) (hkf : X.env.scope.kind = .function := by rfl) (hl : (py.line == pos.line) = true := by rfl) (ha : (sc.names.any fun (n, k) => n == y && (k == .local || k == .cell)) = false := by rfl) :
    DS X W E (.Assign [.Name y py] (.DictComp kx vx [⟨.Name n np, it, ifs, 0⟩] sc pos) spos) (tAsg (tDc ti (gName i) (tOfT X.K noW noE wt) (tOfE X.K noW noE wk) (tOfE X.K noW noE wv) vs) (gName iy)) (wAsg (wDc wi i vs wt wk wv) (gN iy)) := by
  subst hvs
  exact ⟨ps_setDc hc nd hy hyl (sw_trueD hkf hyl hl ha) hi.pe (blkOk_by ok) hg (fun u J C cl fp => (ht u J C cl fp).elim fun _ h => h.of) (fun u J C cl fp => (hk u J C cl fp).elim fun _ h => h.of) (fun u J C cl fp => (he u J C cl fp).elim fun _ h => h.of) hs, dn_asg (dn_dc hi.dn dn_ofT dn_ofE dn_ofE hv) dg_name⟩
end
section
variable {X : Cx} {W : WX} {E : EX} {kx vx it : Expr} {n : Str} {np pos : Pos} {ifs : List Expr} {sc : Scope} {ti : TI} {wi : WI} {wt : WT} {wk wv : WEx}
theorem edc (nd : X.N.Nodup) (own : List (Str × Nat)) (i : Nat) {vs : List Nat} (hi : DIt X W E (.Name n np) it ti wi) (hg : ∀ u J C cl fp, PG (X.blk u J sc (compEnvC sc cl C X.env) fp) (.Name n np) (gName i)) (ht : ∀ u J C cl fp, ∃ tt, DTs (X.blk u J sc (compEnvC sc cl C X.env) fp) noW noE ifs tt wt)
    (hk : ∀ u J C cl fp, ∃ te, DE (X.blk u J sc (compEnvC sc cl C X.env) fp) noW noE kx te wk) (he : ∀ u J C cl fp, ∃ te, DE (X.blk u J sc (compEnvC sc cl C X.env) fp) noW noE vx te wv) (hc : X.calm = true := by rfl) (hvs : own.map (·.2) = vs := by rfl) (ok : blkC X.N X.env.scope sc own = true := by rfl) (hv : i ∈ own.map (·.2) := by decide) (hs : ∀ x, foldedSetIterable it X.env x = pure x := by intro _; rfl) :
    DE X W E (.DictComp kx vx [⟨.Name n np, it, ifs, 0⟩] sc pos) (tDc ti (gName i) (tOfT X.K noW noE wt) (tOfE X.K noW noE wk) (tOfE X.K noW noE wv) vs) (wDc wi i vs wt wk wv) := by
  subst hvs
  exact ⟨pe_dc hc nd hi.pe (blkOk_by ok) hg (fun u J C cl fp => (ht u J C cl fp).elim fun _ h => h.of) (fun u J C cl fp => (hk u J C cl fp).elim fun _ h => h.of) (fun u J C cl fp => (he u J C cl fp).elim fun _ h => h.of) hs, dn_dc hi.dn dn_ofT dn_ofE dn_ofE hv⟩
end
/-! ### sorted(set(xs)) -/
section
variable {X : Cx} {W : WX} {E : EX} {a : Expr} {tas : TA} {was : WA} {p p2 pos q : Pos}
theorem esortsetI (ms : X.mg "sorted" = none) (mt : X.mg "set" = none) (ha : DA X W E [a] tas was) (hc : X.calm = true := by rfl) (hg : Gl X "sorted" := by rfl) (hg2 : Gl X "set" := by rfl)
    (hs : starEach [a] X.env = (false, eval a X.env) :: starEach [] X.env := by rfl) (hs2 : starEach [.Call (.Name "set" p2) [a] [] q] X.env = (false, eval (.Call (.Name "set" p2) [a] [] q) X.env) :: starEach [] X.env := by rfl) (hpl : (backTo q (starEach [] X.env)).any (·.1) = false := by rfl) (hpl2 : (backTo pos (starEach [] X.env)).any (·.1) = false := by rfl) :
    DE X W E (.Call (.Name "sorted" p) [.Call (.Name "set" p2) [a] [] q] [] pos) (tCB (rSortedSet X.w) (tCons (tCB (rSetI X.K X.w) tas) tNil)) (wCB fSortSetI was) :=
  ⟨pe_callB (cr_sortedSet hc) hg ms (by decide +kernel) (pa_cons (pe_callTy (cr_setI hc) hg2 mt (by decide +kernel) ha.pe (by decide) (by decide) hs hpl) pa_nil hs2) (by decide) (by decide) hs2 hpl2, dn_sortsetI ha.dn⟩
theorem esortsetP (hu : X.A.units + 65 < cLine) (ms : X.mg "sorted" = none) (mt : X.mg "set" = none) (ha : DA X W E [a] tas was) (hc : X.calm = true := by rfl) (hg : Gl X "sorted" := by rfl) (hg2 : Gl X "set" := by rfl)
    (hs : starEach [a] X.env = (false, eval a X.env) :: starEach [] X.env := by rfl) (hs2 : starEach [.Call (.Name "set" p2) [a] [] q] X.env = (false, eval (.Call (.Name "set" p2) [a] [] q) X.env) :: starEach [] X.env := by rfl) (hpl : (backTo q (starEach [] X.env)).any (·.1) = false := by rfl) (hpl2 : (backTo pos (starEach [] X.env)).any (·.1) = false := by rfl) :
    DE X W E (.Call (.Name "sorted" p) [.Call (.Name "set" p2) [a] [] q] [] pos) (tCB (rSortG X.K X.prog X.w) (tCons (tCB (rSetG X.K X.prog X.w) tas) tNil)) (wCB fSortSetP was) :=
  ⟨pe_callB (cr_sortG hc) hg ms (by decide +kernel) (pa_cons (pe_callTy (cr_setG hc hu) hg2 mt (by decide +kernel) ha.pe (by decide) (by decide) hs hpl) pa_nil hs2) (by decide) (by decide) hs2 hpl2, dn_sortsetP ha.dn⟩
end
/-! ### xs.remove(k); d[k] op= e -/
def fRem (o : D) (ds : List D) (μ : Mu) (Q : D → Mu → Prop) : Prop := ∃ (a : Addr) (ns : List Int) (k : Int), o = .mut a ∧ ds = [.int k] ∧ μ a = some (.lst (ns.map D.int)) ∧ k ∈ ns ∧ Q .non (um μ a (.lst ((ns.erase k).map D.int)))
theorem erase_first : ∀ {ns : List Int} {k : Int}, k ∈ ns → ∃ j, ns[j]? = some k ∧ (∀ m : Nat, m < j → ns[m]? ≠ some k) ∧ ns.eraseIdx j = ns.erase k
  | x :: ns, k, h => by
    by_cases e : x = k
    · subst e
      exact ⟨0, rfl, fun m z => absurd z (Nat.not_lt_zero _), by simp⟩
    · obtain ⟨j, h1, h2, h3⟩ := erase_first ((List.mem_cons.mp h).resolve_left fun z => e z.symm)
      refine ⟨j + 1, by simpa using h1, fun m hm => ?_, ?_⟩
      · cases m with
        | zero => simpa using e
        | succ m => simpa using h2 m (by omega)
      · rw [List.eraseIdx_cons_succ, h3, List.erase_cons_tail (by simpa using e)]
theorem dm_rem {K : PySem.W.Frag} : DMe K rRemI fRem := by
  rintro F μ H x vs dx ds Q0 Q s d1 d2 ⟨a, ns, k, rfl, rfl, em, hk, h⟩ q
  obtain rfl : x = V.ref a := d1
  obtain ⟨y, r, rfl, dy, rfl⟩ := d2
  obtain rfl : y = V.int k := dy
  obtain ⟨f, xs, ho, dl⟩ := s.cel a _ em
  obtain ⟨j, h1, h2, h3⟩ := erase_first hk
  refine ⟨a, ns, k, j, rfl, rfl, by rw [← DVs.ints dl]; exact ho, h1, h2, ?_⟩
  rw [h3]
  exact q F _ _ .non _ Grow.refl (s.cell (m := .lst _) f ⟨_, upd_same, DVs.of_ints⟩) rfl h
/-- d[k] op= e of a cell -/
def wAugD (f : F2) (o i v : WEx) : WS := fun D ρ μ => o ρ μ fun x μ1 => i ρ μ1 fun y μ2 => ∃ e, dget μ2 x y = some (some e) ∧ v ρ μ2 fun z μ3 => f e z μ3 fun u μ4 => fSetD x y u μ4 fun μ5 => D.nx ρ μ5
theorem dput_ok {K : PySem.W.Frag} {F H : Hp} {μ : Mu} {o i v : V} {do' di dv : D} {N0 : Mu → Prop} (s : Sok K F μ H) (d1 : DV K F do' o) (d2 : DV K F di i) (d3 : DV K F dv v) (h : fSetD do' di dv μ N0) : ∃ a H5 μ5, o = .ref a ∧ DPut H a i v H5 ∧ Sok K F μ5 H5 ∧ N0 μ5 := by
  unfold fSetD at h
  split at h
  · rename_i a
    obtain rfl : o = V.ref a := d1
    split at h
    · rename_i kvs em
      obtain ⟨hl, k, ek, h⟩ := h
      obtain ⟨f, ys, ho, kd⟩ := s.cel a _ em
      obtain rfl := keyD_ok d2 ek
      exact ⟨a, _, _, rfl, DPut.k ho (sz5l (by rw [kd.len]; exact hl)), s.cell (m := .dK _) f ⟨_, upd_same, kd.put d3⟩, h⟩
    · rename_i kvs em
      obtain ⟨hl, k, ek, h⟩ := h
      obtain ⟨f, ys, ho, kd⟩ := s.cel a _ em
      cases di <;> first | cases ek; done | skip
      all_goals first | skip | cases ek
      obtain ⟨b, xs, rfl, r, dl⟩ := d2
      have hb : H b = some (.tup (k.map kV)) := by rw [← keysD_ok dl ek]; exact s.sub _ _ r
      exact ⟨a, _, _, rfl, DPut.t ho hb (sz5l (by rw [kd.len]; exact hl)), s.cell (m := .dT _) f ⟨_, upd_same, kd.put d3⟩, h⟩
    · exact h.elim
  · exact h.elim
section
variable {X : Cx} {W : WX} {E : EX} {o i v : Expr} {to ti tv : TE} {wo wi wv : WEx} {tpos pos : Pos} {op : Operator} {rd : V → V → Hp → VK → Prop} {f : F2}
theorem saugd (hu : X.A.units + 1 < cLine) (hop : InOp X op rd) (hf : DOp X.K rd f) (ho : DE X W E o to wo) (hi : DE X W E i ti wi) (hv : DE X W E v tv wv)
    (ha : ∀ ov iv new, augStore i ov iv new = (do holding [new, ov, iv] (setItem ov iv new); release [new, ov, iv] []; pure .next) := by intro _ _ _; rfl) : DS X W E (.AugAssign (.Subscript o i tpos) op v pos) (sDAug to ti tv rd) (wAugD f wo wi wv) := by
  refine ⟨ps_daug hu ho.pe hi.pe hv.pe hop ha, ?_⟩
  intro F μ H ρ σ D0 Ds s h q
  refine ho.dn F μ H ρ σ _ _ s h fun F1 μ1 H1 dx x g1 s1 dv1 h1 => ?_
  refine hi.dn F1 μ1 H1 ρ σ _ _ s1 h1 fun F2 μ2 H2 dy y g2 s2 dv2 ⟨e, eo, h2⟩ => ?_
  obtain ⟨p, ov, rfl, g, z⟩ := dget_ok s2.ok (dv1.mono g2) dv2 eo
  rcases z with ⟨z, _⟩ | ⟨e', vv, e1, rfl, z⟩
  · cases z
  cases e1
  refine ⟨p, vv, rfl, g, hv.dn F2 μ2 H2 ρ σ _ _ s2 h2 fun F3 μ3 H3 dz zv g3 s3 dv3 h3 => ?_⟩
  refine hf F3 μ3 H3 vv zv e dz _ _ s3.ok (z.mono g3) dv3 h3 fun F4 μ4 H4 du u g4 s4 dv4 h4 => ?_
  obtain ⟨a, H5, μ5, ea, pt, s5, h5⟩ := dput_ok s4 (dv1.mono (g2.trans (g3.trans g4))) (dv2.mono (g3.trans g4)) dv4 h4
  cases ea
  have g := g1.trans (g2.trans (g3.trans g4))
  exact ⟨H5, pt, q.nx F4 μ5 H5 ρ σ g (s.mono g s5) h5⟩
/-- name op= e -/
def wAugN (i : Nat) (f : F2) (v : WEx) : WS := fun D ρ μ => wVar i ρ μ fun e μ1 => v ρ μ1 fun z μ2 => f e z μ2 fun u μ3 => D.nx (ρ.set i (some u)) μ3
theorem saugn {i : Nat} {x : Str} {pos' pos : Pos} {op : Operator} {e : Expr} {te : TE} {we : WEx} {ti : TIp} {f : F2} (ho : PIp X op ti) (hf : DOp X.K ti f) (he : DE X W E e te we) (nd : X.N.Nodup) (hi : X.N[i]? = some x := by rfl) (hx : Loc X.env.scope x := by exact .inl rfl) (hl : X.fn x = true ∨ X.env.scope.names.lookup x = some .local := by exact .inr rfl) :
    DS X W E (.AugAssign (.Name x pos') op e pos) (tAug i te ti) (wAugN i f we) := by
  refine ⟨ps_aug nd hi hx he.pe ho hl, ?_⟩
  intro F μ H ρ σ D0 Ds s h q
  unfold wAugN wVar at h
  split at h
  · rename_i d ed
    obtain ⟨v, e1, dv⟩ := s.env.2 i d ed
    refine ⟨v, e1, he.dn F μ H ρ σ _ _ s h fun F1 μ1 H1 dz zv g1 s1 dv1 h1 => ?_⟩
    refine hf F1 μ1 H1 v zv d dz _ _ s1.ok (dv.mono g1) dv1 h1 fun F2 μ2 H2 du u g2 s2 dv2 h2 => ?_
    exact q.nx F2 μ2 H2 _ _ (g1.trans g2) ((s1.mono g2 s2).set dv2) h2
  · exact h.elim
end
/-! ### a ghost step: all that a dict holds, for good -/
def fFrzL : List (Key × D) → List (Key × D) → Mu → (List (Key × D) → Mu → Prop) → Prop
  | done, [], μ, Q => Q done μ
  | done, (k, d) :: l, μ, Q => fFrz d μ fun d' μ' => fFrzL (done ++ [(k, d')]) l μ' Q
/-- the dict's cells, then the dict -/
def fFrzD (d : D) (μ : Mu) (Q : D → Mu → Prop) : Prop := match d with
  | .mut a => match μ a with
    | some (.dK kvs) => fFrzL [] kvs (rm μ a) fun kvs' μ' => Q (.dK (kvs'.map (·.1)) (kvs'.map (·.2))) μ'
    | _ => False
  | _ => False
theorem frzL_ok {K : PySem.W.Frag} {H : Hp} {P : Prop} {Q : List (Key × D) → Mu → Prop} : ∀ {l done : List (Key × D)} {ys zs : List (Key × V)} {F : Hp} {μ : Mu}, Sok K F μ H → KD K F done ys → KD K F l zs → fFrzL done l μ Q → (∀ F' μ' kvs', Grow F F' → Sok K F' μ' H → KD K F' kvs' (ys ++ zs) → Q kvs' μ' → P) → P
  | [], done, ys, zs, F, μ, s, h1, h2, h, q => by
    obtain rfl : zs = [] := by have := h2.1; simpa using this
    exact q F μ done Grow.refl s (by rw [List.append_nil]; exact h1) h
  | (k, d) :: l, done, ys, [], F, μ, s, h1, h2, h, q => absurd h2.1 (by simp)
  | (k, d) :: l, done, ys, (k2, v) :: zs, F, μ, s, h1, h2, h, q => by
    obtain ⟨e1, e2⟩ := h2
    rw [List.map_cons, List.map_cons] at e1
    injection e1 with e3 e1
    have e3 : k2 = k := e3
    subst e3
    obtain ⟨u, us, e4, a, r⟩ := e2
    rw [List.map_cons] at e4
    injection e4 with e5 e6
    have e5 : v = u := e5
    subst e5
    rw [← e6] at r
    refine frz_ok s a h fun F1 μ1 d1 g1 s1 dv1 h1' => ?_
    have k1 : KD K F1 (done ++ [(k2, d1)]) (ys ++ [(k2, v)]) := by
      refine ⟨by rw [List.map_append, List.map_append, h1.1]; rfl, ?_⟩
      rw [List.map_append, List.map_append]
      exact (h1.2.mono g1).append (DVs.cons dv1 DVs.nil)
    refine frzL_ok s1 k1 (KD.mono g1 ⟨e1, r⟩) h1' fun F2 μ2 kvs2 g2 s2 k2 h2 => ?_
    rw [List.append_assoc] at k2
    exact q F2 μ2 kvs2 (g1.trans g2) s2 k2 h2
theorem dn_frzD {K : PySem.W.Frag} {W : WX} {E : EX} {ta : TE} {wa : WEx} (ha : Dn K W E ta wa) : Dn K W E ta (wUn fFrzD wa) := by
  intro F μ H ρ σ Q0 Q s h q
  refine ha F μ H ρ σ _ _ s h fun F1 μ1 H1 dx x g1 s1 dv1 h1 => ?_
  unfold fFrzD at h1
  split at h1
  · rename_i a
    obtain rfl : x = V.ref a := dv1
    split at h1
    · rename_i kvs em
      obtain ⟨f, ys, ho, kd⟩ := s1.ok.cel a _ em
      have gn : Grow F1 (upd F1 a (.dK ys)) := Grow.new f
      refine frzL_ok (K := K) (H := H1) (done := []) (ys := []) (s1.ok.frz f ho) ⟨rfl, DVs.nil⟩ (KD.mono gn kd) h1 fun F2 μ2 kvs2 g2 s2 k2 h2 => ?_
      exact q F2 μ2 H1 (.dK _ _) _ (g1.trans (gn.trans g2)) (s1.mono (gn.trans g2) s2) ⟨a, ys, rfl, g2 _ _ upd_same, k2.1, k2.2⟩ h2
    · exact h1.elim
  · exact h1.elim
theorem efrzD {X : Cx} {W : WX} {E : EX} {a : Expr} {ta : TE} {wa : WEx} (h : DE X W E a ta wa) : DE X W E a ta (wUn fFrzD wa) := ⟨h.pe, dn_frzD h.dn⟩
end DL
namespace DL
open PySem L2
theorem do_ipadd {K : PySem.W.Frag} : DOp K (ipI fun i j => i + j) fAdd := do_add
theorem do_ipsub {K : PySem.W.Frag} : DOp K (ipI fun i j => i - j) fSub := do_sub
theorem do_radd {K : PySem.W.Frag} : DOp K rAdd fAdd := do_add
theorem do_rsub {K : PySem.W.Frag} : DOp K rSub fSub := do_sub
end DL
set_option maxHeartbeats 4000000
namespace DL
open PySem L2
/-! ### many list cells at once -/
theorem nm1 {α : Type} {a b : α} {l : List α} (h : a ∉ l) (m : b ∈ l) : a ≠ b := fun e => h (by rw [e]; exact m)
def umz (μ : Mu) : List Addr → List (List D) → Mu
  | p :: ps, l :: ls => um (umz μ ps ls) p (.lst l)
  | _, _ => μ
theorem um_comm {μ : Mu} {a b : Addr} {m n : MO} (h : a ≠ b) : um (um μ a m) b n = um (um μ b n) a m := by
  funext c
  unfold um
  by_cases h1 : c = b
  · subst h1
    rw [if_pos rfl, if_neg (Ne.symm h), if_pos rfl]
  · rw [if_neg h1, if_neg h1]
theorem umz_not {μ : Mu} {a : Addr} : ∀ {ps : List Addr} {ls : List (List D)}, a ∉ ps → umz μ ps ls a = μ a
  | [], _, _ => by unfold umz; rfl
  | p :: ps, [], _ => rfl
  | p :: ps, l :: ls, h => by
    show um (umz μ ps ls) p (.lst l) a = _
    rw [um_ne (nm1 h List.mem_cons_self), umz_not fun z => h (List.mem_cons_of_mem _ z)]
theorem umz_get {μ : Mu} : ∀ {ps : List Addr} {ls : List (List D)} {i : Nat} {p : Addr} {l : List D}, ps.Nodup → ps[i]? = some p → ls[i]? = some l → umz μ ps ls p = some (.lst l)
  | [], _, _, _, _, _, h, _ => by simp at h
  | q :: ps, [], _, _, _, _, _, h => by simp at h
  | q :: ps, m :: ls, 0, p, l, _, h1, h2 => by
    simp at h1 h2
    subst h1 h2
    exact um_same
  | q :: ps, m :: ls, i + 1, p, l, nd, h1, h2 => by
    have nd := List.nodup_cons.mp nd
    simp at h1 h2
    show um (umz μ ps ls) q (.lst m) p = _
    rw [um_ne (nm1 nd.1 (List.mem_of_getElem? h1)).symm]
    exact umz_get nd.2 h1 h2
theorem umz_set {μ : Mu} {l : List D} : ∀ {ps : List Addr} {ls : List (List D)} {i : Nat} {p : Addr}, ps.Nodup → ps.length = ls.length → ps[i]? = some p → um (umz μ ps ls) p (.lst l) = umz μ ps (ls.set i l)
  | [], _, _, _, _, _, h => by simp at h
  | q :: ps, [], _, _, _, h, _ => by simp at h
  | q :: ps, m :: ls, 0, p, _, _, h1 => by
    simp at h1
    subst h1
    show um (um (umz μ ps ls) q (.lst m)) q (.lst l) = um (umz μ ps ls) q (.lst l)
    rw [um_um]
  | q :: ps, m :: ls, i + 1, p, nd, hl, h1 => by
    have nd := List.nodup_cons.mp nd
    simp at h1
    show um (um (umz μ ps ls) q (.lst m)) p (.lst l) = um (umz μ ps (ls.set i l)) q (.lst m)
    rw [um_comm (nm1 nd.1 (List.mem_of_getElem? h1)), umz_set nd.2 (by simpa using hl) h1]
theorem um_umz {μ : Mu} {a : Addr} {m : MO} : ∀ {ps : List Addr} {ls : List (List D)}, a ∉ ps → um (umz μ ps ls) a m = umz (um μ a m) ps ls
  | [], _, _ => by unfold umz; rfl
  | p :: ps, [], _ => rfl
  | p :: ps, l :: ls, h => by
    show um (um (umz μ ps ls) p (.lst l)) a m = um (umz (um μ a m) ps ls) p (.lst l)
    rw [um_comm (nm1 h List.mem_cons_self).symm, um_umz fun z => h (List.mem_cons_of_mem _ z)]
theorem umz_app {μ : Mu} {p : Addr} {l : List D} : ∀ {ps : List Addr} {ls : List (List D)}, ps.length = ls.length → p ∉ ps → umz μ (ps ++ [p]) (ls ++ [l]) = um (umz μ ps ls) p (.lst l)
  | [], [], _, _ => rfl
  | [], _ :: _, h, _ => by simp at h
  | q :: ps, [], h, _ => by simp at h
  | q :: ps, m :: ls, h, hn => by
    show um (umz μ (ps ++ [p]) (ls ++ [l])) q (.lst m) = um (um (umz μ ps ls) q (.lst m)) p (.lst l)
    rw [umz_app (by simpa using h) fun z => hn (List.mem_cons_of_mem _ z), um_comm (nm1 hn List.mem_cons_self)]
theorem le_umz {μ : Mu} : ∀ {ps : List Addr} {ls : List (List D)}, (∀ p ∈ ps, μ p = none) → ps.Nodup → le μ (umz μ ps ls)
  | [], _, _, _ => by unfold umz; exact le.refl
  | p :: ps, [], _, _ => le.refl
  | p :: ps, l :: ls, h, nd => by
    have nd := List.nodup_cons.mp nd
    refine (le_umz (fun q hq => h q (List.mem_cons_of_mem _ hq)) nd.2).trans (le.um ?_)
    rw [umz_not nd.1]
    exact h p List.mem_cons_self
theorem rm_comm {μ : Mu} {a b : Addr} {m : MO} (h : a ≠ b) : rm (um μ b m) a = um (rm μ a) b m := by
  funext c
  by_cases h1 : c = a
  · subst h1
    rw [rm_same, um_ne h, rm_same]
  · rw [rm_ne h1]
    by_cases h2 : c = b
    · subst h2
      rw [um_same, um_same]
    · rw [um_ne h2, um_ne h2, rm_ne h1]
theorem rm_umz {μ : Mu} {a : Addr} : ∀ {ps : List Addr} {ls : List (List D)}, a ∉ ps → rm (umz μ ps ls) a = umz (rm μ a) ps ls
  | [], _, _ => by unfold umz; rfl
  | p :: ps, [], _ => rfl
  | p :: ps, l :: ls, h => by
    show rm (um (umz μ ps ls) p (.lst l)) a = um (umz (rm μ a) ps ls) p (.lst l)
    rw [rm_comm (nm1 h List.mem_cons_self), rm_umz fun z => h (List.mem_cons_of_mem _ z)]
theorem rm_none {μ : Mu} {a : Addr} (h : μ a = none) : rm μ a = μ := by
  funext c
  unfold rm
  split
  · rename_i e; rw [e, h]
  · rfl
/-- all of them for good, in their order -/
theorem frz_umz {μ : Mu} {Q : List (Key × D) → Mu → Prop} : ∀ {ks : List Key} {ps : List Addr} {ls : List (List D)} {done : List (Key × D)}, ps.Nodup → (∀ p ∈ ps, μ p = none) → ks.length = ps.length → ps.length = ls.length →
    Q (done ++ ks.zip (ls.map D.lst)) μ → fFrzL done (ks.zip (ps.map D.mut)) (umz μ ps ls) Q
  | [], [], [], done, _, _, _, _, q => by
    rw [List.zip_nil_left, List.append_nil] at q
    exact q
  | [], _ :: _, _, _, _, _, h, _, _ => by simp at h
  | _ :: _, [], _, _, _, _, h, _, _ => by simp at h
  | [], [], _ :: _, _, _, _, _, h, _ => by simp at h
  | _ :: _, _ :: _, [], _, _, _, _, h, _ => by simp at h
  | k :: ks, p :: ps, l :: ls, done, nd, hf, h1, h2, q => by
    have nd := List.nodup_cons.mp nd
    have e : umz μ (p :: ps) (l :: ls) = um (umz μ ps ls) p (.lst l) := rfl
    rw [List.map_cons, List.zip_cons_cons, e]
    unfold fFrzL fFrz
    dsimp only
    rw [um_same]
    dsimp only
    rw [rm_um (by rw [umz_not nd.1]; exact hf p List.mem_cons_self)]
    refine frz_umz nd.2 (fun q hq => hf q (List.mem_cons_of_mem _ hq)) (by simpa using h1) (by simpa using h2) ?_
    rw [List.append_assoc]
    exact q
/-! ### dicts with whole numbers as keys -/
theorem get_map {h : Int → D} {k : Int} : ∀ {L : List Int}, getD' (L.map fun x => ((Sum.inl x : Key), h x)) (Sum.inl k) = if k ∈ L then some (h k) else none
  | [] => by simp [getD']
  | x :: L => by
    have ih := get_map (h := h) (k := k) (L := L)
    unfold getD' at ih ⊢
    rw [List.map_cons, List.find?_cons]
    by_cases c : x = k
    · subst c
      simp
    · have c1 : ¬ ((Sum.inl x : Key) = Sum.inl k) := fun e => c (by injection e)
      have c2 : ¬ k = x := fun e => c e.symm
      simp only [decide_eq_false c1, List.mem_cons, c2, false_or]
      exact ih
theorem any_map {h : Int → D} {k : Int} {L : List Int} : ((L.map fun x => ((Sum.inl x : Key), h x)).any fun kv => decide (kv.1 = Sum.inl k)) = decide (k ∈ L) := by
  rw [List.any_map, Bool.eq_iff_iff]
  simp only [List.any_eq_true, Function.comp, decide_eq_true_eq]
  constructor
  · rintro ⟨x, hx, e⟩
    injection e with e
    exact e ▸ hx
  · exact fun hk => ⟨k, hk, rfl⟩
theorem put_new {h : Int → D} {k : Int} {v : D} {L : List Int} (n : k ∉ L) : putKD (L.map fun x => ((Sum.inl x : Key), h x)) (Sum.inl k) v = (L.map fun x => ((Sum.inl x : Key), h x)) ++ [(Sum.inl k, v)] := by
  unfold putKD
  rw [any_map, if_neg (by simpa using n)]
theorem put_old {h : Int → D} {k : Int} {v : D} {L : List Int} (n : k ∈ L) : putKD (L.map fun x => ((Sum.inl x : Key), h x)) (Sum.inl k) v = L.map fun x => ((Sum.inl x : Key), if x = k then v else h x) := by
  unfold putKD
  rw [any_map, if_pos (by simpa using n), List.map_map]
  refine List.map_congr_left fun x _ => ?_
  show (if (Sum.inl x : Key) = Sum.inl k then ((Sum.inl x : Key), v) else (Sum.inl x, h x)) = _
  by_cases c : x = k
  · rw [if_pos (by rw [c]), if_pos c]
  · rw [if_neg (fun e => c (by injection e)), if_neg c]
theorem get_zip {α : Type} {f : α → D} {t : Int} {a : α} : ∀ {ts : List Int} {as : List α} {i : Nat}, ts.Nodup → ts[i]? = some t → as[i]? = some a → getD' ((ts.map fun x => (Sum.inl x : Key)).zip (as.map f)) (Sum.inl t) = some (f a)
  | [], _, _, _, h, _ => by simp at h
  | x :: ts, [], _, _, _, h => by simp at h
  | x :: ts, b :: as, 0, _, h1, h2 => by
    simp at h1 h2
    subst h1 h2
    simp [getD']
  | x :: ts, b :: as, i + 1, nd, h1, h2 => by
    have nd := List.nodup_cons.mp nd
    simp at h1 h2
    have ih := get_zip (f := f) nd.2 h1 h2
    unfold getD' at ih ⊢
    have c : ¬ ((Sum.inl x : Key) = Sum.inl t) := fun e => nd.1 (by injection e with e; rw [e]; exact List.mem_of_getElem? h1)
    rw [List.map_cons, List.map_cons, List.zip_cons_cons, List.find?_cons]
    simp only [decide_eq_false c]
    exact ih
/-! ### a permutation by two stores -/
theorem swap_perm {α : Type} {l : List α} {i j : Nat} {x y : α} (hx : l[i]? = some x) (hy : l[j]? = some y) : ((l.set i y).set j x).Perm l := by
  obtain ⟨hi, rfl⟩ := List.getElem?_eq_some_iff.mp hx
  obtain ⟨hj, rfl⟩ := List.getElem?_eq_some_iff.mp hy
  exact List.set_set_perm hi hj
/-- {k: v for i in xs}, xs a local list for good -/
theorem dc_lst {k i : Nat} {vs : List Nat} {tt : WT} {tk tv : WEx} {ρ : En} {μ : Mu} {Q : D → Mu → Prop} {l : List D} (hv : ρ[k]? = some (some (.lst l)))
    (h : ∀ p, μ p = none → ∃ I : Nat → Mu → Prop, I 0 (um μ p (.dK [])) ∧ (∀ j d μ, l[j]? = some d → I j μ → tt ((wip ρ vs).set i (some d)) μ fun b μ3 => if b = true then tk ((wip ρ vs).set i (some d)) μ3 fun y μ4 => tv ((wip ρ vs).set i (some d)) μ4 fun z μ5 => ∃ kvs key, μ5 p = some (.dK kvs) ∧ keyD y = some key ∧ kvs.length < 100000 ∧ I (j + 1) (um μ5 p (.dK (putKD kvs key z))) else I (j + 1) μ3) ∧ ∀ μ, I l.length μ → Q (.mut p) μ) : wDc (iLs (wVar k)) i vs tt tk tv ρ μ Q := by
  unfold wDc
  show iLs (wVar k) ρ μ _
  unfold iLs wVar
  rw [hv]
  intro p hp
  obtain ⟨I, i0, step, done⟩ := h p hp
  exact ⟨I, i0, fun _ _ _ => trivial, step, done⟩
section
variable {X : Cx} {W : WX} {E : EX} {elt it : Expr} {n n2 y : Str} {np np2 pos tpos py spos : Pos} {kk : Nat} {ifs : List Expr} {sc : Scope} {ti : TI} {wi : WI} {wt : WT} {we : WEx}
theorem ssetlc2 (nd : X.N.Nodup) (iy : Nat) (own : List (Str × Nat)) (i i2 : Nat) {vs : List Nat} (hi : DIt X W E (.Tuple [.Name n np, .Name n2 np2] kk tpos) it ti wi) (hg : ∀ u J C cl fp, PG (X.blk u J sc (compEnvC sc cl C X.env) fp) (.Tuple [.Name n np, .Name n2 np2] kk tpos) (gTup X.K 2 (gCons (gName i) (gCons (gName i2) gNil)))) (ht : ∀ u J C cl fp, ∃ tt, DTs (X.blk u J sc (compEnvC sc cl C X.env) fp) noW noE ifs tt wt)
    (he : ∀ u J C cl fp, ∃ te, DE (X.blk u J sc (compEnvC sc cl C X.env) fp) noW noE elt te we) (hc : X.calm = true := by rfl) (hvs : own.map (·.2) = vs := by rfl) (ok : blkC X.N X.env.scope sc own = true := by rfl) (hv : i ∈ own.map (·.2) := by decide) (hv2 : i2 ∈ own.map (·.2) := by decide) (hs : ∀ x, foldedSetIterable it X.env x = pure x := by intro _; rfl)
    (hy : X.N[iy]? = some y := by rfl) (hyl : X.env.scope.names.lookup y = some .local := by rfl) (hk : X.env.scope.kind = .function := by rfl) (hl : (py.line == pos.line) = true := by rfl) (ha : (sc.names.any fun (n, k) => n == y && (k == .local || k == .cell)) = false := by rfl) :
    DS X W E (.Assign [.Name y py] (.ListComp elt [⟨.Tuple [.Name n np, .Name n2 np2] kk tpos, it, ifs, 0⟩] sc pos) spos) (tAsg (tLc ti (gTup X.K 2 (gCons (gName i) (gCons (gName i2) gNil))) (tOfT X.K noW noE wt) (tOfE X.K noW noE we) vs) (gName iy)) (wAsg (wLc2 wi i i2 vs wt we) (gN iy)) := by
  subst hvs
  exact ⟨ps_setLc hc nd hy hyl (sw_true hk hyl hl ha) hi.pe (blkOk_by ok) hg (fun u J C cl fp => (ht u J C cl fp).elim fun _ h => h.of) (fun u J C cl fp => (he u J C cl fp).elim fun _ h => h.of) hs, dn_asg (dn_lc2 hi.dn dn_ofT dn_ofE hv hv2) dg_name⟩
theorem ssetlc2F (nd : X.N.Nodup) (iy : Nat) (own : List (Str × Nat)) (i i2 : Nat) {vs : List Nat} (hi : DIt X W E (.Tuple [.Name n np, .Name n2 np2] kk tpos) it ti wi) (hg : ∀ u J C cl fp, PG (X.blk u J sc (compEnvC sc cl C X.env) fp) (.Tuple [.Name n np, .Name n2 np2] kk tpos) (gTup X.K 2 (gCons (gName i) (gCons (gName i2) gNil)))) (ht : ∀ u J C cl fp, ∃ tt, DTs (X.blk u J sc (compEnvC sc cl C X.env) fp) noW noE ifs tt wt)
    (he : ∀ u J C cl fp, ∃ te, DE (X.blk u J sc (compEnvC sc cl C X.env) fp) noW noE elt te we) (hc : X.calm = true := by rfl) (hvs : own.map (·.2) = vs := by rfl) (ok : blkC X.N X.env.scope sc own = true := by rfl) (hv : i ∈ own.map (·.2) := by decide) (hv2 : i2 ∈ own.map (·.2) := by decide) (hs : ∀ x, foldedSetIterable it X.env x = pure x := by intro _; rfl)
    (hy : X.N[iy]? = some y := by rfl) (hyl : X.env.scope.names.lookup y = some .local := by rfl) (hk : X.env.scope.kind = .function := by rfl) (hl : (py.line == pos.line) = true := by rfl) (ha : (sc.names.any fun (n, k) => n == y && (k == .local || k == .cell)) = false := by rfl) :
    DS X W E (.Assign [.Name y py] (.ListComp elt [⟨.Tuple [.Name n np, .Name n2 np2] kk tpos, it, ifs, 0⟩] sc pos) spos) (tAsg (tLc ti (gTup X.K 2 (gCons (gName i) (gCons (gName i2) gNil))) (tOfT X.K noW noE wt) (tOfE X.K noW noE we) vs) (gName iy)) (wAsg (wFrz (wLc2 wi i i2 vs wt we)) (gN iy)) := by
  subst hvs
  exact ⟨ps_setLc hc nd hy hyl (sw_true hk hyl hl ha) hi.pe (blkOk_by ok) hg (fun u J C cl fp => (ht u J C cl fp).elim fun _ h => h.of) (fun u J C cl fp => (he u J C cl fp).elim fun _ h => h.of) hs, dn_asg (dn_frz (dn_lc2 hi.dn dn_ofT dn_ofE hv hv2)) dg_name⟩
end
section
variable {α : Type} {wi : WI} {i : Nat} {vs : List Nat} {tt : WT} {te : WEx} {ρ : En} {μ : Mu} {Q : D → Mu → Prop}
/-- a comprehension as a new cell -/
theorem lc_mut (L : List α) (f : α → D) (t : α → Bool) (h : α → D) (hw : ∃ k : Wk, k.items = L.map f ∧ k.ok μ ∧ ∀ R : Wk → Mu → Prop, R k μ → wi ρ μ R) (hz : L.length < 100000)
    (ht : ∀ x ∈ L, ∀ μ' R, le μ μ' → R (t x) μ' → tt ((wip ρ vs).set i (some (f x))) μ' R) (he : ∀ x ∈ L, t x = true → ∀ μ' R, le μ μ' → R (h x) μ' → te ((wip ρ vs).set i (some (f x))) μ' R) (q : ∀ p, μ p = none → Q (.mut p) (um μ p (.lst ((L.filter t).map h)))) : wLc wi i vs tt te ρ μ Q := by
  obtain ⟨k, hk, hok, hR⟩ := hw
  refine hR _ fun p hp => ⟨fun j μ' => μ' = um μ p (.lst (((L.take j).filter t).map h)), show um μ p _ = um μ p _ by rw [List.take_zero]; rfl, fun j μ' e => by rw [e]; exact Wk.ok_le hok (le.um hp), ?_, ?_⟩
  · rintro j d μ' hd rfl
    rw [hk, List.getElem?_map] at hd
    cases e : L[j]? with
    | none => rw [e] at hd; cases hd
    | some x =>
      rw [e] at hd
      obtain rfl : f x = d := Option.some.inj hd
      have hx := List.mem_of_getElem? e
      refine ht x hx _ _ (le.um hp) ?_
      by_cases c : t x = true
      · rw [if_pos c]
        refine he x hx c _ _ (le.um hp) ⟨_, um_same, Nat.lt_of_le_of_lt (filt_len t h L j) hz, ?_⟩
        show um (um μ p _) p _ = um μ p _
        rw [um_um, filt_take e, if_pos c]
      · rw [if_neg c]
        show um μ p _ = um μ p _
        rw [filt_take e, if_neg c, List.append_nil]
  · rintro μ' rfl
    rw [hk, List.length_map, List.take_length]
    exact q p hp
end
/-- a comprehension that draws: the items by their places -/
theorem lc_drawI {wi : WI} {i : Nat} {vs : List Nat} {te : WEx} {ρ : En} {μ : Mu} {Q : D → Mu → Prop} {p0 : Addr} {S : List D → Prop} {st0 : List D} {P : Nat → D → Prop} {L : List D}
    (h0 : μ p0 = some (.lst st0)) (hs : S st0) (hw : ∀ R : Wk → Mu → Prop, (∀ k : Wk, k.items = L → (∀ st p l, μ p = none → k.ok (um (um μ p0 (.lst st)) p (.lst l))) → R k μ) → wi ρ μ R) (hz : L.length < 100000)
    (he : ∀ j d, L[j]? = some d → ∀ p l st R, μ p = none → p ≠ p0 → S st → (∀ e st', P j e → S st' → R e (um (um μ p0 (.lst st')) p (.lst l))) → te ((wip ρ vs).set i (some d)) (um (um μ p0 (.lst st)) p (.lst l)) R)
    (q : ∀ l st p, μ p = none → p ≠ p0 → l.length = L.length → (∀ j e, l[j]? = some e → P j e) → S st → Q (.mut p) (um (um μ p0 (.lst st)) p (.lst l))) : wLc wi i vs wYes te ρ μ Q := by
  refine hw _ fun k hk hok p hp => ?_
  have hne : p ≠ p0 := fun e => by rw [e, h0] at hp; cases hp
  refine ⟨fun j μ' => ∃ st l, μ' = um (um μ p0 (.lst st)) p (.lst l) ∧ S st ∧ l.length = j ∧ ∀ j e, l[j]? = some e → P j e, ⟨st0, [], by rw [um_id h0], hs, rfl, fun j e he => by simp at he⟩, fun j μ' ⟨st, l, e, _⟩ => by rw [e]; exact hok st p l hp, ?_, ?_⟩
  · rintro j d μ' hd ⟨st, l, rfl, hst, hl, hP⟩
    rw [hk] at hd
    have hj := (List.getElem?_eq_some_iff.mp hd).1
    simp only [wYes, if_true]
    refine he j d hd p l st _ hp hne hst fun e st' hPe hst' => ⟨l, um_same, by omega, st', l ++ [e], by rw [um_um], hst', by rw [List.length_append, hl]; rfl, fun m x hx => ?_⟩
    by_cases c : m < l.length
    · rw [List.getElem?_append_left c] at hx
      exact hP m x hx
    · rw [List.getElem?_append_right (by omega)] at hx
      have hm : m - l.length = 0 := by
        have := (List.getElem?_eq_some_iff.mp hx).1
        simp at this
        omega
      rw [hm] at hx
      simp at hx
      subst hx
      have : m = j := by omega
      rw [this]; exact hPe
  · rintro μ' ⟨st, l, rfl, hst, hl, hP⟩
    rw [hk] at hl
    exact q l st p hp hne hl hP hst
end DL
set_option maxHeartbeats 1000000
namespace DL
open PySem L2 PySem.Spec PyProof.Rows
/-! ### != of a list cell with data -/
def fNeL : F2 := fun x y μ Q => ∃ l ds e, lvr μ x = some l ∧ toPs l = some ds ∧ toP y = some e ∧ SeqAt.shaped (.list ds) = true ∧ SeqAt.shaped e = true ∧ Q (.bl (!PyData.eqv (.list ds) e)) μ
theorem do_neL {K : PySem.W.Frag} : DOp K (rNeD K) fNeL := by
  intro F μ H x y dx dy Q0 Q s d1 d2 ⟨l, ds, e, h1, h2, h3, h4, h5, h⟩ q
  exact ⟨.list ds, e, in_ok s d1 h1 h2, dp_of s.sub d2 h3, h4, h5, q F μ H (.bl _) _ Grow.refl s rfl h⟩
end DL
set_option maxHeartbeats 800000
namespace K14
open PySem L2 DL
/-- the classes of errors, by name -/
def errs : List Str := ["NoTag", "DoubleTag", "TooMany"]
/-- where the classes stand, and which class stands there -/
structure Ad where
  g : Str → Addr
  nm : Addr → Str
  w : World
  inv : ∀ n ∈ errs, nm (g n) = n
/-- what the top has written -/
structure Tx (P : Program) (w : World) (base : Heap) (K : PySem.W.Frag) (mg : Str → Option Value) (A : Ad) : Prop where
  seer : base.NoSeer
  tree : P.given.tree = none
  hw : A.w = w
  b_len : mg "len" = none
  b_abs : mg "abs" = none
  b_int : mg "int" = none
  b_list : mg "list" = none
  b_range : mg "range" = none
  b_isinstance : mg "isinstance" = none
  b_bool : mg "bool" = none
  b_str : mg "str" = none
  b_tuple : mg "tuple" = none
  b_dict : mg "dict" = none
  b_set : mg "set" = none
  b_sorted : mg "sorted" = none
  b_min : mg "min" = none
  g_MOST_TAGS : ∃ v, mg "MOST_TAGS" = some v ∧ RelV (.int 40) v
def top (i : Nat) : Stmt := PySem.Challenge.pw_twothick_k14_groups_of_mutual_reach.main.body.getD i (.Pass ⟨0, 0, 0, 0⟩)
end K14
set_option maxHeartbeats 800000
namespace K14
open PySem L2 DL
local macro_rules | `(tactic| walk_at "w") => `(tactic| simp only [wSeq, wNext, wIf, wRet, wRetN, wDrop, wAsg, gN, wVar, wC, wOp, wUn, wNil, wCons, wCB, wTup, wLst, wLstF, wTe, tB0, wAnd, wOr, wNot, wAndV, wOrV, wNotV, wIfE, wCall, wCallG, wRaise, wFrz, fFrz, rets, fI, fI0, fAdd, fSub, fMul, fLt, fLe, fGt, fGe, fMod, fModN, fPow, fDiv, fDivG, fNeg, fEq, fNe, eqF_int, eqF_bl, eqF_str, scal_int, scal_bl, scal_str, fLen, sv, fIx, fAbs, fInt, fList, wSl, fSlL, oNo, oSo, lvr, lv, fCat, wMeL, fApp, fPop, fSetL, gSb, iLs, iTp, iR1, iR2, wFor, gTp, gCn, gNl, wPar, wBrk, wCnt, fIsi, wIsx, wLc, wYes, wip, wTr, truD, wTry, clrD, wFld, fieldsD, wSetF, wMeth, wMake, fStrI, fFmt, wJoin, wJs, wChain, fAddS, fIsN, fNotN, um_same, um_um, st0, List.map_cons, List.map_nil, List.length_cons, List.length_nil, List.getElem?_cons_zero, List.getElem?_cons_succ, List.set_cons_zero, List.set_cons_succ, List.cons_append, List.nil_append, List.replicate, atI_c0, atI_c1, atI_c2, atI_c3, atI_c4, atI_c5, atI_c6, ixN_70, ixN_71, ixN_72, ixN_73, ixN_74, ixN_75, ixN_76, Nat.reduceAdd, ite_T, ite_F, if_dec, if_ndec, if_nb, true_and, if_true, Bool.false_eq_true, if_false])
/-! ### the law's draws -/
def c_law_mix (A : Ad) : Ct := fun ds μ Q _ => match ds with
  | [.int _] => ∀ r : Int, 0 ≤ r → r < 2 ^ 64 → Q (.int r) μ
  | _ => False
abbrev s_law_mix : Stmt := top 18
theorem sc_law_mix : FnScope ["number", "prime", "mixed"] ["number"] (defScope s_law_mix) := ⟨rfl, rfl, rfl, by decide +kernel, rfl, by decide +kernel, by decide +kernel⟩
def w_law_mix_5 (A : Ad) (E : EX) : WS := (wRet (wOp fMod (wCB fInt (wCons (wOp fAdd (wOp fMul (wVar 2) (wC (.int (48271)))) (wOp fDiv (wVar 2) (wC (.int (4294967296))))) wNil)) (wVar 1)))
def w_law_mix_4 (A : Ad) (E : EX) : WS := (wSeq (wAsg (wOp fMod (wCB fInt (wCons (wOp fMul (wOp fMod (wCB fInt (wCons (wOp fMul (wVar 2) (wVar 2)) wNil)) (wVar 1)) (wVar 2)) wNil)) (wVar 1)) (gN 2))
  (w_law_mix_5 A E))
def w_law_mix_3 (A : Ad) (E : EX) : WS := (wSeq (wAsg (wOp fMod (wCB fInt (wCons (wOp fAdd (wOp fAdd (wVar 2) (wOp fMul (wOp fDiv (wVar 2) (wC (.int (2147483648)))) (wC (.int (40503))))) (wC (.int (3037000493)))) wNil)) (wVar 1)) (gN 2))
  (w_law_mix_4 A E))
def w_law_mix_2 (A : Ad) (E : EX) : WS := (wSeq (wAsg (wOp fMod (wCB fInt (wCons (wOp fMul (wOp fMod (wCB fInt (wCons (wOp fMul (wVar 2) (wVar 2)) wNil)) (wVar 1)) (wVar 2)) wNil)) (wVar 1)) (gN 2))
  (w_law_mix_3 A E))
def w_law_mix (A : Ad) (E : EX) : WS := (wSeq (wAsg (wC (.int (18446744073709551557))) (gN 1))
  (wSeq (wAsg (wOp fMod (wCB fInt (wCons (wOp fAdd (wVar 0) (wC (.int (1442695040888963407)))) wNil)) (wVar 1)) (gN 2))
  (w_law_mix_2 A E)))
theorem mlS {x y : Int} (h0 : 0 ≤ x) (h1 : x < 18446744073709551557) : MulOk x y := mulL ⟨by omega, by omega⟩
theorem mod_lt' (x : Int) : 0 ≤ x % 18446744073709551557 ∧ x % 18446744073709551557 < 18446744073709551557 := ⟨Int.emod_nonneg _ (by decide), Int.emod_lt_of_pos _ (by decide)⟩
theorem divW {x y : Int} (h : 0 < y) (h' : y.natAbs.log2 < 9000) : CDivW x y := ⟨h, h'⟩
theorem pure_law_mix (A : Ad) (ds μ Q E0) (h : c_law_mix A ds μ Q E0) : w_law_mix A (fun C fs _ μ => dwx E0 C fs μ) (rets Q) (st0 3 ds) μ := by
  unfold c_law_mix at h
  split at h
  · rename_i n
    have s5 : ∀ m : Int, 0 ≤ m → m < 18446744073709551557 → w_law_mix_5 A (fun C fs _ μ => dwx E0 C fs μ) (rets Q) [some (.int n), some (.int 18446744073709551557), some (.int m)] μ := by
      intro m h0 h1
      unfold w_law_mix_5; walk_at "w"
      refine ⟨mlS h0 h1, divW (by decide) (by decide +kernel), by decide, dwn.of (h _ (mod_lt' _).1 (by have := (mod_lt' (m * 48271 + m / 4294967296)).2; omega))⟩
    have s4 : ∀ m : Int, 0 ≤ m → m < 18446744073709551557 → w_law_mix_4 A (fun C fs _ μ => dwx E0 C fs μ) (rets Q) [some (.int n), some (.int 18446744073709551557), some (.int m)] μ := by
      intro m h0 h1
      unfold w_law_mix_4; walk_at "w"
      exact ⟨mlS h0 h1, by decide, mlS (mod_lt' _).1 (mod_lt' _).2, by decide, s5 _ (mod_lt' _).1 (mod_lt' _).2⟩
    have s3 : ∀ m : Int, 0 ≤ m → m < 18446744073709551557 → w_law_mix_3 A (fun C fs _ μ => dwx E0 C fs μ) (rets Q) [some (.int n), some (.int 18446744073709551557), some (.int m)] μ := by
      intro m h0 h1
      unfold w_law_mix_3; walk_at "w"
      exact ⟨divW (by decide) (by decide +kernel), mulR (by decide), by decide, s4 _ (mod_lt' _).1 (mod_lt' _).2⟩
    have s2 : ∀ m : Int, 0 ≤ m → m < 18446744073709551557 → w_law_mix_2 A (fun C fs _ μ => dwx E0 C fs μ) (rets Q) [some (.int n), some (.int 18446744073709551557), some (.int m)] μ := by
      intro m h0 h1
      unfold w_law_mix_2; walk_at "w"
      exact ⟨mlS h0 h1, by decide, mlS (mod_lt' _).1 (mod_lt' _).2, by decide, s3 _ (mod_lt' _).1 (mod_lt' _).2⟩
    unfold w_law_mix
    walk_at "w"
    exact ⟨by decide, s2 _ (mod_lt' _).1 (mod_lt' _).2⟩
  · exact h.elim
theorem len_law_mix (A : Ad) : ∀ ds μ Q E, c_law_mix A ds μ Q E → ds.length = 1 := by
  intro ds μ Q E h
  unfold c_law_mix at h
  first | (split at h) | (split at h)
  all_goals first | rfl | exact h.elim
theorem ok_law_mix {P : Program} {w : World} {K : PySem.W.Frag} {mg : Str → Option Value} {base : Heap} {A : Ad} (D : Dfn K mg "_law_mix" "_law_mix" s_law_mix ["number"]) (T : Tx P w base K mg A)  : DfOk P w K mg base "_law_mix" 1 ["number"] (c_law_mix A) := by
  obtain ⟨f, fd, F, hm, hb⟩ := D
  refine ⟨f, fd, okD F sc_law_mix (by decide) (len_law_mix A) ?_, hm, F.kp, hb⟩
  intro X W E cdv B outer s H Ex hX tk hp hr
  subst hX
  exact ⟨_, w_law_mix A E, (scons (sset (i := 1) ei sc_law_mix.nd)
  (scons (sset (i := 2) (emod (ecty call_int1 dc_int T.b_int (acons (eadd (ev 0) ei) anil)) (ev 1)) sc_law_mix.nd)
  (scons (sset (i := 2) (emod (ecty call_int1 dc_int T.b_int (acons (emul (emod (ecty call_int1 dc_int T.b_int (acons (emul (ev 2) (ev 2)) anil)) (ev 1)) (ev 2)) anil)) (ev 1)) sc_law_mix.nd)
  (scons (sset (i := 2) (emod (ecty call_int1 dc_int T.b_int (acons (eadd (eadd (ev 2) (emul (ediv (ev 2) ei) ei)) ei) anil)) (ev 1)) sc_law_mix.nd)
  (scons (sset (i := 2) (emod (ecty call_int1 dc_int T.b_int (acons (emul (emod (ecty call_int1 dc_int T.b_int (acons (emul (ev 2) (ev 2)) anil)) (ev 1)) (ev 2)) anil)) (ev 1)) sc_law_mix.nd)
  (sone (sret (emod (ecty call_int1 dc_int T.b_int (acons (eadd (emul (ev 2) ei) (ediv (ev 2) ei)) anil)) (ev 1))))))))), fun ds μ Q E0 hc hE => by subst hE; exact pure_law_mix A ds μ Q E0 hc⟩
/-! the store: cells, place, rest, owed, seed, turn, number -/
structure StOk (st : List D) : Prop where
  ex : ∃ (cs : List Int) (i1 i2 i3 i4 i5 i6 : Int), st = [.lst (cs.map D.int), .int i1, .int i2, .int i3, .int i4, .int i5, .int i6] ∧ (∀ c ∈ cs, Bd 800 c) ∧ 0 ≤ i1 ∧ 0 ≤ i2 ∧ Bd 800 i2 ∧ 0 ≤ i3
def c_law_store (A : Ad) : Ct := fun ds μ Q _ => match ds with
  | [.lsr l] => ∃ ns : List Int, l = ns.map D.int ∧ ns.length ≤ 63 ∧ ∀ p st, StOk st → μ p = none → Q (.mut p) (um μ p (.lst st))
  | _ => False
abbrev s_law_store : Stmt := top 19
theorem sc_law_store : FnScope ["script", "top", "cells", "seed", "number", "cell"] ["script"] (defScope s_law_store) := ⟨rfl, rfl, rfl, by decide +kernel, rfl, by decide +kernel, by decide +kernel⟩
def w_law_store_5 (A : Ad) (E : EX) : WS := (wRet (wLst (wCons (wFrz (wVar 2)) (wCons (wC (.int (0))) (wCons (wC (.int (0))) (wCons (wC (.int (0))) (wCons (wVar 3) (wCons (wC (.int (0))) (wCons (wC (.int (0))) wNil)))))))))
def w_law_store_b1 (A : Ad) (E : EX) : WS := (wSeq (wAsg (wOp fMod (wCB fInt (wCons (wCB fAbs (wCons (wVar 4) wNil)) wNil)) (wVar 1)) (gN 5))
  (wSeq (wIf (wTe (wOp fLt (wVar 4) (wC (.int (0))))) (wAsg (wOp fSub (wC (.int (0))) (wVar 5)) (gN 5)) wNext)
  (wSeq (wDrop (wMeL fApp (wVar 2) (wCons (wVar 5) wNil)))
  (wAsg (wCall (c_law_mix A) E (wCons (wOp fAdd (wVar 3) (wVar 5)) wNil)) (gN 3)))))
def w_law_store_4 (A : Ad) (E : EX) : WS := (wSeq (wFor (iLs (wSl fSlL (wVar 0) oNo (oSo (wC (.int (63)))))) (gN 4) (w_law_store_b1 A E))
  (w_law_store_5 A E))
def w_law_store (A : Ad) (E : EX) : WS := (wSeq (wAsg (wOp fPow (wC (.int (10))) (wC (.int (60)))) (gN 1))
  (wSeq (wAsg (wOp fMul (wOp fMul (wOp fMul (wVar 1) (wVar 1)) (wVar 1)) (wVar 1)) (gN 1))
  (wSeq (wAsg (wLst wNil) (gN 2))
  (wSeq (wAsg (wCall (c_law_mix A) E (wCons (wCB fLen (wCons (wSl fSlL (wVar 0) oNo (oSo (wC (.int (63))))) wNil)) wNil)) (gN 3))
  (w_law_store_4 A E)))))
theorem cut63 {ns : List Int} (h : ns.length ≤ 63) : cutD (ns.map D.int) none (some 63) = ns.map D.int := by
  have e0 : HT.sIx ns.length 0 none = 0 := rfl
  have e1 : HT.sIx ns.length ns.length (some 63) = ns.length := by
    rw [show (some (63 : Int)) = some ((63 : Nat) : Int) from rfl, HT.sIx_nat]
    omega
  unfold cutD
  rw [List.length_map, e0, e1, List.drop_zero, Nat.sub_zero, List.take_of_length_le (by rw [List.length_map]; exact Nat.le_refl _)]
theorem bd60 : Bd 200 (10 ^ Int.toNat 60) := by unfold Bd; decide +kernel
theorem pure_law_store (A : Ad) (ds μ Q E0) (h : c_law_store A ds μ Q E0) : w_law_store A (fun C fs _ μ => dwx E0 C fs μ) (rets Q) (st0 6 ds) μ := by
  unfold c_law_store at h
  split at h
  · rename_i l
    obtain ⟨ns, rfl, hl, h⟩ := h
    unfold w_law_store
    walk_at "w"
    rw [cut63 hl]
    have hT : (0 : Int) < 10 ^ Int.toNat 60 * 10 ^ Int.toNat 60 * 10 ^ Int.toNat 60 * 10 ^ Int.toNat 60 ∧ (10 ^ Int.toNat 60 * 10 ^ Int.toNat 60 * 10 ^ Int.toNat 60 * 10 ^ Int.toNat 60 : Int) < 2 ^ 799 := by decide +kernel
    refine ⟨⟨by decide, by decide, by decide⟩, mulOk bd60 bd60 (by decide), mulOk (bd60.mul bd60) bd60 (by decide), mulOk ((bd60.mul bd60).mul bd60) bd60 (by decide), by decide, fun p hp => ?_⟩
    generalize (10 ^ Int.toNat 60 * 10 ^ Int.toNat 60 * 10 ^ Int.toNat 60 * 10 ^ Int.toNat 60 : Int) = T at hT
    intro r h0 h1
    unfold w_law_store_4
    walk_at "w"
    rw [cut63 hl]
    refine ⟨fun i ρ μ' => ∃ (cs : List Int) (seed : Int) (c4 c5 : Option D), ρ = [some (.lsr (ns.map D.int)), some (.int T), some (.mut p), some (.int seed), c4, c5] ∧ μ' = um μ p (.lst (cs.map D.int)) ∧ cs.length = i ∧ ∀ c ∈ cs, Bd 800 c, ⟨[], r, none, none, rfl, rfl, rfl, fun _ hc => nomatch hc⟩, fun _ _ _ _ => trivial, ?_, ?_⟩
    · rintro i d ρ μ' hd ⟨cs, seed, c4, c5, rfl, rfl, hi, hb⟩
      have hil : i < ns.length := by
        have := (List.getElem?_eq_some_iff.mp hd).1
        simpa [Wk.items] using this
      obtain ⟨n, rfl⟩ : ∃ n, d = D.int n := by
        rw [show (Wk.fix (ns.map D.int)).items = ns.map D.int from rfl, List.getElem?_map] at hd
        cases e : ns[i]? with
        | none => rw [e] at hd; cases hd
        | some n => rw [e] at hd; exact ⟨n, (Option.some.inj hd).symm⟩
      have fin : ∀ c : Int, Bd 800 c → ∃ (p_1 : Addr) (l : List D), D.mut p = D.mut p_1 ∧ um μ p (MO.lst (cs.map D.int)) p_1 = some (MO.lst l) := fun c _ => ⟨p, _, rfl, um_same⟩
      unfold w_law_store_b1
      walk_at "w"
      have hm : ((n.natAbs : Nat) : Int) % T < T ∧ 0 ≤ ((n.natAbs : Nat) : Int) % T := ⟨Int.emod_lt_of_pos _ hT.1, Int.emod_nonneg _ (by omega)⟩
      have hbd : Bd 800 (((n.natAbs : Nat) : Int) % T) := by unfold Bd; omega
      refine ⟨hT.1, ite2 (fun _ => ?_) (fun _ => ?_)⟩
      all_goals
        refine ⟨⟨p, _, rfl, um_same⟩, by rw [List.length_map]; omega, fun r' _ _ => ⟨_, _, leE.refl, le.refl, cs ++ [_], r', _, _, rfl, by rw [List.map_append]; rfl, by rw [List.length_append, hi]; rfl, fun c hc => ?_⟩⟩
        rcases List.mem_append.mp hc with hc | hc
        · exact hb c hc
        · rw [List.mem_singleton.mp hc]
          first | exact hbd | (unfold Bd at *; omega)
    · rintro ρ μ' ⟨cs, seed, c4, c5, rfl, rfl, hi, hb⟩
      unfold w_law_store_5
      walk_at "w"
      refine ⟨by decide, fun p' hp' => ?_⟩
      rw [rm_um hp] at hp' ⊢
      exact dwn.of (h p' _ ⟨cs, 0, 0, 0, seed, 0, 0, rfl, hb, by decide, by decide, by unfold Bd; decide, by decide⟩ hp')
  · exact h.elim
theorem len_law_store (A : Ad) : ∀ ds μ Q E, c_law_store A ds μ Q E → ds.length = 1 := by
  intro ds μ Q E h
  unfold c_law_store at h
  first | (split at h) | (split at h)
  all_goals first | rfl | exact h.elim
theorem ok_law_store {P : Program} {w : World} {K : PySem.W.Frag} {mg : Str → Option Value} {base : Heap} {A : Ad} (D : Dfn K mg "_law_store" "_law_store" s_law_store ["script"]) (T : Tx P w base K mg A) (G_law_mix : DfOk P w K mg base "_law_mix" 1 ["number"] (c_law_mix A)) : DfOk P w K mg base "_law_store" 2 ["script"] (c_law_store A) := by
  obtain ⟨f, fd, F, hm, hb⟩ := D
  refine ⟨f, fd, okD F sc_law_store (by decide) (len_law_store A) ?_, hm, F.kp, hb⟩
  intro X W E cdv B outer s H Ex hX tk hp hr
  subst hX
  exact ⟨_, w_law_store A E, (scons (sset (i := 1) (epow ei ei) sc_law_store.nd)
  (scons (sset (i := 1) (emul (emul (emul (ev 1) (ev 1)) (ev 1)) (ev 1)) sc_law_store.nd)
  (scons (sset (i := 2) (elst anil) sc_law_store.nd)
  (scons (sset (i := 3) (ecall2 tk G_law_mix (hr.mono (by decide)) (acons (ecb call_len_seq dc_len T.b_len (acons (eslL (ev 0) onone (osome ei)) anil)) anil)) sc_law_store.nd)
  (scons (sfor hp (il (eslL (ev 0) onone (osome ei))) (gnm 4 sc_law_store.nd) (scons (sset (i := 5) (emod (ecty call_int1 dc_int T.b_int (acons (ecb call_abs dc_abs T.b_abs (acons (ev 4) anil)) anil)) (ev 1)) sc_law_store.nd)
  (scons (sif (tc' op_lt do_lt (ev 4) ei) (sone (sset (i := 5) (esub ei (ev 5)) sc_law_store.nd)) snil)
  (scons (sexpr (eapp (ev 2) (acons (ev 5) anil)))
  (sone (sset (i := 3) (ecall2 tk G_law_mix (hr.mono (by decide)) (acons (eadd (ev 3) (ev 5)) anil)) sc_law_store.nd))))))
  (sone (sret (elst (acons (efrz (ev 2)) (acons ei (acons ei (acons ei (acons (ev 3) (acons ei (acons ei anil))))))))))))))), fun ds μ Q E0 hc hE => by subst hE; exact pure_law_store A ds μ Q E0 hc⟩
end K14
set_option maxHeartbeats 800000
namespace K14
open PySem L2 DL
local macro_rules | `(tactic| walk_at "w") => `(tactic| simp only [wSeq, wNext, wIf, wRet, wRetN, wDrop, wAsg, gN, wVar, wC, wOp, wUn, wNil, wCons, wCB, wTup, wLst, wLstF, wTe, tB0, wAnd, wOr, wNot, wAndV, wOrV, wNotV, wIfE, wCall, wCallG, wRaise, wFrz, fFrz, rets, fI, fI0, fAdd, fSub, fMul, fLt, fLe, fGt, fGe, fMod, fModN, fPow, fDiv, fDivG, fNeg, fEq, fNe, eqF_int, eqF_bl, eqF_str, scal_int, scal_bl, scal_str, fLen, sv, fIx, fAbs, fInt, fList, wSl, fSlL, oNo, oSo, lvr, lv, fCat, wMeL, fApp, fPop, fSetL, gSb, iLs, iTp, iR1, iR2, wFor, gTp, gCn, gNl, wPar, wBrk, wCnt, fIsi, wIsx, wLc, wYes, wip, wTr, truD, wTry, clrD, wFld, fieldsD, wSetF, wMeth, wMake, fStrI, fFmt, wJoin, wJs, wChain, fAddS, fIsN, fNotN, um_same, um_um, st0, List.map_cons, List.map_nil, List.length_cons, List.length_nil, List.getElem?_cons_zero, List.getElem?_cons_succ, List.set_cons_zero, List.set_cons_succ, List.cons_append, List.nil_append, List.replicate, atI_c0, atI_c1, atI_c2, atI_c3, atI_c4, atI_c5, atI_c6, ixN_70, ixN_71, ixN_72, ixN_73, ixN_74, ixN_75, ixN_76, Nat.reduceAdd, ite_T, ite_F, if_dec, if_ndec, if_nb, true_and, if_true, Bool.false_eq_true, if_false])
/-- a draw: of 0 .. many - 1 (0 where many is below 2); the store is another one behind it -/
def c_law_take (A : Ad) : Ct := fun ds μ Q _ => match ds with
  | [.mut p, .int many] => ∃ st, μ p = some (.lst st) ∧ StOk st ∧ Bd 3000 many ∧ ∀ (n : Int) (st' : List D), StOk st' → 0 ≤ n → (2 ≤ many → n < many) → (many < 2 → n = 0) → Q (.int n) (um μ p (.lst st'))
  | _ => False
abbrev s_law_take : Stmt := top 20
theorem sc_law_take : FnScope ["store", "many", "cell", "left", "mixed", "k"] ["store", "many"] (defScope s_law_take) := ⟨rfl, rfl, rfl, by decide +kernel, rfl, by decide +kernel, by decide +kernel⟩
def w_law_take_7 (A : Ad) (E : EX) : WS := (wRet (wOp fMod (wCB fInt (wCons (wVar 4) wNil)) (wVar 1)))
def w_law_take_b1 (A : Ad) (E : EX) : WS := (wAsg (wOp fAdd (wOp fMul (wVar 4) (wC (.int (18446744073709551557)))) (wCall (c_law_mix A) E (wCons (wOp fAdd (wVar 4) (wVar 5)) wNil))) (gN 4))
def w_law_take_6 (A : Ad) (E : EX) : WS := (wSeq (wIf (wTe (wOp fGt (wVar 1) (wOp fPow (wC (.int (10))) (wC (.int (12)))))) (wFor (iR1 (wCons (wC (.int (4))) wNil)) (gN 5) (w_law_take_b1 A E)) wNext)
  (w_law_take_7 A E))
def w_law_take_4 (A : Ad) (E : EX) : WS := (wSeq (wAsg (wOp fAdd (wOp fIx (wVar 0) (wC (.int (5)))) (wC (.int (1)))) (gSb fSetL (wVar 0) (wC (.int (5)))))
  (wSeq (wAsg (wCall (c_law_mix A) E (wCons (wOp fAdd (wOp fAdd (wOp fIx (wVar 0) (wC (.int (4)))) (wOp fMul (wOp fIx (wVar 0) (wC (.int (6)))) (wC (.int (40503))))) (wOp fMul (wOp fIx (wVar 0) (wC (.int (5)))) (wC (.int (69621))))) wNil)) (gN 4))
  (w_law_take_6 A E)))
def w_law_take_3 (A : Ad) (E : EX) : WS := (wSeq (wIf (wTe (wOp fGt (wOp fIx (wVar 0) (wC (.int (2)))) (wC (.int (0))))) (wSeq (wAsg (wCB fInt (wCons (wOp fIx (wVar 0) (wC (.int (2)))) wNil)) (gN 3))
  (wSeq (wAsg (wOp fDiv (wVar 3) (wVar 1)) (gSb fSetL (wVar 0) (wC (.int (2)))))
  (wSeq (wIf (wOr (wTe (wOp fEq (wOp fIx (wVar 0) (wC (.int (2)))) (wC (.int (0))))) (wTe (wOp fEq (wOp fIx (wVar 0) (wC (.int (3)))) (wC (.int (0)))))) (wSeq (wAsg (wC (.int (0))) (gSb fSetL (wVar 0) (wC (.int (2)))))
  (wAsg (wC (.int (0))) (gSb fSetL (wVar 0) (wC (.int (3)))))) wNext)
  (wRet (wOp fMod (wVar 3) (wVar 1)))))) wNext)
  (w_law_take_4 A E))
def w_law_take_2 (A : Ad) (E : EX) : WS := (wSeq (wIf (wTe (wOp fGt (wOp fIx (wVar 0) (wC (.int (3)))) (wC (.int (0))))) (wAsg (wOp fSub (wOp fIx (wVar 0) (wC (.int (3)))) (wC (.int (1)))) (gSb fSetL (wVar 0) (wC (.int (3))))) wNext)
  (w_law_take_3 A E))
def w_law_take (A : Ad) (E : EX) : WS := (wSeq (wIf (wTe (wOp fLt (wVar 1) (wC (.int (2))))) (wRet (wC (.int (0)))) wNext)
  (wSeq (wIf (wAnd (wTe (wOp fEq (wOp fIx (wVar 0) (wC (.int (3)))) (wC (.int (0))))) (wTe (wOp fLt (wOp fIx (wVar 0) (wC (.int (1)))) (wCB fLen (wCons (wOp fIx (wVar 0) (wC (.int (0)))) wNil))))) (wSeq (wAsg (wOp fIx (wOp fIx (wVar 0) (wC (.int (0)))) (wOp fIx (wVar 0) (wC (.int (1))))) (gN 2))
  (wSeq (wAsg (wOp fAdd (wOp fIx (wVar 0) (wC (.int (1)))) (wC (.int (1)))) (gSb fSetL (wVar 0) (wC (.int (1)))))
  (wSeq (wAsg (wVar 2) (gSb fSetL (wVar 0) (wC (.int (6)))))
  (wSeq (wAsg (wC (.int (4))) (gSb fSetL (wVar 0) (wC (.int (3)))))
  (wIf (wTe (wOp fGe (wCB fAbs (wCons (wVar 2) wNil)) (wOp fPow (wC (.int (10))) (wC (.int (18)))))) (wSeq (wAsg (wCB fAbs (wCons (wVar 2) wNil)) (gSb fSetL (wVar 0) (wC (.int (2)))))
  (wAsg (wC (.int (60))) (gSb fSetL (wVar 0) (wC (.int (3)))))) wNext))))) wNext)
  (w_law_take_2 A E)))
theorem bd_log {n : Nat} {x : Int} (h : Bd n x) (h0 : 0 < n) (l : n ≤ 9000) : x.natAbs.log2 < 9000 := Nat.lt_of_lt_of_le (PySem.Flt.log2_lt_of h0 h) l
theorem pure_law_take (A : Ad) (ds μ Q E0) (h : c_law_take A ds μ Q E0) : w_law_take A (fun C fs _ μ => dwx E0 C fs μ) (rets Q) (st0 6 ds) μ := by
  unfold c_law_take at h
  split at h
  · rename_i p many
    obtain ⟨st, hp, hst, hb, h⟩ := h
    -- the draw by mixing
    have r7 : ∀ (st : List D) (c l k : Option D) (m : Int), 2 ≤ many → StOk st → w_law_take_7 A (fun C fs _ μ => dwx E0 C fs μ) (rets Q) [some (.mut p), some (.int many), c, l, some (.int m), k] (um μ p (.lst st)) := by
      intro st c l k m hm hst
      unfold w_law_take_7
      walk_at "w"
      exact ⟨by omega, dwn.of (h _ _ hst (Int.emod_nonneg _ (by omega)) (fun _ => Int.emod_lt_of_pos _ (by omega)) (fun z => by omega))⟩
    have r6 : ∀ (st : List D) (c l k : Option D) (m : Int), 2 ≤ many → StOk st → w_law_take_6 A (fun C fs _ μ => dwx E0 C fs μ) (rets Q) [some (.mut p), some (.int many), c, l, some (.int m), k] (um μ p (.lst st)) := by
      intro st c l k m hm hst
      unfold w_law_take_6
      walk_at "w"
      refine ⟨⟨by decide, by decide, by decide⟩, ite2 (fun _ => ?_) (fun _ => r7 st c l k m hm hst)⟩
      refine ⟨by decide, fun i ρ μ' => ∃ (m : Int) (k : Option D), ρ = [some (.mut p), some (.int many), c, l, some (.int m), k] ∧ μ' = um μ p (.lst st), ⟨m, k, rfl, rfl⟩, fun _ _ _ _ => trivial, ?_, ?_⟩
      · rintro i d ρ μ' hd ⟨m, k, rfl, rfl⟩
        have hi : i < 4 := by
          have := (List.getElem?_eq_some_iff.mp hd).1
          simpa [Wk.items, rng_len] using this
        obtain rfl : d = D.int (0 + (i : Nat)) := by
          have e := rng_get (lo := 0) (n := 4) hi
          exact Option.some.inj (hd.symm.trans e)
        unfold w_law_take_b1
        walk_at "w"
        exact ⟨mulR (by decide), fun r _ _ => wk.of ⟨_, _, rfl, rfl⟩⟩
      · rintro ρ μ' ⟨m, k, rfl, rfl⟩
        exact r7 st c l k m hm hst
    have r4 : ∀ (st : List D) (c l : Option D), 2 ≤ many → StOk st → w_law_take_4 A (fun C fs _ μ => dwx E0 C fs μ) (rets Q) [some (.mut p), some (.int many), c, l, none, none] (um μ p (.lst st)) := by
      rintro st c l hm ⟨cs, i1, i2, i3, i4, i5, i6, rfl, hc, h1, h2, h2b, h3⟩
      unfold w_law_take_4
      walk_at "w"
      refine ⟨mulR (by decide), mulR (by decide), fun r _ _ => r6 _ _ _ _ _ hm ⟨cs, i1, i2, i3, i4, _, i6, rfl, hc, h1, h2, h2b, h3⟩⟩
    have r3 : ∀ (st : List D) (c : Option D), 2 ≤ many → StOk st → w_law_take_3 A (fun C fs _ μ => dwx E0 C fs μ) (rets Q) [some (.mut p), some (.int many), c, none, none, none] (um μ p (.lst st)) := by
      rintro st c hm hst
      obtain ⟨cs, i1, i2, i3, i4, i5, i6, rfl, hc, h1, h2, h2b, h3⟩ := id hst
      unfold w_law_take_3
      walk_at "w"
      refine ite2 (fun hi => ?_) (fun hi => r4 _ _ _ hm hst)
      have hq : 0 ≤ i2 / many := Int.ediv_nonneg h2 (by omega)
      have hqb : Bd 800 (i2 / many) := h2b.le (by
        have : i2 / many ≤ i2 := Int.ediv_le_self _ h2
        omega)
      have fin : ∀ st', StOk st' → dwn Q (.int (i2 % many)) (um μ p (.lst st')) := fun st' hs => dwn.of (h _ _ hs (Int.emod_nonneg _ (by omega)) (fun _ => Int.emod_lt_of_pos _ (by omega)) (fun z => by omega))
      refine ⟨⟨by omega, bd_log hb (by decide) (by decide)⟩, ?_⟩
      refine ite2 (fun _ => ?_) (fun _ => ite2 (fun _ => ?_) (fun _ => ?_))
      · exact ⟨by omega, fin _ ⟨cs, i1, 0, 0, i4, i5, i6, rfl, hc, h1, by decide, by unfold Bd; decide, by decide⟩⟩
      · exact ⟨by omega, fin _ ⟨cs, i1, 0, 0, i4, i5, i6, rfl, hc, h1, by decide, by unfold Bd; decide, by decide⟩⟩
      · exact ⟨by omega, fin _ ⟨cs, i1, _, i3, i4, i5, i6, rfl, hc, h1, hq, hqb, h3⟩⟩
    have r2 : ∀ (st : List D) (c : Option D), 2 ≤ many → StOk st → w_law_take_2 A (fun C fs _ μ => dwx E0 C fs μ) (rets Q) [some (.mut p), some (.int many), c, none, none, none] (um μ p (.lst st)) := by
      rintro st c hm hst
      obtain ⟨cs, i1, i2, i3, i4, i5, i6, rfl, hc, h1, h2, h2b, h3⟩ := id hst
      unfold w_law_take_2
      walk_at "w"
      refine ite2 (fun hi => ?_) (fun hi => r3 _ _ hm hst)
      exact r3 _ _ hm ⟨cs, i1, i2, i3 - 1, i4, i5, i6, rfl, hc, h1, h2, h2b, by omega⟩
    have e0 : μ = um μ p (.lst st) := (um_id hp).symm
    rw [e0]
    obtain ⟨cs, i1, i2, i3, i4, i5, i6, rfl, hc, h1, h2, h2b, h3⟩ := id hst
    unfold w_law_take
    walk_at "w"
    refine ite2 (fun hm => ?_) (fun hm => ?_)
    · exact dwn.of (h 0 _ hst (by decide) (fun z => by omega) (fun _ => rfl))
    · refine ite2 (fun _ => ite2 (fun hl => ?_) (fun _ => r2 _ _ (by omega) hst)) (fun _ => r2 _ _ (by omega) hst)
      rw [List.length_map] at hl
      obtain ⟨d, ed, hd, _⟩ := atI_in (l := cs) h1 hl
      have ed' : atI (cs.map D.int) i1 = some (.int d) := by
        obtain ⟨d', e1, _, e3⟩ := atI_in (l := cs.map D.int) h1 (by rw [List.length_map]; exact hl)
        obtain ⟨_, _, _, e4⟩ := atI_in (l := cs) h1 hl
        rw [e1, ← e3, List.getElem?_map]
        obtain ⟨d2, f1, _, f3⟩ := atI_in (l := cs) h1 hl
        rw [f3, ← f1, ed]; rfl
      rw [ed']
      walk_at "w"
      refine ⟨⟨by decide, by decide, by decide⟩, ite2 (fun _ => ?_) (fun _ => ?_)⟩
      · exact r2 _ _ (by omega) ⟨cs, i1 + 1, _, 60, i4, i5, d, rfl, hc, by omega, by omega, (hc d hd).le (by omega), by decide⟩
      · exact r2 _ _ (by omega) ⟨cs, i1 + 1, i2, 4, i4, i5, d, rfl, hc, by omega, h2, h2b, by decide⟩
  · exact h.elim
theorem len_law_take (A : Ad) : ∀ ds μ Q E, c_law_take A ds μ Q E → ds.length = 2 := by
  intro ds μ Q E h
  unfold c_law_take at h
  first | (split at h) | (split at h)
  all_goals first | rfl | exact h.elim
theorem ok_law_take {P : Program} {w : World} {K : PySem.W.Frag} {mg : Str → Option Value} {base : Heap} {A : Ad} (D : Dfn K mg "_law_take" "_law_take" s_law_take ["store", "many"]) (T : Tx P w base K mg A) (G_law_mix : DfOk P w K mg base "_law_mix" 1 ["number"] (c_law_mix A)) : DfOk P w K mg base "_law_take" 2 ["store", "many"] (c_law_take A) := by
  obtain ⟨f, fd, F, hm, hb⟩ := D
  refine ⟨f, fd, okD F sc_law_take (by decide) (len_law_take A) ?_, hm, F.kp, hb⟩
  intro X W E cdv B outer s H Ex hX tk hp hr
  subst hX
  exact ⟨_, w_law_take A E, (scons (sif (tc' op_lt do_lt (ev 1) ei) (sone (sret ei)) snil)
  (scons (sif (tbo (tand (tc' op_eq do_eq (eix (ev 0) ei) ei) (tand1 (tc' op_lt do_lt (eix (ev 0) ei) (ecb call_len_seq dc_len T.b_len (acons (eix (ev 0) ei) anil)))))) (scons (sset (i := 2) (eix (eix (ev 0) ei) (eix (ev 0) ei)) sc_law_take.nd)
  (scons (sasg (eadd (eix (ev 0) ei) ei) (gsl (ev 0) ei))
  (scons (sasg (ev 2) (gsl (ev 0) ei))
  (scons (sasg ei (gsl (ev 0) ei))
  (sone (sif (tc' op_ge do_ge (ecb call_abs dc_abs T.b_abs (acons (ev 2) anil)) (epow ei ei)) (scons (sasg (ecb call_abs dc_abs T.b_abs (acons (ev 2) anil)) (gsl (ev 0) ei))
  (sone (sasg ei (gsl (ev 0) ei)))) snil)))))) snil)
  (scons (sif (tc' op_gt do_gt (eix (ev 0) ei) ei) (sone (sasg (esub (eix (ev 0) ei) ei) (gsl (ev 0) ei))) snil)
  (scons (sif (tc' op_gt do_gt (eix (ev 0) ei) ei) (scons (sset (i := 3) (ecty call_int1 dc_int T.b_int (acons (eix (ev 0) ei) anil)) sc_law_take.nd)
  (scons (sasg (ediv (ev 3) (ev 1)) (gsl (ev 0) ei))
  (scons (sif (tbo (tor (tc' op_eq do_eq (eix (ev 0) ei) ei) (tor1 (tc' op_eq do_eq (eix (ev 0) ei) ei)))) (scons (sasg ei (gsl (ev 0) ei))
  (sone (sasg ei (gsl (ev 0) ei)))) snil)
  (sone (sret (emod (ev 3) (ev 1))))))) snil)
  (scons (sasg (eadd (eix (ev 0) ei) ei) (gsl (ev 0) ei))
  (scons (sset (i := 4) (ecall2 tk G_law_mix (hr.mono (by decide)) (acons (eadd (eadd (eix (ev 0) ei) (emul (eix (ev 0) ei) ei)) (emul (eix (ev 0) ei) ei)) anil)) sc_law_take.nd)
  (scons (sif (tc' op_gt do_gt (ev 1) (epow ei ei)) (sone (sfor hp (ir1 T.b_range (acons ei anil)) (gnm 5 sc_law_take.nd) (sone (sset (i := 4) (eadd (emul (ev 4) ei) (ecall2 tk G_law_mix (hr.mono (by decide)) (acons (eadd (ev 4) (ev 5)) anil))) sc_law_take.nd)))) snil)
  (sone (sret (emod (ecty call_int1 dc_int T.b_int (acons (ev 4) anil)) (ev 1))))))))))), fun ds μ Q E0 hc hE => by subst hE; exact pure_law_take A ds μ Q E0 hc⟩
end K14
set_option maxHeartbeats 800000
namespace K14
open PySem L2 DL
local macro_rules | `(tactic| walk_at "w") => `(tactic| simp only [wSeq, wNext, wIf, wRet, wRetN, wDrop, wAsg, gN, wVar, wC, wOp, wUn, wNil, wCons, wCB, wTup, wLst, wLstF, wTe, tB0, wAnd, wOr, wNot, wAndV, wOrV, wNotV, wIfE, wCall, wCallG, wRaise, wFrz, fFrz, rets, fI, fI0, fAdd, fSub, fMul, fLt, fLe, fGt, fGe, fMod, fModN, fPow, fDiv, fDivG, fNeg, fEq, fNe, eqF_int, eqF_bl, eqF_str, scal_int, scal_bl, scal_str, fLen, sv, fIx, fAbs, fInt, fList, wSl, fSlL, oNo, oSo, lvr, lv, fCat, wMeL, fApp, fPop, fSetL, gSb, iLs, iTp, iR1, iR2, wFor, gTp, gCn, gNl, wPar, wBrk, wCnt, fIsi, wIsx, wLc, wYes, wip, wTr, truD, wTry, clrD, wFld, fieldsD, wSetF, wMeth, wMake, fStrI, fFmt, wJoin, wJs, wChain, fAddS, fIsN, fNotN, um_same, um_um, st0, List.map_cons, List.map_nil, List.length_cons, List.length_nil, List.getElem?_cons_zero, List.getElem?_cons_succ, List.set_cons_zero, List.set_cons_succ, List.cons_append, List.nil_append, List.replicate, atI_c0, atI_c1, atI_c2, atI_c3, atI_c4, atI_c5, atI_c6, ixN_70, ixN_71, ixN_72, ixN_73, ixN_74, ixN_75, ixN_76, Nat.reduceAdd, ite_T, ite_F, if_dec, if_ndec, if_nb, true_and, if_true, Bool.false_eq_true, if_false])
theorem bd_small {n : Nat} {x : Int} (h0 : 0 ≤ x) (h1 : x < 1000) : Bd (n + 10) x := by
  refine Bd.mono (n := 10) ?_ (Nat.le_add_left _ _)
  unfold Bd; omega
def c_law_rare (A : Ad) : Ct := fun ds μ Q _ => match ds with
  | [.mut p, .int many] => ∃ st, μ p = some (.lst st) ∧ StOk st ∧ Bd 3000 many ∧ ∀ (b : Bool) (st' : List D), StOk st' → Q (.bl b) (um μ p (.lst st'))
  | _ => False
abbrev s_law_rare : Stmt := top 21
theorem sc_law_rare : FnScope ["store", "many"] ["store", "many"] (defScope s_law_rare) := ⟨rfl, rfl, rfl, by decide +kernel, rfl, by decide +kernel, by decide +kernel⟩
def w_law_rare (A : Ad) (E : EX) : WS := (wRet (wOp fEq (wCall (c_law_take A) E (wCons (wVar 0) (wCons (wVar 1) wNil))) (wC (.int (0)))))
theorem pure_law_rare (A : Ad) (ds μ Q E0) (h : c_law_rare A ds μ Q E0) : w_law_rare A (fun C fs _ μ => dwx E0 C fs μ) (rets Q) (st0 2 ds) μ := by
  unfold c_law_rare at h
  split at h
  · rename_i p many
    obtain ⟨st, hp, hst, hb, h⟩ := h
    unfold w_law_rare
    walk_at "w"
    refine ⟨st, hp, hst, hb, fun n st' hs _ _ _ => ?_⟩
    walk_at "w"
    exact dwn.of (h _ _ hs)
  · exact h.elim
theorem len_law_rare (A : Ad) : ∀ ds μ Q E, c_law_rare A ds μ Q E → ds.length = 2 := by
  intro ds μ Q E h
  unfold c_law_rare at h
  first | (split at h) | (split at h)
  all_goals first | rfl | exact h.elim
theorem ok_law_rare {P : Program} {w : World} {K : PySem.W.Frag} {mg : Str → Option Value} {base : Heap} {A : Ad} (D : Dfn K mg "_law_rare" "_law_rare" s_law_rare ["store", "many"]) (T : Tx P w base K mg A) (G_law_take : DfOk P w K mg base "_law_take" 2 ["store", "many"] (c_law_take A)) : DfOk P w K mg base "_law_rare" 3 ["store", "many"] (c_law_rare A) := by
  obtain ⟨f, fd, F, hm, hb⟩ := D
  refine ⟨f, fd, okD F sc_law_rare (by decide) (len_law_rare A) ?_, hm, F.kp, hb⟩
  intro X W E cdv B outer s H Ex hX tk hp hr
  subst hX
  exact ⟨_, w_law_rare A E, (sone (sret (ec op_eq do_eq (ecall2 tk G_law_take (hr.mono (by decide)) (acons (ev 0) (acons (ev 1) anil))) ei))), fun ds μ Q E0 hc hE => by subst hE; exact pure_law_rare A ds μ Q E0 hc⟩
end K14
set_option maxHeartbeats 800000
namespace K14
open PySem L2 DL
local macro_rules | `(tactic| walk_at "w") => `(tactic| simp only [wSeq, wNext, wIf, wRet, wRetN, wDrop, wAsg, gN, wVar, wC, wOp, wUn, wNil, wCons, wCB, wTup, wLst, wLstF, wTe, tB0, wAnd, wOr, wNot, wAndV, wOrV, wNotV, wIfE, wCall, wCallG, wRaise, wFrz, fFrz, rets, fI, fI0, fAdd, fSub, fMul, fLt, fLe, fGt, fGe, fMod, fModN, fPow, fDiv, fDivG, fNeg, fEq, fNe, eqF_int, eqF_bl, eqF_str, scal_int, scal_bl, scal_str, fLen, sv, fIx, fAbs, fInt, fList, wSl, fSlL, oNo, oSo, lvr, lv, fCat, wMeL, fApp, fPop, fSetL, gSb, iLs, iTp, iR1, iR2, wFor, gTp, gCn, gNl, wPar, wBrk, wCnt, fIsi, wIsx, wLc, wYes, wip, wTr, truD, wTry, clrD, wFld, fieldsD, wSetF, wMeth, wMake, fStrI, fFmt, wJoin, wJs, wChain, fAddS, fIsN, fNotN, um_same, um_um, st0, List.map_cons, List.map_nil, List.length_cons, List.length_nil, List.getElem?_cons_zero, List.getElem?_cons_succ, List.set_cons_zero, List.set_cons_succ, List.cons_append, List.nil_append, List.replicate, atI_c0, atI_c1, atI_c2, atI_c3, atI_c4, atI_c5, atI_c6, ixN_70, ixN_71, ixN_72, ixN_73, ixN_74, ixN_75, ixN_76, Nat.reduceAdd, ite_T, ite_F, if_dec, if_ndec, if_nb, true_and, if_true, Bool.false_eq_true, if_false])
def isI : D → Bool
  | .int _ => true
  | _ => false
def c_law_number (A : Ad) : Ct := fun ds μ Q _ => match ds with
  | [d] => (∃ t, tyD μ d = some t) ∧ Q (.bl (isI d)) μ
  | _ => False
abbrev s_law_number : Stmt := top 25
theorem sc_law_number : FnScope ["told"] ["told"] (defScope s_law_number) := ⟨rfl, rfl, rfl, by decide +kernel, rfl, by decide +kernel, by decide +kernel⟩
def w_law_number (A : Ad) (E : EX) : WS := (wRet (wAndV (wUn (fIsi .int) (wVar 0)) (wNotV (wUn (fIsi .bl) (wVar 0)))))
theorem isI_ty {μ : Mu} {d : D} {t : Ty} (h : tyD μ d = some t) : (isB t .int && !isB t .bl) = isI d := by
  cases d with
  | «mut» a =>
    have h : (match μ a with
      | some (.lst _) => some Ty.lst
      | some (.dK _) => some Ty.dic
      | some (.dT _) => some Ty.dic
      | _ => none) = some t := h
    split at h <;> first | (cases h; rfl) | cases h
  | _ => first | (cases h; rfl) | cases h
theorem pure_law_number (A : Ad) (ds μ Q E0) (h : c_law_number A ds μ Q E0) : w_law_number A (fun C fs _ μ => dwx E0 C fs μ) (rets Q) (st0 1 ds) μ := by
  unfold c_law_number at h
  split at h
  · rename_i d
    obtain ⟨⟨t, ht⟩, h⟩ := h
    unfold w_law_number
    walk_at "w"
    rw [ht]
    refine ⟨by decide, ?_⟩
    have e := isI_ty ht
    show (if isB t .int = true then (Ty.bl ≠ Ty.non ∧ dwn Q (D.bl !isB t Ty.bl) μ) else dwn Q (D.bl false) μ)
    cases c : isB t .int with
    | true =>
      rw [c, Bool.true_and] at e
      rw [if_pos rfl, e]
      exact ⟨by decide, dwn.of h⟩
    | false =>
      rw [c, Bool.false_and] at e
      rw [if_neg Bool.false_ne_true, e]
      exact dwn.of h
  · exact h.elim
theorem len_law_number (A : Ad) : ∀ ds μ Q E, c_law_number A ds μ Q E → ds.length = 1 := by
  intro ds μ Q E h
  unfold c_law_number at h
  first | (split at h) | (split at h)
  all_goals first | rfl | exact h.elim
theorem ok_law_number {P : Program} {w : World} {K : PySem.W.Frag} {mg : Str → Option Value} {base : Heap} {A : Ad} (D : Dfn K mg "_law_number" "_law_number" s_law_number ["told"]) (T : Tx P w base K mg A)  : DfOk P w K mg base "_law_number" 1 ["told"] (c_law_number A) := by
  obtain ⟨f, fd, F, hm, hb⟩ := D
  refine ⟨f, fd, okD F sc_law_number (by decide) (len_law_number A) ?_, hm, F.kp, hb⟩
  intro X W E cdv B outer s H Ex hX tk hp hr
  subst hX
  exact ⟨_, w_law_number A E, (sone (sret (eand (eisi .int T.b_isinstance T.b_int (by decide +kernel) (ev 0)) (eone (enot (eisi .bl T.b_isinstance T.b_bool (by decide +kernel) (ev 0))))))), fun ds μ Q E0 hc hE => by subst hE; exact pure_law_number A ds μ Q E0 hc⟩
end K14
set_option maxHeartbeats 800000
namespace K14
open PySem L2 DL
local macro_rules | `(tactic| walk_at "w") => `(tactic| simp only [wSeq, wNext, wIf, wRet, wRetN, wDrop, wAsg, gN, wVar, wC, wOp, wUn, wNil, wCons, wCB, wTup, wLst, wLstF, wTe, tB0, wAnd, wOr, wNot, wAndV, wOrV, wNotV, wIfE, wCall, wCallG, wRaise, wFrz, fFrz, rets, fI, fI0, fAdd, fSub, fMul, fLt, fLe, fGt, fGe, fMod, fModN, fPow, fDiv, fDivG, fNeg, fEq, fNe, eqF_int, eqF_bl, eqF_str, scal_int, scal_bl, scal_str, fLen, sv, fIx, fAbs, fInt, fList, wSl, fSlL, oNo, oSo, lvr, lv, fCat, wMeL, fApp, fPop, fSetL, gSb, iLs, iTp, iR1, iR2, wFor, gTp, gCn, gNl, wPar, wBrk, wCnt, fIsi, wIsx, wLc, wYes, wip, wTr, truD, wTry, clrD, wFld, fieldsD, wSetF, wMeth, wMake, fStrI, fFmt, wJoin, wJs, wChain, fAddS, fIsN, fNotN, um_same, um_um, st0, List.map_cons, List.map_nil, List.length_cons, List.length_nil, List.getElem?_cons_zero, List.getElem?_cons_succ, List.set_cons_zero, List.set_cons_succ, List.cons_append, List.nil_append, List.replicate, atI_c0, atI_c1, atI_c2, atI_c3, atI_c4, atI_c5, atI_c6, ixN_70, ixN_71, ixN_72, ixN_73, ixN_74, ixN_75, ixN_76, Nat.reduceAdd, ite_T, ite_F, if_dec, if_ndec, if_nb, true_and, if_true, Bool.false_eq_true, if_false])
/-! ### the same, kinds too -/
mutual
/-- plain data: no dicts, no cells -/
def pd : D → Bool
  | .tup l => pds l
  | .lst l => pds l
  | .non => true | .bl _ => true | .int _ => true | .str _ => true
  | _ => false
def pds : List D → Bool
  | [] => true
  | d :: l => pd d && pds l
end
mutual
/-- how many parts -/
def szD : D → Nat
  | .tup l => 1 + szs l
  | .lst l => 1 + szs l
  | _ => 1
def szs : List D → Nat
  | [] => 0
  | d :: l => szD d + szs l
end
theorem pds_mem : ∀ {l : List D} {d : D}, pds l = true → d ∈ l → pd d = true
  | d :: l, x, h, hx => by
    have h : (pd d && pds l) = true := h
    rw [Bool.and_eq_true] at h
    rcases List.mem_cons.mp hx with rfl | hx
    · exact h.1
    · exact pds_mem h.2 hx
theorem sz_pos : ∀ d : D, 1 ≤ szD d
  | .tup l => Nat.le_add_right 1 _
  | .lst l => Nat.le_add_right 1 _
  | .non => Nat.le_refl 1 | .bl _ => Nat.le_refl 1 | .int _ => Nat.le_refl 1 | .str _ => Nat.le_refl 1
  | .lsr _ => Nat.le_refl 1 | .dK _ _ => Nat.le_refl 1 | .dT _ _ => Nat.le_refl 1 | .ins _ _ _ => Nat.le_refl 1 | .exc _ _ _ _ => Nat.le_refl 1 | .ob _ _ => Nat.le_refl 1 | .mut _ => Nat.le_refl 1
/-- what is read there: a cell as a list -/
inductive RD (μ : Mu) : D → D → Prop
  | pure {d : D} : pd d = true → RD μ d d
  | cell {a : Addr} {l xs : List D} : μ a = some (.lst l) → l.length = xs.length → (∀ (i : Nat) (d x : D), l[i]? = some d → xs[i]? = some x → RD μ d x) → RD μ (.mut a) (.lst xs)
def c_law_same (A : Ad) : Ct := fun ds μ Q _ => match ds with
  | [one, two] => ∃ x, RD μ one x ∧ pd two = true ∧ szD two < 100000 ∧ ∀ b : Bool, (b = true ↔ x = two) → Q (.bl b) μ
  | _ => False
abbrev s_law_same : Stmt := top 26
theorem sc_law_same : FnScope ["told", "wanted", "pairs", "turn", "one", "two", "key", "k"] ["told", "wanted"] (defScope s_law_same) := ⟨rfl, rfl, rfl, by decide +kernel, rfl, by decide +kernel, by decide +kernel⟩
def w_law_same_2 (A : Ad) (E : EX) : WS := (wRet (wC (.bl false)))
def w_law_same_b1 (A : Ad) (E : EX) : WS := (wDrop (wMeL fApp (wVar 2) (wCons (wTup (wCons (wOp fIx (wVar 4) (wVar 7)) (wCons (wOp fIx (wVar 5) (wVar 7)) wNil))) wNil)))
def w_law_same_b2 (A : Ad) (E : EX) : WS := (wSeq (wIf (wTe (wOp fEq (wCB fLen (wCons (wVar 2) wNil)) (wC (.int (0))))) (wRet (wC (.bl true))) wNext)
  (wSeq (wAsg (wMeL fPop (wVar 2) wNil) (gTp 2 (gCn (gN 4) (gCn (gN 5) gNl))))
  (wIf (wOr (wTe (wOp fIsN (wVar 5) (wC .non))) (wTe (wUn (fIsi .bl) (wVar 5)))) (wIf (wNot (wOr (wAnd (wTe (wOp fIsN (wVar 4) (wC .non))) (wTe (wOp fIsN (wVar 5) (wC .non)))) (wAnd (wTe (wUn (fIsi .bl) (wVar 4))) (wAnd (wTe (wUn (fIsi .bl) (wVar 5))) (wTe (wOp fEq (wVar 4) (wVar 5))))))) (wRet (wC (.bl false))) wNext) (wIf (wTe (wUn (fIsi .int) (wVar 5))) (wIf (wOr (wNot (wTe (wCall (c_law_number A) E (wCons (wVar 4) wNil)))) (wTe (wOp fNe (wVar 4) (wVar 5)))) (wRet (wC (.bl false))) wNext) (wIf (wTe (wUn (fIsi .str) (wVar 5))) (wIf (wOr (wNot (wTe (wUn (fIsi .str) (wVar 4)))) (wTe (wOp fNe (wVar 4) (wVar 5)))) (wRet (wC (.bl false))) wNext) (wIf (wTe (wUn (fIsi .dic) (wVar 5))) wNever (wSeq (wIf (wOr (wTe (wOp fNe (wUn (fIsi .tup) (wVar 5)) (wUn (fIsi .tup) (wVar 4)))) (wTe (wOp fNe (wUn (fIsi .lst) (wVar 5)) (wUn (fIsi .lst) (wVar 4))))) (wRet (wC (.bl false))) wNext)
  (wSeq (wIf (wOr (wAnd (wNot (wTe (wUn (fIsi .tup) (wVar 4)))) (wNot (wTe (wUn (fIsi .lst) (wVar 4))))) (wTe (wOp fNe (wCB fLen (wCons (wVar 4) wNil)) (wCB fLen (wCons (wVar 5) wNil))))) (wRet (wC (.bl false))) wNext)
  (wFor (iR1 (wCons (wCB fLen (wCons (wVar 5) wNil)) wNil)) (gN 7) (w_law_same_b1 A E))))))))))
def w_law_same (A : Ad) (E : EX) : WS := (wSeq (wAsg (wLst (wCons (wTup (wCons (wVar 0) (wCons (wVar 1) wNil))) wNil)) (gN 2))
  (wSeq (wFor (iR1 (wCons (wC (.int (100000))) wNil)) (gN 3) (w_law_same_b2 A E))
  (w_law_same_2 A E)))
def tyP : D → Ty
  | .bl _ => .bl | .int _ => .int | .str _ => .str | .tup _ => .tup | .lst _ => .lst | _ => .non
theorem tyP_ok {d : D} (μ : Mu) (h : pd d = true) : tyD μ d = some (tyP d) := by
  cases d <;> first | rfl | cases h
theorem zip_eq : ∀ {l m : List D}, l.length = m.length → ((∀ q ∈ l.zip m, q.1 = q.2) ↔ l = m)
  | [], [], _ => ⟨fun _ => rfl, fun _ q h => nomatch h⟩
  | a :: l, b :: m, h => by
    have h' : l.length = m.length := by simpa using h
    rw [List.zip_cons_cons, List.forall_mem_cons, zip_eq h']
    exact ⟨fun ⟨x, y⟩ => by rw [show a = b from x, y], fun z => by cases z; exact ⟨rfl, rfl⟩⟩
theorem zip_sz : ∀ {l m : List D}, l.length = m.length → ((l.zip m).map fun q => szD q.2).sum = szs m
  | [], [], _ => rfl
  | a :: l, b :: m, h => by
    have h' : l.length = m.length := by simpa using h
    rw [List.zip_cons_cons, List.map_cons, List.sum_cons, zip_sz h']
    rfl
theorem szs_len : ∀ l : List D, l.length ≤ szs l
  | [] => Nat.le_refl 0
  | d :: l => by
    have := szs_len l
    have := sz_pos d
    show l.length + 1 ≤ szD d + szs l
    omega
theorem sum_len : ∀ st : List (D × D), st.length ≤ (st.map fun q => szD q.2).sum
  | [] => Nat.le_refl 0
  | q :: l => by
    have := sum_len l
    have := sz_pos q.2
    rw [List.map_cons, List.sum_cons, List.length_cons]
    omega
theorem rng_at {lo : Int} {n i : Nat} {d : D} (h : (rng lo n)[i]? = some d) : i < n ∧ d = .int (lo + (i : Nat)) := by
  have hi : i < n := by
    have := (List.getElem?_eq_some_iff.mp h).1
    rwa [rng_len] at this
  rw [rng_get hi] at h
  cases h
  exact ⟨hi, rfl⟩
theorem fixi (l : List D) : (Wk.fix l).items = l := rfl
/-- of a triple: what is walked, what is read there, what is wanted -/
abbrev T3 := D × D × D
def I_same (one two : D) (P : Prop) (n : Nat) (μ : Mu) (p : Addr) (i : Nat) (ρ : En) (μ' : Mu) : Prop := ∃ (st : List T3) (r3 r4 r5 r6 r7 : Option D), μ' = um μ p (.lst (st.map fun q => .tup [q.1, q.2.2])) ∧ ρ = [some one, some two, some (.mut p), r3, r4, r5, r6, r7] ∧
  (∀ q ∈ st, RD μ q.1 q.2.1 ∧ pd q.2.2 = true) ∧ ((∀ q ∈ st, q.2.1 = q.2.2) ↔ P) ∧ i + (st.map fun q => szD q.2.2).sum ≤ n
def zip3 (l xs m : List D) : List T3 := l.zip (xs.zip m)
theorem zip3_eq {l xs m : List D} (h1 : l.length = xs.length) (h2 : xs.length = m.length) : (∀ q ∈ zip3 l xs m, q.2.1 = q.2.2) ↔ xs = m := by
  rw [← zip_eq h2]
  constructor
  · intro z q hq
    obtain ⟨i, hi, e⟩ := List.getElem_of_mem hq
    have hl : i < l.length := by rw [List.length_zip] at hi; omega
    have : (l[i], q) ∈ zip3 l xs m := List.mem_iff_getElem.mpr ⟨i, by unfold zip3; rw [List.length_zip]; omega, by unfold zip3; rw [List.getElem_zip, e]⟩
    exact z _ this
  · intro z q hq
    have := List.of_mem_zip (a := q.1) (b := q.2) hq
    exact z _ this.2
theorem zip3_sz {l xs m : List D} (h1 : l.length = xs.length) (h2 : xs.length = m.length) : ((zip3 l xs m).map fun q => szD q.2.2).sum = szs m := by
  have e : (zip3 l xs m).map (fun q => szD q.2.2) = (xs.zip m).map fun q => szD q.2 := by
    unfold zip3
    have : (l.zip (xs.zip m)).map (·.2) = xs.zip m := List.map_snd_zip (by rw [List.length_zip]; omega)
    conv => rhs; rw [← this]
    rw [List.map_map]; rfl
  rw [e, zip_sz h2]
theorem sum_len3 : ∀ st : List T3, st.length ≤ (st.map fun q => szD q.2.2).sum
  | [] => Nat.le_refl 0
  | q :: l => by
    have := sum_len3 l
    have := sz_pos q.2.2
    rw [List.map_cons, List.sum_cons, List.length_cons]
    omega
local macro_rules | `(tactic| walk_at "s") => `(tactic| simp (decide := true) only [tyD, c_law_number, isI, isN, Bool.not_true, Bool.not_false, ite_true, ite_false, if_true, if_false, true_and])
theorem same_step (A : Ad) {one two : D} {P : Prop} {n : Nat} {μ : Mu} {p : Addr} {Q : D → Mu → Prop} {E0} {NX BK : En → Mu → Prop} (hp : μ p = none) (hz : n < 100000) (hq : ∀ b : Bool, (b = true ↔ P) → Q (.bl b) μ) (i : Nat) (d : D) (ρ : En) (μ' : Mu) (hI : I_same one two P n μ p i ρ μ')
    (hNX : ∀ ρ μ', I_same one two P n μ p (i + 1) ρ μ' → NX ρ μ') : w_law_same_b2 A (fun C fs _ μ => dwx E0 C fs μ) { nx := wk NX, rt := (rets Q).rt, ct := wk NX, bk := BK } (ρ.set 3 (some d)) μ' := by
  obtain ⟨st, r3, r4, r5, r6, r7, rfl, rfl, hp1, hiff, hsz⟩ := hI
  unfold w_law_same_b2
  rcases List.eq_nil_or_concat st with rfl | ⟨st, ⟨a, x, b⟩, rfl⟩
  · walk_at "w"
    exact ⟨μ, le.um hp, hq true (by simpa using hiff)⟩
  · have fin : ∀ m, x ≠ b → dwn Q (.bl false) (um μ p m) := fun m n => ⟨μ, le.um hp, hq false (by
      simp only [List.concat_eq_append, List.mem_append, List.mem_singleton] at hiff
      rw [← hiff]
      simp only [Bool.false_eq_true, false_iff]
      exact fun z => n (z (a, x, b) (.inr rfl)))⟩
    have hab := hp1 (a, x, b) (by simp)
    have hx : RD μ a x := hab.1
    have hb : pd b = true := hab.2
    have nxt : ∀ r3 r4 r5 r6 r7, x = b → wk NX [some one, some two, some (.mut p), r3, r4, r5, r6, r7] (um μ p (.lst (st.map fun q => .tup [q.1, q.2.2]))) := fun r3 r4 r5 r6 r7 e => wk.of (hNX _ _ ⟨st, r3, r4, r5, r6, r7, rfl, rfl, fun q hq => hp1 q (by simp [hq]), by
      rw [← hiff]
      simp only [List.concat_eq_append, List.mem_append, List.mem_singleton]
      exact ⟨fun z q hq => hq.elim (z q) (fun w => by rw [w]; exact e), fun z q hq => z q (.inl hq)⟩, by
      simp only [List.concat_eq_append, List.map_append, List.sum_append, List.map_cons, List.map_nil, List.sum_cons, List.sum_nil] at hsz
      have := sz_pos b
      omega⟩)
    have push : ∀ (l xs m : List D) (r3 r4 r5 r6 r7 : Option D), l.length = xs.length → xs.length = m.length → szD b = 1 + szs m → (x = b ↔ xs = m) → (∀ (i : Nat) (d y : D), l[i]? = some d → xs[i]? = some y → RD μ d y) → (∀ y ∈ m, pd y = true) →
        wk NX [some one, some two, some (.mut p), r3, r4, r5, r6, r7] (um μ p (.lst ((st ++ zip3 l xs m).map fun q => .tup [q.1, q.2.2]))) := fun l xs m r3 r4 r5 r6 r7 c1 c2 hs he hr hm => by
      have hm2 : i + ((st.map fun q => szD q.2.2).sum + (1 + szs m)) ≤ n := by
        simp only [List.concat_eq_append, List.map_append, List.sum_append, List.map_cons, List.map_nil, List.sum_cons, List.sum_nil, hs] at hsz
        exact hsz
      refine wk.of (hNX _ _ ⟨_, _, _, _, _, _, rfl, rfl, ?_, ?_, ?_⟩)
      · intro q hq
        rcases List.mem_append.mp hq with hq | hq
        · exact hp1 q (by simp [hq])
        · obtain ⟨k, hk, e⟩ := List.getElem_of_mem hq
          have hk' : k < l.length ∧ k < xs.length ∧ k < m.length := by
            unfold zip3 at hk
            rw [List.length_zip, List.length_zip] at hk
            omega
          have e : (l[k]'hk'.1, xs[k]'hk'.2.1, m[k]'hk'.2.2) = q := by
            rw [← e]
            simp only [zip3, List.getElem_zip]
          subst e
          exact ⟨hr k _ _ (List.getElem?_eq_getElem hk'.1) (List.getElem?_eq_getElem hk'.2.1), hm _ (List.getElem_mem _)⟩
      · rw [← hiff]
        simp only [List.concat_eq_append, List.mem_append, List.mem_singleton]
        have z := zip3_eq c1 c2
        refine ⟨fun w q hq => hq.elim (fun h => w q (.inl h)) (fun h => ?_), fun w q hq => hq.elim (fun h => w q (.inl h)) (fun h => ?_)⟩
        · rw [h]
          exact he.mpr (z.mp fun q h => w q (.inr h))
        · exact z.mpr (he.mp (w _ (.inr rfl))) q h
      · rw [List.map_append, List.sum_append, zip3_sz c1 c2]
        omega
    have len : ∀ (l xs m : List D) (j : Nat), l.length = xs.length → xs.length = m.length → szD b = 1 + szs m → ((st ++ (zip3 l xs m).take j).map fun q : T3 => (.tup [q.1, q.2.2] : D)).length < 100000 := fun l xs m j c1 c2 hs => by
      have hm : i + ((st.map fun q => szD q.2.2).sum + (1 + szs m)) ≤ n := by
        simp only [List.concat_eq_append, List.map_append, List.sum_append, List.map_cons, List.map_nil, List.sum_cons, List.sum_nil, hs] at hsz
        exact hsz
      have e1 := szs_len m
      have e2 := sum_len3 st
      rw [List.length_map, List.length_append, List.length_take]
      unfold zip3
      rw [List.length_zip, List.length_zip]
      omega
    simp only [List.concat_eq_append, List.map_append, List.map_cons, List.map_nil]
    walk_at "w"
    simp only [List.getLast?_concat, List.dropLast_concat, List.length_append, List.length_cons, List.length_nil]
    rw [if_neg (by omega)]
    walk_at "w"
    rcases hx with ha | ⟨e1, c1, hr⟩
    · cases b <;> first | (cases hb; done) | (cases a <;> first | (cases ha; done) | skip)
      all_goals (walk_at "s"; try walk_at "w"; try walk_at "s")
      all_goals (refine ⟨⟨p, _, rfl, um_same⟩, ?_⟩; try refine ⟨⟨_, rfl⟩, ?_⟩)
      all_goals first | exact fin _ (fun z => nomatch z) | exact nxt _ _ _ _ _ rfl | (refine ite2 (fun c => nxt _ _ _ _ _ ?_) (fun c => fin _ fun z => c ?_) <;> first | (rw [eq_of_beq c]; done) | (rw [c]; done) | (cases z; exact beq_self_eq_true _) | (cases z; rfl)) | skip
      all_goals (
        rename_i m l
        refine ite2 (fun c => ?_) (fun c => fin _ (fun z => c (by cases z; rfl)))
        have c : l.length = m.length := by omega
        have hlen := len l l m 0 rfl c rfl
        have e1 := szs_len m
        have hm0 : szs m < 100000 := by
          simp only [List.concat_eq_append, List.map_append, List.sum_append, List.map_cons, List.map_nil, List.sum_cons, List.sum_nil] at hsz
          first
            | (rw [show szD (.tup m) = 1 + szs m from rfl] at hsz; omega)
            | (rw [show szD (.lst m) = 1 + szs m from rfl] at hsz; omega)
        refine ⟨⟨by omega, by omega⟩, fun j ρ μ' => ∃ r7, μ' = um μ p (.lst ((st ++ (zip3 l l m).take j).map fun q => .tup [q.1, q.2.2])) ∧ ρ = [some one, some two, some (.mut p), some d, some _, some _, r6, r7], ⟨r7, by rw [List.take_zero, List.append_nil], rfl⟩, fun _ _ _ _ => trivial, ?_, ?_⟩
        · rintro j dj ρ μ' hdj ⟨r7, rfl, rfl⟩
          rw [fixi] at hdj
          obtain ⟨hj, rfl⟩ := rng_at hdj
          have hj : j < m.length := by omega
          unfold w_law_same_b1
          walk_at "w"
          rw [Int.zero_add, atI_0, atI_0, List.getElem?_eq_getElem (by omega), List.getElem?_eq_getElem hj]
          refine ⟨⟨p, _, rfl, um_same⟩, by decide, len l l m j rfl c rfl, wk.of ⟨_, ?_, rfl⟩⟩
          rw [List.take_succ, show (zip3 l l m)[j]? = some (l[j], l[j], m[j]) by unfold zip3; rw [List.getElem?_eq_getElem (by rw [List.length_zip, List.length_zip]; omega), List.getElem_zip, List.getElem_zip]]
          simp only [Option.toList_some, List.map_append, List.map_cons, List.map_nil, List.append_assoc]
        · rintro ρ μ' ⟨r7, rfl, rfl⟩
          rw [fixi, rng_len, List.take_of_length_le (by unfold zip3; rw [List.length_zip, List.length_zip]; omega)]
          refine push l l m _ _ _ _ _ rfl c rfl ⟨fun z => by cases z; rfl, fun z => by rw [z]⟩ (fun k y1 y2 h1 h2 => ?_) fun y hy => pds_mem hb hy
          cases h1.symm.trans h2
          exact .pure (pds_mem ha (List.mem_of_getElem? h1)))
    · rename_i q l xs
      have hpq : q ≠ p := ne_nm e1 hp
      cases b <;> first | (cases hb; done) | skip
      all_goals (simp (decide := true) only [tyD, um_ne hpq, e1, c_law_number, isI, isN, Bool.not_true, Bool.not_false, ite_true, ite_false, if_true, if_false, true_and]; try walk_at "w"; try simp (decide := true) only [tyD, um_ne hpq, e1, c_law_number, isI, isN, Bool.not_true, Bool.not_false, ite_true, ite_false, if_true, if_false, true_and])
      all_goals (refine ⟨⟨p, _, rfl, um_same⟩, ?_⟩; try refine ⟨⟨_, rfl⟩, ?_⟩)
      all_goals first | exact fin _ (fun z => nomatch z) | skip
      rename_i m
      refine ite2 (fun c => ?_) (fun c => fin _ (fun z => c (by cases z; rw [c1])))
      have c : xs.length = m.length := by omega
      have hm0 : szs m < 100000 := by
        simp only [List.concat_eq_append, List.map_append, List.sum_append, List.map_cons, List.map_nil, List.sum_cons, List.sum_nil] at hsz
        have hs : szD (.lst m) = 1 + szs m := rfl
        rw [hs] at hsz
        omega
      have e2 := szs_len m
      refine ⟨⟨by omega, by omega⟩, fun j ρ μ' => ∃ r7, μ' = um μ p (.lst ((st ++ (zip3 l xs m).take j).map fun q => .tup [q.1, q.2.2])) ∧ ρ = [some one, some two, some (.mut p), some d, some _, some _, r6, r7], ⟨r7, by rw [List.take_zero, List.append_nil], rfl⟩, fun _ _ _ _ => trivial, ?_, ?_⟩
      · rintro j dj ρ μ' hdj ⟨r7, rfl, rfl⟩
        rw [fixi] at hdj
        obtain ⟨hj, rfl⟩ := rng_at hdj
        have hj : j < m.length := by omega
        unfold w_law_same_b1
        walk_at "w"
        rw [um_ne hpq, e1]
        dsimp only
        rw [Int.zero_add, atI_0, atI_0, List.getElem?_eq_getElem (by omega), List.getElem?_eq_getElem hj]
        refine ⟨⟨p, _, rfl, um_same⟩, by decide, len l xs m j c1 c rfl, wk.of ⟨_, ?_, rfl⟩⟩
        rw [List.take_succ, show (zip3 l xs m)[j]? = some (l[j], xs[j], m[j]) by unfold zip3; rw [List.getElem?_eq_getElem (by rw [List.length_zip, List.length_zip]; omega), List.getElem_zip, List.getElem_zip]]
        simp only [Option.toList_some, List.map_append, List.map_cons, List.map_nil, List.append_assoc]
      · rintro ρ μ' ⟨r7, rfl, rfl⟩
        rw [fixi, rng_len, List.take_of_length_le (by unfold zip3; rw [List.length_zip, List.length_zip]; omega)]
        exact push l xs m _ _ _ _ _ c1 c rfl ⟨fun z => by cases z; rfl, fun z => by rw [z]⟩ hr fun y hy => pds_mem hb hy
theorem pure_law_same (A : Ad) (ds μ Q E0) (h : c_law_same A ds μ Q E0) : w_law_same A (fun C fs _ μ => dwx E0 C fs μ) (rets Q) (st0 8 ds) μ := by
  unfold c_law_same at h
  split at h
  · rename_i one two
    obtain ⟨x, h1, h2, hz, hq⟩ := h
    unfold w_law_same
    walk_at "w"
    refine ⟨by decide, by decide, fun p hp => ⟨by decide, I_same one two (x = two) (szD two) μ p, ⟨[(one, x, two)], _, _, _, _, _, rfl, rfl, ?_, ?_, ?_⟩, fun _ _ _ _ => trivial, fun i d ρ μ' hd hI => same_step A hp hz hq i d ρ μ' hI (fun ρ μ' h => h), ?_⟩⟩
    · simp [h1, h2]
    · simp
    · simp
    · rintro ρ μ' ⟨st, r3, r4, r5, r6, r7, rfl, rfl, hp1, hiff, hsz⟩
      exfalso
      rw [fixi, rng_len] at hsz
      omega
  · exact h.elim
theorem len_law_same (A : Ad) : ∀ ds μ Q E, c_law_same A ds μ Q E → ds.length = 2 := by
  intro ds μ Q E h
  unfold c_law_same at h
  first | (split at h) | (split at h)
  all_goals first | rfl | exact h.elim
theorem ok_law_same {P : Program} {w : World} {K : PySem.W.Frag} {mg : Str → Option Value} {base : Heap} {A : Ad} (D : Dfn K mg "_law_same" "_law_same" s_law_same ["told", "wanted"]) (T : Tx P w base K mg A) (G_law_number : DfOk P w K mg base "_law_number" 1 ["told"] (c_law_number A)) : DfOk P w K mg base "_law_same" 2 ["told", "wanted"] (c_law_same A) := by
  obtain ⟨f, fd, F, hm, hb⟩ := D
  refine ⟨f, fd, okD F sc_law_same (by decide) (len_law_same A) ?_, hm, F.kp, hb⟩
  intro X W E cdv B outer s H Ex hX tk hp hr
  subst hX
  exact ⟨_, w_law_same A E, (scons (sset (i := 2) (elst (acons (etup (acons (ev 0) (acons (ev 1) anil))) anil)) sc_law_same.nd)
  (scons (sfor hp (ir1 T.b_range (acons ei anil)) (gnm 3 sc_law_same.nd) (scons (sif (tc' op_eq do_eq (ecb call_len_seq dc_len T.b_len (acons (ev 2) anil)) ei) (sone (sret eb)) snil)
  (scons (sasg (epop (ev 2)) (gtp (n := 2) (gcn (gnm 4 sc_law_same.nd) (gcn (gnm 5 sc_law_same.nd) gnl))))
  (sone (sif (tbo (tor (tc' op_isN do_isN (ev 5) en) (tor1 (tval (eisi .bl T.b_isinstance T.b_bool (by decide +kernel) (ev 5)))))) (sone (sif (tnot (tbo (tor (tbo (tand (tc' op_isN do_isN (ev 4) en) (tand1 (tc' op_isN do_isN (ev 5) en)))) (tor1 (tbo (tand (tval (eisi .bl T.b_isinstance T.b_bool (by decide +kernel) (ev 4))) (tand (tval (eisi .bl T.b_isinstance T.b_bool (by decide +kernel) (ev 5))) (tand1 (tc' op_eq do_eq (ev 4) (ev 5)))))))))) (sone (sret eb)) snil)) (sone (sif (tval (eisi .int T.b_isinstance T.b_int (by decide +kernel) (ev 5))) (sone (sif (tbo (tor (tnot (tval (ecall2 tk G_law_number (hr.mono (by decide)) (acons (ev 4) anil)))) (tor1 (tc' op_ne do_ne (ev 4) (ev 5))))) (sone (sret eb)) snil)) (sone (sif (tval (eisi .str T.b_isinstance T.b_str (by decide +kernel) (ev 5))) (sone (sif (tbo (tor (tnot (tval (eisi .str T.b_isinstance T.b_str (by decide +kernel) (ev 4)))) (tor1 (tc' op_ne do_ne (ev 4) (ev 5))))) (sone (sret eb)) snil)) (sone (sif (tval (eisi .dic T.b_isinstance T.b_dict (by decide +kernel) (ev 5))) snever (scons (sif (tbo (tor (tc' op_ne do_ne (eisi .tup T.b_isinstance T.b_tuple (by decide +kernel) (ev 5)) (eisi .tup T.b_isinstance T.b_tuple (by decide +kernel) (ev 4))) (tor1 (tc' op_ne do_ne (eisi .lst T.b_isinstance T.b_list (by decide +kernel) (ev 5)) (eisi .lst T.b_isinstance T.b_list (by decide +kernel) (ev 4)))))) (sone (sret eb)) snil)
  (scons (sif (tbo (tor (tbo (tand (tnot (tval (eisi .tup T.b_isinstance T.b_tuple (by decide +kernel) (ev 4)))) (tand1 (tnot (tval (eisi .lst T.b_isinstance T.b_list (by decide +kernel) (ev 4))))))) (tor1 (tc' op_ne do_ne (ecb call_len_seq dc_len T.b_len (acons (ev 4) anil)) (ecb call_len_seq dc_len T.b_len (acons (ev 5) anil)))))) (sone (sret eb)) snil)
  (sone (sfor hp (ir1 T.b_range (acons (ecb call_len_seq dc_len T.b_len (acons (ev 5) anil)) anil)) (gnm 7 sc_law_same.nd) (sone (sexpr (eapp (ev 2) (acons (etup (acons (eix (ev 4) (ev 7)) (acons (eix (ev 5) (ev 7)) anil))) anil)))))))))))))))))))
  (sone (sret eb)))), fun ds μ Q E0 hc hE => by subst hE; exact pure_law_same A ds μ Q E0 hc⟩
end K14
set_option maxHeartbeats 800000
namespace K14
open PySem L2 DL
local macro_rules | `(tactic| walk_at "w") => `(tactic| simp only [wSeq, wAugD, wAugN, fSetI, fLenS, fInS, fSort, fSortD, fSortSetI, fSortSetP, fRem, wNext, wIf, wRet, wRetN, wDrop, wAsg, gN, wVar, wC, wOp, wUn, wNil, wCons, wCB, wTup, wLst, wLstF, wTe, tB0, wAnd, wOr, wNot, wAndV, wOrV, wNotV, wIfE, wCall, wCallG, wRaise, wFrz, fFrz, rets, fI, fI0, fAdd, fSub, fMul, fLt, fLe, fGt, fGe, fMod, fModN, fPow, fDiv, fDivG, fNeg, fEq, fNe, eqF_int, eqF_bl, eqF_str, scal_int, scal_bl, scal_str, fLen, sv, fIx, fAbs, fInt, fList, wSl, fSlL, oNo, oSo, lvr, lv, fCat, wMeL, fApp, fPop, fSetL, gSb, iLs, iTp, iR1, iR2, wFor, gTp, gCn, gNl, wPar, wBrk, wCnt, fIsi, wIsx, wLc, wYes, wip, wTr, truD, wTry, clrD, wFld, fieldsD, wSetF, wMeth, wMake, wIsX, wXf, wTryX, wRaiseL, wRaiseV, fCatM, fEqL, fStrI, fFmt, wJoin, wJs, wChain, wLc2, wLR, wProp, fRepT, wDIn, wDNewT, fSetD, iR3, gLs, fIns, fPopAt, fClear, fTuple, fMin2, fMaxL, fAny, iEn, wRev, fRev, wDNew, wDNewF, wDsp1, wDsp1F, fAddS, fIsN, fNotN, um_same, um_um, st0, List.map_cons, List.map_nil, List.length_cons, List.length_nil, List.getElem?_cons_zero, List.getElem?_cons_succ, List.set_cons_zero, List.set_cons_succ, List.cons_append, List.nil_append, List.replicate, atI_c0, atI_c1, atI_c2, atI_c3, atI_c4, atI_c5, atI_c6, ixN_70, ixN_71, ixN_72, ixN_73, ixN_74, ixN_75, ixN_76, Nat.reduceAdd, Int.reduceToNat, Int.reducePow, ite_T, ite_F, if_dec, if_ndec, if_nb, true_and, if_true, Bool.false_eq_true, if_false])
local macro_rules | `(tactic| walk_at "v") => `(tactic| simp only [wSeq, wAugD, wAugN, fSetI, fLenS, fInS, fSort, fSortD, fSortSetI, fSortSetP, fRem, wNext, wIf, wRet, wRetN, wDrop, wAsg, gN, wVar, wC, wOp, wUn, wNil, wCons, wCB, wTup, wLst, wLstF, wTe, tB0, wAnd, wOr, wNot, wAndV, wOrV, wNotV, wIfE, wCall, wCallG, wRaise, wFrz, fFrz, rets, fI, fI0, fAdd, fSub, fMul, fLt, fLe, fGt, fGe, fMod, fModN, fPow, fDiv, fDivG, fNeg, fEq, fNe, eqF_int, eqF_bl, eqF_str, scal_int, scal_bl, scal_str, fLen, sv, fIx, fAbs, fInt, fList, wSl, fSlL, oNo, oSo, lvr, lv, fCat, wMeL, fApp, fPop, fSetL, gSb, gTp, gCn, gNl, wPar, wBrk, wCnt, fIsi, wIsx, wYes, wip, wTr, truD, wTry, clrD, wFld, fieldsD, wSetF, wMeth, wMake, wIsX, wXf, wTryX, wRaiseL, wRaiseV, fCatM, fEqL, fStrI, fFmt, wJoin, wJs, wChain, wLR, wProp, fRepT, wDIn, wDNewT, fSetD, gLs, fIns, fPopAt, fClear, fTuple, fMin2, fMaxL, fAny, wRev, fRev, wDNew, wDNewF, wDsp1, wDsp1F, fAddS, fIsN, fNotN, um_same, um_um, st0, List.map_cons, List.map_nil, List.length_cons, List.length_nil, List.getElem?_cons_zero, List.getElem?_cons_succ, List.set_cons_zero, List.set_cons_succ, List.cons_append, List.nil_append, List.replicate, atI_c0, atI_c1, atI_c2, atI_c3, atI_c4, atI_c5, atI_c6, ixN_70, ixN_71, ixN_72, ixN_73, ixN_74, ixN_75, ixN_76, Nat.reduceAdd, Int.reduceToNat, Int.reducePow, ite_T, ite_F, if_dec, if_ndec, if_nb, true_and, if_true, Bool.false_eq_true, if_false])
local macro_rules | `(tactic| walk_at "u") => `(tactic| simp only [wSeq, wAugD, wAugN, fSetI, fLenS, fInS, fSort, fSortD, fSortSetI, fSortSetP, fRem, wNext, wIf, wRet, wRetN, wDrop, wAsg, gN, wVar, wC, wOp, wUn, wNil, wCons, wCB, wTup, wLst, wLstF, wTe, tB0, wAnd, wOr, wNot, wAndV, wOrV, wNotV, wIfE, wCall, wCallG, wRaise, rets, fI, fI0, fAdd, fSub, fMul, fLt, fLe, fGt, fGe, fMod, fModN, fPow, fDiv, fDivG, fNeg, fEq, fNe, eqF_int, eqF_bl, eqF_str, scal_int, scal_bl, scal_str, fLen, sv, fIx, fAbs, fInt, fList, wSl, fSlL, oNo, oSo, lvr, lv, fCat, wMeL, fApp, fPop, fSetL, gSb, gTp, gCn, gNl, wPar, wBrk, wCnt, fIsi, wIsx, wYes, wip, wTr, truD, wTry, clrD, wFld, fieldsD, wSetF, wMeth, wMake, wIsX, wXf, wTryX, wRaiseL, wRaiseV, fCatM, fEqL, fStrI, fFmt, wJoin, wJs, wChain, wLR, wProp, fRepT, wDIn, wDNewT, fSetD, gLs, fIns, fPopAt, fClear, fTuple, fMin2, fMaxL, fAny, wRev, fRev, wDNew, wDNewF, wDsp1, wDsp1F, fAddS, fIsN, fNotN, um_same, um_um, st0, List.map_cons, List.map_nil, List.length_cons, List.length_nil, List.getElem?_cons_zero, List.getElem?_cons_succ, List.set_cons_zero, List.set_cons_succ, List.cons_append, List.nil_append, List.replicate, atI_c0, atI_c1, atI_c2, atI_c3, atI_c4, atI_c5, atI_c6, ixN_70, ixN_71, ixN_72, ixN_73, ixN_74, ixN_75, ixN_76, Nat.reduceAdd, Int.reduceToNat, Int.reducePow, ite_T, ite_F, if_dec, if_ndec, if_nb, true_and, if_true, Bool.false_eq_true, if_false])
theorem lvr_lv {μ : Mu} {d : D} {l : List D} (h : lv μ d = some l) : lvr μ d = some l := by
  cases d <;> first | exact h | cases h
theorem map_at {α β : Type} {f : α → β} {l : List α} {i : Nat} {e : β} (h : (l.map f)[i]? = some e) : ∃ x, l[i]? = some x ∧ f x = e := by
  rw [List.getElem?_map, Option.map_eq_some_iff] at h
  exact h
/-! ### webs: what is checked -/
def c_check_web (A : Ad) : Ct := fun ds μ Q _ => match ds with
  | [d1, d2] => ∃ (ts : List Int) (ps : List I2), lv μ d1 = some (ts.map D.int) ∧ lv μ d2 = some (ps.map pD) ∧ ts.length ≤ 1000 ∧ (∀ p ∈ ps, p.1 ∈ ts ∧ p.2 ∈ ts ∧ p.1 ≠ p.2) ∧ (setI ts).length ≤ 40 ∧ Q .non μ
  | _ => False
abbrev s_check_web : Stmt := top 9
theorem sc_check_web : FnScope ["tags", "arrows", "known", "pair", "tag", "hider", "hidden"] ["tags", "arrows"] (defScope s_check_web) := ⟨rfl, rfl, rfl, by decide +kernel, rfl, by decide +kernel, by decide +kernel⟩
def w_check_web_b1 (A : Ad) (E : EX) : WS := (wIf (wTe (wOp fEq (wVar 5) (wVar 6))) wNever wNext)
def w_check_web_b2 (A : Ad) (E : EX) : WS := (wIf (wTe (wOp (fInS A.w true) (wVar 4) (wVar 2))) wNever wNext)
def w_check_web_b3 (A : Ad) (E : EX) : WS := (wFor (iTp (wVar 3)) (gN 4) (w_check_web_b2 A E))
def w_check_web (A : Ad) (E : EX) : WS := (wSeq (wAsg (wCB (fSetI A.w) (wCons (wVar 0) wNil)) (gN 2))
  (wSeq (wFor (iLs (wVar 1)) (gN 3) (w_check_web_b3 A E))
  (wSeq (wFor (iLs (wVar 1)) (gTp 2 (gCn (gN 5) (gCn (gN 6) gNl))) (w_check_web_b1 A E))
  (wIf (wTe (wOp fGt (wCB (fLenS A.w) (wCons (wVar 2) wNil)) (wC (.int (40))))) wNever wNext))))
theorem pure_check_web (A : Ad) (ds μ Q E0) (h : c_check_web A ds μ Q E0) : w_check_web A (fun C fs _ μ => dwx E0 C fs μ) (rets Q) (st0 7 ds) μ := by
  unfold c_check_web at h
  split at h
  · rename_i d1 d2
    obtain ⟨ts, ps, h1, h2, hl, hg, h40, h⟩ := h
    unfold w_check_web
    walk_at "v"
    refine ⟨_, ts, rfl, lvr_lv h1, hl, fun a => ?_⟩
    refine for_lv2 h2 rfl (fun i ρ' μ' => μ = μ' ∧ ∃ r3 r4, ρ' = [some d1, some d2, some (stI A.w a ts), r3, r4, none, none]) ⟨rfl, _, _, rfl⟩ (fun _ _ _ e => by rw [← e.1]; exact h2) ?_ ?_
    · rintro i e ρ' μ' he ⟨rfl, r3, r4, rfl⟩
      obtain ⟨p, hp, rfl⟩ := map_at he
      have hm := hg p (List.mem_of_getElem? hp)
      unfold w_check_web_b3 pD
      walk_at "w"
      refine ⟨fun j ρ μ' => μ = μ' ∧ ∃ r4, ρ = [some d1, some d2, some (stI A.w a ts), some (.tup [.int p.1, .int p.2]), r4, none, none], ⟨rfl, _, rfl⟩, fun _ _ _ _ => trivial, ?_, ?_⟩
      · rintro j d ρ μ' hd ⟨rfl, r4, rfl⟩
        have hd2 : ∃ k, d = .int k ∧ k ∈ ts := by
          have := List.mem_of_getElem? hd
          simp only [fixi, List.mem_cons, List.not_mem_nil, or_false] at this
          rcases this with rfl | rfl
          · exact ⟨_, rfl, hm.1⟩
          · exact ⟨_, rfl, hm.2.1⟩
        obtain ⟨k, rfl, hk⟩ := hd2
        unfold w_check_web_b2
        walk_at "w"
        refine ⟨k, a, ts, rfl, rfl, ?_⟩
        simp only [hk, decide_true, Bool.not_true, Bool.false_eq_true, if_false]
        exact wk.of ⟨rfl, _, rfl⟩
      · rintro ρ μ' ⟨rfl, r4, rfl⟩
        exact wk.of ⟨rfl, _, _, rfl⟩
    · rintro ρ' μ' ⟨rfl, r3, r4, rfl⟩
      dsimp only
      refine for_lv2 h2 rfl (fun i ρ' μ' => μ = μ' ∧ ∃ r5 r6, ρ' = [some d1, some d2, some (stI A.w a ts), r3, r4, r5, r6]) ⟨rfl, _, _, rfl⟩ (fun _ _ _ e => by rw [← e.1]; exact h2) ?_ ?_
      · rintro i e ρ' μ' he ⟨rfl, r5, r6, rfl⟩
        obtain ⟨p, hp, rfl⟩ := map_at he
        have hm := hg p (List.mem_of_getElem? hp)
        unfold w_check_web_b1 pD
        walk_at "w"
        rw [if_neg hm.2.2]
        exact wk.of ⟨rfl, _, _, rfl⟩
      · rintro ρ' μ' ⟨rfl, r5, r6, rfl⟩
        walk_at "w"
        refine ⟨a, ts, rfl, ?_⟩
        rw [if_neg (by omega)]
        exact dwn.of h
  · exact h.elim
theorem len_check_web (A : Ad) : ∀ ds μ Q E, c_check_web A ds μ Q E → ds.length = 2 := by
  intro ds μ Q E h
  unfold c_check_web at h
  first | (split at h) | (split at h)
  all_goals first | rfl | exact h.elim
theorem ok_check_web {P : Program} {w : World} {K : PySem.W.Frag} {mg : Str → Option Value} {base : Heap} {A : Ad} (D : Dfn K mg "check_web" "check_web" s_check_web ["tags", "arrows"]) (T : Tx P w base K mg A)  : DfOk P w K mg base "check_web" 4 ["tags", "arrows"] (c_check_web A) := by
  obtain ⟨f, fd, F, hm, hb⟩ := D
  refine ⟨f, fd, okD F sc_check_web (by decide) (len_check_web A) ?_, hm, F.kp, hb⟩
  intro X W E cdv B outer s H Ex hX tk hp hr
  subst hX
  exact ⟨_, w_check_web A E, (scons (sset (i := 2) (ecty (cr_setI rfl) (dc_setI T.hw) T.b_set (acons (ev 0) anil)) sc_check_web.nd)
  (scons (sfor hp (il (ev 1)) (gnm 3 sc_check_web.nd) (sone (sfor hp (it (ev 3)) (gnm 4 sc_check_web.nd) (sone (sif (tc' or_snotin (do_ninS T.hw) (ev 4) (ev 2) (by rfl)) snever snil)))))
  (scons (sfor hp (il (ev 1)) (gtp (n := 2) (gcn (gnm 5 sc_check_web.nd) (gcn (gnm 6 sc_check_web.nd) gnl))) (sone (sif (tc' op_eq do_eq (ev 5) (ev 6)) snever snil)))
  (sone (sif (tc' op_gt do_gt (ecb cr_lenS (dc_lenS T.hw) T.b_len (acons (ev 2) anil)) (eg rfl T.g_MOST_TAGS.choose_spec.1 T.g_MOST_TAGS.choose_spec.2 rfl rfl)) snever snil))))), fun ds μ Q E0 hc hE => by subst hE; exact pure_check_web A ds μ Q E0 hc⟩
end K14
set_option maxHeartbeats 800000
namespace K14
open PySem L2 DL
local macro_rules | `(tactic| walk_at "w") => `(tactic| simp only [wSeq, wAugD, wAugN, fSetI, fLenS, fInS, fSort, fSortD, fSortSetI, fSortSetP, fRem, wNext, wIf, wRet, wRetN, wDrop, wAsg, gN, wVar, wC, wOp, wUn, wNil, wCons, wCB, wTup, wLst, wLstF, wTe, tB0, wAnd, wOr, wNot, wAndV, wOrV, wNotV, wIfE, wCall, wCallG, wRaise, wFrz, fFrz, rets, fI, fI0, fAdd, fSub, fMul, fLt, fLe, fGt, fGe, fMod, fModN, fPow, fDiv, fDivG, fNeg, fEq, fNe, eqF_int, eqF_bl, eqF_str, scal_int, scal_bl, scal_str, fLen, sv, fIx, fAbs, fInt, fList, wSl, fSlL, oNo, oSo, lvr, lv, fCat, wMeL, fApp, fPop, fSetL, gSb, iLs, iTp, iR1, iR2, wFor, gTp, gCn, gNl, wPar, wBrk, wCnt, fIsi, wIsx, wLc, wYes, wip, wTr, truD, wTry, clrD, wFld, fieldsD, wSetF, wMeth, wMake, wIsX, wXf, wTryX, wRaiseL, wRaiseV, fCatM, fEqL, fStrI, fFmt, wJoin, wJs, wChain, wLc2, wLR, wProp, fRepT, wDIn, wDNewT, fSetD, iR3, gLs, fIns, fPopAt, fClear, fTuple, fMin2, fMaxL, fAny, iEn, wRev, fRev, wDNew, wDNewF, wDsp1, wDsp1F, fAddS, fIsN, fNotN, um_same, um_um, st0, List.map_cons, List.map_nil, List.length_cons, List.length_nil, List.getElem?_cons_zero, List.getElem?_cons_succ, List.set_cons_zero, List.set_cons_succ, List.cons_append, List.nil_append, List.replicate, atI_c0, atI_c1, atI_c2, atI_c3, atI_c4, atI_c5, atI_c6, ixN_70, ixN_71, ixN_72, ixN_73, ixN_74, ixN_75, ixN_76, Nat.reduceAdd, Int.reduceToNat, Int.reducePow, ite_T, ite_F, if_dec, if_ndec, if_nb, true_and, if_true, Bool.false_eq_true, if_false])
local macro_rules | `(tactic| walk_at "v") => `(tactic| simp only [wSeq, wAugD, wAugN, fSetI, fLenS, fInS, fSort, fSortD, fSortSetI, fSortSetP, fRem, wNext, wIf, wRet, wRetN, wDrop, wAsg, gN, wVar, wC, wOp, wUn, wNil, wCons, wCB, wTup, wLst, wLstF, wTe, tB0, wAnd, wOr, wNot, wAndV, wOrV, wNotV, wIfE, wCall, wCallG, wRaise, wFrz, fFrz, rets, fI, fI0, fAdd, fSub, fMul, fLt, fLe, fGt, fGe, fMod, fModN, fPow, fDiv, fDivG, fNeg, fEq, fNe, eqF_int, eqF_bl, eqF_str, scal_int, scal_bl, scal_str, fLen, sv, fIx, fAbs, fInt, fList, wSl, fSlL, oNo, oSo, lvr, lv, fCat, wMeL, fApp, fPop, fSetL, gSb, gTp, gCn, gNl, wPar, wBrk, wCnt, fIsi, wIsx, wYes, wip, wTr, truD, wTry, clrD, wFld, fieldsD, wSetF, wMeth, wMake, wIsX, wXf, wTryX, wRaiseL, wRaiseV, fCatM, fEqL, fStrI, fFmt, wJoin, wJs, wChain, wLR, wProp, fRepT, wDIn, wDNewT, fSetD, gLs, fIns, fPopAt, fClear, fTuple, fMin2, fMaxL, fAny, wRev, fRev, wDNew, wDNewF, wDsp1, wDsp1F, fAddS, fIsN, fNotN, um_same, um_um, st0, List.map_cons, List.map_nil, List.length_cons, List.length_nil, List.getElem?_cons_zero, List.getElem?_cons_succ, List.set_cons_zero, List.set_cons_succ, List.cons_append, List.nil_append, List.replicate, atI_c0, atI_c1, atI_c2, atI_c3, atI_c4, atI_c5, atI_c6, ixN_70, ixN_71, ixN_72, ixN_73, ixN_74, ixN_75, ixN_76, Nat.reduceAdd, Int.reduceToNat, Int.reducePow, ite_T, ite_F, if_dec, if_ndec, if_nb, true_and, if_true, Bool.false_eq_true, if_false])
local macro_rules | `(tactic| walk_at "u") => `(tactic| simp only [wSeq, wAugD, wAugN, fSetI, fLenS, fInS, fSort, fSortD, fSortSetI, fSortSetP, fRem, wNext, wIf, wRet, wRetN, wDrop, wAsg, gN, wVar, wC, wOp, wUn, wNil, wCons, wCB, wTup, wLst, wLstF, wTe, tB0, wAnd, wOr, wNot, wAndV, wOrV, wNotV, wIfE, wCall, wCallG, wRaise, rets, fI, fI0, fAdd, fSub, fMul, fLt, fLe, fGt, fGe, fMod, fModN, fPow, fDiv, fDivG, fNeg, fEq, fNe, eqF_int, eqF_bl, eqF_str, scal_int, scal_bl, scal_str, fLen, sv, fIx, fAbs, fInt, fList, wSl, fSlL, oNo, oSo, lvr, lv, fCat, wMeL, fApp, fPop, fSetL, gSb, gTp, gCn, gNl, wPar, wBrk, wCnt, fIsi, wIsx, wYes, wip, wTr, truD, wTry, clrD, wFld, fieldsD, wSetF, wMeth, wMake, wIsX, wXf, wTryX, wRaiseL, wRaiseV, fCatM, fEqL, fStrI, fFmt, wJoin, wJs, wChain, wLR, wProp, fRepT, wDIn, wDNewT, fSetD, gLs, fIns, fPopAt, fClear, fTuple, fMin2, fMaxL, fAny, wRev, fRev, wDNew, wDNewF, wDsp1, wDsp1F, fAddS, fIsN, fNotN, um_same, um_um, st0, List.map_cons, List.map_nil, List.length_cons, List.length_nil, List.getElem?_cons_zero, List.getElem?_cons_succ, List.set_cons_zero, List.set_cons_succ, List.cons_append, List.nil_append, List.replicate, atI_c0, atI_c1, atI_c2, atI_c3, atI_c4, atI_c5, atI_c6, ixN_70, ixN_71, ixN_72, ixN_73, ixN_74, ixN_75, ixN_76, Nat.reduceAdd, Int.reduceToNat, Int.reducePow, ite_T, ite_F, if_dec, if_ndec, if_nb, true_and, if_true, Bool.false_eq_true, if_false])
/-! ### whose hiders: a table -/
def dirL (ps : List I2) (t : Int) : List Int := (ps.filter fun p => decide (p.2 = t)).map (·.1)
theorem dirL_take {ps : List I2} {i : Nat} {p : I2} (h : ps[i]? = some p) (t : Int) : dirL (ps.take (i + 1)) t = dirL (ps.take i) t ++ (if t = p.2 then [p.1] else []) := by
  unfold dirL
  rw [List.take_succ, h, Option.toList_some, List.filter_append, List.map_append]
  congr 1
  by_cases c : t = p.2
  · rw [if_pos c]; simp [c]
  · rw [if_neg c]
    have : ¬ p.2 = t := fun e => c e.symm
    simp [this]
theorem dirL_len (ps : List I2) (t : Int) : (dirL ps t).length ≤ ps.length := by
  unfold dirL
  rw [List.length_map]
  exact List.length_filter_le _ _
theorem mem_dirL {ps : List I2} {t x : Int} : x ∈ dirL ps t ↔ (x, t) ∈ ps := by
  unfold dirL
  rw [List.mem_map]
  constructor
  · rintro ⟨p, hp, rfl⟩
    rw [List.mem_filter, decide_eq_true_eq] at hp
    obtain ⟨a, b⟩ := p
    obtain ⟨h1, h2⟩ := hp
    have h2 : b = t := h2
    rw [← h2]; exact h1
  · intro h
    exact ⟨(x, t), List.mem_filter.mpr ⟨h, decide_eq_true rfl⟩, rfl⟩
def gthD (ts : List Int) (ps : List I2) : D := .dK (ts.map Sum.inl) (ts.map fun t => .lst ((dirL ps t).map D.int))
theorem map_set {α : Type} {f g : Int → α} {l : List Int} {j : Nat} {t : Int} (nd : l.Nodup) (h : l[j]? = some t) (e : ∀ x, x ≠ t → g x = f x) : (l.map f).set j (g t) = l.map g := by
  refine List.ext_getElem? fun i => ?_
  rw [List.getElem?_set, List.getElem?_map, List.getElem?_map]
  by_cases c : j = i
  · subst c
    rw [if_pos rfl, h]
    have := (List.getElem?_eq_some_iff.mp h).1
    rw [List.length_map, if_pos this]
    rfl
  · rw [if_neg c]
    cases q : l[i]? with
    | none => rfl
    | some x =>
      show some (f x) = some (g x)
      rw [e x fun z => c ?_]
      subst z
      exact (List.getElem?_inj (List.getElem?_eq_some_iff.mp h).1 nd).mp (h.trans q.symm)
theorem put_zip {as : List D} {t : Int} {v : D} : ∀ {L : List Int}, t ∉ L → putKD ((L.map fun x => (Sum.inl x : Key)).zip as) (Sum.inl t) v = (L.map fun x => (Sum.inl x : Key)).zip as ++ [(Sum.inl t, v)] := by
  intro L h
  unfold putKD
  rw [if_neg]
  intro c
  rw [List.any_eq_true] at c
  obtain ⟨z, hz, e⟩ := c
  have := (List.of_mem_zip (a := z.1) (b := z.2) hz).1
  obtain ⟨x, hx, e2⟩ := List.mem_map.mp this
  rw [decide_eq_true_eq, ← e2] at e
  injection e with e
  exact h (by rw [← e]; exact hx)
theorem not_take {l : List Int} {i : Nat} {t : Int} (nd : l.Nodup) (h : l[i]? = some t) : t ∉ l.take i := by
  intro m
  obtain ⟨j, hj, e⟩ := List.getElem_of_mem m
  rw [List.length_take] at hj
  have e1 : l[j]? = some t := by
    rw [List.getElem_take] at e
    rw [List.getElem?_eq_getElem (by omega), e]
  have hi := (List.getElem?_eq_some_iff.mp h).1
  have := (List.getElem?_inj (by omega) nd).mp (e1.trans h.symm)
  omega
def c_gathered (A : Ad) : Ct := fun ds μ Q _ => match ds with
  | [.lst T, .lst Z] => ∃ (ts : List Int) (ps : List I2), T = ts.map D.int ∧ Z = ps.map pD ∧ ts.Nodup ∧ ts.length ≤ 1000 ∧ ps.length ≤ 5000 ∧ (∀ p ∈ ps, p.2 ∈ ts) ∧ Q (gthD ts ps) μ
  | _ => False
abbrev s_gathered : Stmt := top 11
theorem sc_gathered : FnScope ["tags", "pairs", "table", "tag", "first", "second"] ["tags", "pairs"] (defScope s_gathered) := ⟨rfl, rfl, rfl, by decide +kernel, rfl, by decide +kernel, by decide +kernel⟩
def w_gathered_b1 (A : Ad) (E : EX) : WS := (wDrop (wMeL fApp (wOp fDGet (wVar 2) (wVar 5)) (wCons (wVar 4) wNil)))
def w_gathered (A : Ad) (E : EX) : WS := (wSeq (wAsg (wDc (iLs (wVar 0)) 3 [3] wYes (wVar 3) (wLst wNil)) (gN 2))
  (wSeq (wFor (iLs (wVar 1)) (gTp 2 (gCn (gN 4) (gCn (gN 5) gNl))) (w_gathered_b1 A E))
  (wRet (wUn fFrzD (wVar 2)))))
theorem pure_gathered (A : Ad) (ds μ Q E0) (h : c_gathered A ds μ Q E0) : w_gathered A (fun C fs _ μ => dwx E0 C fs μ) (rets Q) (st0 6 ds) μ := by
  unfold c_gathered at h
  split at h
  · rename_i T Z
    obtain ⟨ts, ps, rfl, rfl, nd, hl, hz, hg, h⟩ := h
    unfold w_gathered
    walk_at "v"
    refine dc_lst rfl fun q hq => ?_
    refine ⟨fun i μ' => ∃ cs : List Addr, cs.length = i ∧ (q :: cs).Nodup ∧ (∀ c ∈ cs, μ c = none) ∧ μ' = um (umz μ cs (List.replicate i [])) q (.dK (((ts.take i).map fun x => (Sum.inl x : Key)).zip (cs.map D.mut))), ⟨[], rfl, by simp, (fun c z => nomatch z), by rw [List.take_zero]; unfold umz; rfl⟩, ?_, ?_⟩
    · rintro i d μ' hd ⟨cs, hcl, hnd, hfr, rfl⟩
      obtain ⟨t, ht, rfl⟩ := map_at hd
      have hi := (List.getElem?_eq_some_iff.mp ht).1
      walk_at "w"
      refine ⟨by decide, fun c hc => ?_⟩
      have cq : c ≠ q := fun e => by rw [e, um_same] at hc; cases hc
      have hnd2 := List.nodup_cons.mp hnd
      rw [um_ne cq] at hc
      have ccs : c ∉ cs := fun z => by
        obtain ⟨k, hk, e⟩ := List.getElem_of_mem z
        have := umz_get (μ := μ) (ls := List.replicate i []) (l := []) hnd2.2 (List.getElem?_eq_getElem hk) (by rw [List.getElem?_replicate, if_pos (by omega)])
        rw [e, hc] at this
        cases this
      rw [umz_not ccs] at hc
      refine ⟨_, Sum.inl t, by rw [um_ne (Ne.symm cq), um_same], rfl, ?_, cs ++ [c], by simp [hcl], ?_, ?_, ?_⟩
      · rw [List.length_zip, List.length_map, List.length_take]
        omega
      · refine List.nodup_cons.mpr ⟨fun z => ?_, ?_⟩
        · rcases List.mem_append.mp z with z | z
          · exact hnd2.1 z
          · exact cq (List.mem_singleton.mp z).symm
        · refine List.nodup_append.mpr ⟨hnd2.2, by simp, fun x hx y hy => ?_⟩
          rw [List.mem_singleton.mp hy]
          exact fun e => ccs (by rw [← e]; exact hx)
      · intro x hx
        rcases List.mem_append.mp hx with z | z
        · exact hfr x z
        · rw [List.mem_singleton.mp z]; exact hc
      · rw [um_comm (Ne.symm cq), um_um, put_zip (not_take nd ht), show ([] :: List.replicate i [] : List (List D)) = List.replicate i [] ++ [[]] by rw [← List.replicate_succ, List.replicate_succ'], umz_app (by simp [hcl]) ccs]
        congr 2
        rw [List.take_succ, ht, Option.toList_some, List.map_append, List.map_append, List.zip_append (by rw [List.length_map, List.length_map, List.length_take]; omega)]
        rfl
    · rintro μ' ⟨cs, hcl, hnd, hfr, rfl⟩
      rw [List.length_map] at hcl
      rw [List.length_map, List.take_length]
      have hnd2 := List.nodup_cons.mp hnd
      try walk_at "v"
      generalize hK : ((ts.map fun x => (Sum.inl x : Key)).zip (cs.map D.mut)) = kvs
      refine for_lv2 (d := .lst (ps.map pD)) (l := ps.map pD) rfl rfl (fun i ρ' μ' => μ' = um (umz μ cs (ts.map fun t => (dirL (ps.take i) t).map D.int)) q (.dK kvs) ∧ ∃ r4 r5, ρ' = [some (.lst (ts.map D.int)), some (.lst (ps.map pD)), some (.mut q), none, r4, r5]) ⟨?_, _, _, rfl⟩ (fun _ _ _ _ => rfl) ?_ ?_
      · congr 2
        rw [List.take_zero]
        refine List.ext_getElem? fun i => ?_
        rw [List.getElem?_replicate, List.getElem?_map]
        by_cases c : i < ts.length
        · rw [if_pos c, List.getElem?_eq_getElem c]; rfl
        · rw [if_neg c, List.getElem?_eq_none (by omega)]; rfl
      · rintro i e ρ' μ' he ⟨rfl, r4, r5, rfl⟩
        obtain ⟨p, hp, rfl⟩ := map_at he
        obtain ⟨j, hj, ej⟩ := List.getElem_of_mem (hg p (List.mem_of_getElem? hp))
        have tj : ts[j]? = some p.2 := by rw [List.getElem?_eq_getElem hj, ej]
        obtain ⟨c, cj⟩ : ∃ c, cs[j]? = some c := ⟨_, List.getElem?_eq_getElem (by omega)⟩
        have cq : c ≠ q := fun e => hnd2.1 (by rw [← e]; exact List.mem_of_getElem? cj)
        unfold w_gathered_b1 pD
        walk_at "w"
        have hc : (um (umz μ cs (ts.map fun t => (dirL (ps.take i) t).map D.int)) q (.dK kvs)) c = some (.lst ((dirL (ps.take i) p.2).map D.int)) := by
          rw [um_ne cq]
          exact umz_get hnd2.2 cj (by rw [List.getElem?_map, tj]; rfl)
        have hcs : cs.length = (ts.map fun t => (dirL (ps.take i) t).map D.int).length := by rw [List.length_map, hcl]
        refine ⟨.mut c, ?_, ⟨c, _, rfl, hc⟩, ?_⟩
        · unfold dget
          dsimp only
          rw [um_same]
          show some (getD' kvs (Sum.inl p.2)) = _
          rw [← hK, get_zip nd tj cj]
        · dsimp only
          rw [hc]
          refine ⟨?_, wk.of ⟨?_, _, _, rfl⟩⟩
          · rw [List.length_map]
            have := dirL_len (ps.take i) p.2
            rw [List.length_take] at this
            omega
          · rw [um_comm (Ne.symm cq), umz_set hnd2.2 hcs cj]
            congr 2
            have := map_set (f := fun t => (dirL (ps.take i) t).map D.int) (g := fun t => (dirL (ps.take (i + 1)) t).map D.int) nd tj fun x hx => by
              show (dirL (ps.take (i + 1)) x).map D.int = _
              rw [dirL_take hp, if_neg hx, List.append_nil]
            rw [← this]
            congr 1
            show _ = (dirL (ps.take (i + 1)) p.2).map D.int
            rw [dirL_take hp, if_pos rfl, List.map_append]
            rfl
      · rintro ρ' μ' ⟨rfl, r4, r5, rfl⟩
        rw [List.length_map, List.take_length]
        walk_at "w"
        unfold fFrzD
        dsimp only
        rw [um_same]
        dsimp only
        rw [rm_um (by rw [umz_not hnd2.1]; exact hq), ← hK]
        refine frz_umz (done := []) hnd2.2 hfr (by rw [List.length_map, hcl]) (by rw [List.length_map, hcl]) ?_
        rw [List.nil_append, List.map_fst_zip (by simp), List.map_snd_zip (by simp), List.map_map]
        exact dwn.of h
  · exact h.elim
theorem len_gathered (A : Ad) : ∀ ds μ Q E, c_gathered A ds μ Q E → ds.length = 2 := by
  intro ds μ Q E h
  unfold c_gathered at h
  first | (split at h) | (split at h)
  all_goals first | rfl | exact h.elim
theorem ok_gathered {P : Program} {w : World} {K : PySem.W.Frag} {mg : Str → Option Value} {base : Heap} {A : Ad} (D : Dfn K mg "gathered" "gathered" s_gathered ["tags", "pairs"]) (T : Tx P w base K mg A)  : DfOk P w K mg base "gathered" 1 ["tags", "pairs"] (c_gathered A) := by
  obtain ⟨f, fd, F, hm, hb⟩ := D
  refine ⟨f, fd, okD F sc_gathered (by decide) (len_gathered A) ?_, hm, F.kp, hb⟩
  intro X W E cdv B outer s H Ex hX tk hp hr
  subst hX
  exact ⟨_, w_gathered A E, (scons (ssetdc sc_gathered.nd 2 [("tag", 3)] 3 (il (ev 0)) (fun _ _ _ _ _ => gnmP 3 sc_gathered.nd) (fun _ _ _ _ _ => ⟨_, tsnil⟩) (fun _ _ _ _ _ => ⟨_, (ev 3)⟩) (fun _ _ _ _ _ => ⟨_, (elst anil)⟩))
  (scons (sfor hp (il (ev 1)) (gtp (n := 2) (gcn (gnm 4 sc_gathered.nd) (gcn (gnm 5 sc_gathered.nd) gnl))) (sone (sexpr (eapp (edget (Room.units1 hr) (ev 2) (ev 5)) (acons (ev 4) anil)))))
  (sone (sret (efrzD (ev 2)))))), fun ds μ Q E0 hc hE => by subst hE; exact pure_gathered A ds μ Q E0 hc⟩
end K14
set_option maxHeartbeats 800000
namespace K14
open PySem L2 DL
local macro_rules | `(tactic| walk_at "w") => `(tactic| simp only [wSeq, wAugD, wAugN, fSetI, fLenS, fInS, fSort, fSortD, fSortSetI, fSortSetP, fRem, wNext, wIf, wRet, wRetN, wDrop, wAsg, gN, wVar, wC, wOp, wUn, wNil, wCons, wCB, wTup, wLst, wLstF, wTe, tB0, wAnd, wOr, wNot, wAndV, wOrV, wNotV, wIfE, wCall, wCallG, wRaise, wFrz, fFrz, rets, fI, fI0, fAdd, fSub, fMul, fLt, fLe, fGt, fGe, fMod, fModN, fPow, fDiv, fDivG, fNeg, fEq, fNe, eqF_int, eqF_bl, eqF_str, scal_int, scal_bl, scal_str, fLen, sv, fIx, fAbs, fInt, fList, wSl, fSlL, oNo, oSo, lvr, lv, fCat, wMeL, fApp, fPop, fSetL, gSb, iLs, iTp, iR1, iR2, wFor, gTp, gCn, gNl, wPar, wBrk, wCnt, fIsi, wIsx, wLc, wYes, wip, wTr, truD, wTry, clrD, wFld, fieldsD, wSetF, wMeth, wMake, wIsX, wXf, wTryX, wRaiseL, wRaiseV, fCatM, fEqL, fStrI, fFmt, wJoin, wJs, wChain, wLc2, wLR, wProp, fRepT, wDIn, wDNewT, fSetD, iR3, gLs, fIns, fPopAt, fClear, fTuple, fMin2, fMaxL, fAny, iEn, wRev, fRev, wDNew, wDNewF, wDsp1, wDsp1F, fAddS, fIsN, fNotN, um_same, um_um, st0, List.map_cons, List.map_nil, List.length_cons, List.length_nil, List.getElem?_cons_zero, List.getElem?_cons_succ, List.set_cons_zero, List.set_cons_succ, List.cons_append, List.nil_append, List.replicate, atI_c0, atI_c1, atI_c2, atI_c3, atI_c4, atI_c5, atI_c6, ixN_70, ixN_71, ixN_72, ixN_73, ixN_74, ixN_75, ixN_76, Nat.reduceAdd, Int.reduceToNat, Int.reducePow, ite_T, ite_F, if_dec, if_ndec, if_nb, true_and, if_true, Bool.false_eq_true, if_false])
local macro_rules | `(tactic| walk_at "v") => `(tactic| simp only [wSeq, wAugD, wAugN, fSetI, fLenS, fInS, fSort, fSortD, fSortSetI, fSortSetP, fRem, wNext, wIf, wRet, wRetN, wDrop, wAsg, gN, wVar, wC, wOp, wUn, wNil, wCons, wCB, wTup, wLst, wLstF, wTe, tB0, wAnd, wOr, wNot, wAndV, wOrV, wNotV, wIfE, wCall, wCallG, wRaise, wFrz, fFrz, rets, fI, fI0, fAdd, fSub, fMul, fLt, fLe, fGt, fGe, fMod, fModN, fPow, fDiv, fDivG, fNeg, fEq, fNe, eqF_int, eqF_bl, eqF_str, scal_int, scal_bl, scal_str, fLen, sv, fIx, fAbs, fInt, fList, wSl, fSlL, oNo, oSo, lvr, lv, fCat, wMeL, fApp, fPop, fSetL, gSb, gTp, gCn, gNl, wPar, wBrk, wCnt, fIsi, wIsx, wYes, wip, wTr, truD, wTry, clrD, wFld, fieldsD, wSetF, wMeth, wMake, wIsX, wXf, wTryX, wRaiseL, wRaiseV, fCatM, fEqL, fStrI, fFmt, wJoin, wJs, wChain, wLR, wProp, fRepT, wDIn, wDNewT, fSetD, gLs, fIns, fPopAt, fClear, fTuple, fMin2, fMaxL, fAny, wRev, fRev, wDNew, wDNewF, wDsp1, wDsp1F, fAddS, fIsN, fNotN, um_same, um_um, st0, List.map_cons, List.map_nil, List.length_cons, List.length_nil, List.getElem?_cons_zero, List.getElem?_cons_succ, List.set_cons_zero, List.set_cons_succ, List.cons_append, List.nil_append, List.replicate, atI_c0, atI_c1, atI_c2, atI_c3, atI_c4, atI_c5, atI_c6, ixN_70, ixN_71, ixN_72, ixN_73, ixN_74, ixN_75, ixN_76, Nat.reduceAdd, Int.reduceToNat, Int.reducePow, ite_T, ite_F, if_dec, if_ndec, if_nb, true_and, if_true, Bool.false_eq_true, if_false])
local macro_rules | `(tactic| walk_at "u") => `(tactic| simp only [wSeq, wAugD, wAugN, fSetI, fLenS, fInS, fSort, fSortD, fSortSetI, fSortSetP, fRem, wNext, wIf, wRet, wRetN, wDrop, wAsg, gN, wVar, wC, wOp, wUn, wNil, wCons, wCB, wTup, wLst, wLstF, wTe, tB0, wAnd, wOr, wNot, wAndV, wOrV, wNotV, wIfE, wCall, wCallG, wRaise, rets, fI, fI0, fAdd, fSub, fMul, fLt, fLe, fGt, fGe, fMod, fModN, fPow, fDiv, fDivG, fNeg, fEq, fNe, eqF_int, eqF_bl, eqF_str, scal_int, scal_bl, scal_str, fLen, sv, fIx, fAbs, fInt, fList, wSl, fSlL, oNo, oSo, lvr, lv, fCat, wMeL, fApp, fPop, fSetL, gSb, gTp, gCn, gNl, wPar, wBrk, wCnt, fIsi, wIsx, wYes, wip, wTr, truD, wTry, clrD, wFld, fieldsD, wSetF, wMeth, wMake, wIsX, wXf, wTryX, wRaiseL, wRaiseV, fCatM, fEqL, fStrI, fFmt, wJoin, wJs, wChain, wLR, wProp, fRepT, wDIn, wDNewT, fSetD, gLs, fIns, fPopAt, fClear, fTuple, fMin2, fMaxL, fAny, wRev, fRev, wDNew, wDNewF, wDsp1, wDsp1F, fAddS, fIsN, fNotN, um_same, um_um, st0, List.map_cons, List.map_nil, List.length_cons, List.length_nil, List.getElem?_cons_zero, List.getElem?_cons_succ, List.set_cons_zero, List.set_cons_succ, List.cons_append, List.nil_append, List.replicate, atI_c0, atI_c1, atI_c2, atI_c3, atI_c4, atI_c5, atI_c6, ixN_70, ixN_71, ixN_72, ixN_73, ixN_74, ixN_75, ixN_76, Nat.reduceAdd, Int.reduceToNat, Int.reducePow, ite_T, ite_F, if_dec, if_ndec, if_nb, true_and, if_true, Bool.false_eq_true, if_false])
/-! ### what is reached by one step or more -/
inductive Rp (nb : Int → List Int) : Int → Int → Prop
  | one {x y : Int} : y ∈ nb x → Rp nb x y
  | more {x y z : Int} : Rp nb x y → z ∈ nb y → Rp nb x z
theorem Rp.mem {nb : Int → List Int} {ts : List Int} (h : ∀ x ∈ ts, ∀ y ∈ nb x, y ∈ ts) {x y : Int} (r : Rp nb x y) (hx : x ∈ ts) : y ∈ ts := by
  induction r with
  | one m => exact h _ hx _ m
  | more _ m ih => exact h _ ih _ m
/-- a set that holds all steps from t and from itself holds all that is reached -/
theorem Rp.closed {nb : Int → List Int} {t : Int} {fs : List Int} (h : ∀ y, y = t ∨ y ∈ fs → ∀ z ∈ nb y, z ∈ fs) {x : Int} (r : Rp nb t x) : x ∈ fs := by
  induction r with
  | one m => exact h _ (.inl rfl) _ m
  | more _ m ih => exact h _ (.inr ih) _ m
def tabD (ts : List Int) (nb : Int → List Int) : D := .dK (ts.map Sum.inl) (ts.map fun x => .lst ((nb x).map D.int))
theorem tabD_get {μ : Mu} {ts : List Int} {nb : Int → List Int} {t : Int} (nd : ts.Nodup) (h : t ∈ ts) : dget μ (tabD ts nb) (.int t) = some (some (.lst ((nb t).map D.int))) := by
  obtain ⟨i, hi, e⟩ := List.getElem_of_mem h
  have e : ts[i]? = some t := by rw [List.getElem?_eq_getElem hi, e]
  show some (getD' ((ts.map Sum.inl).zip (ts.map fun x => D.lst ((nb x).map D.int))) (Sum.inl t)) = _
  rw [get_zip (f := fun x => D.lst ((nb x).map D.int)) nd e e]
def c_reached (A : Ad) : Ct := fun ds μ Q _ => match ds with
  | [d, .int t] => ∃ (ts : List Int) (nb : Int → List Int), d = tabD ts nb ∧ ts.Nodup ∧ ts.length < 64 ∧ t ∈ ts ∧ (∀ x ∈ ts, ∀ y ∈ nb x, y ∈ ts) ∧ ∀ r : List Int, r.Pairwise (· < ·) → (∀ x, x ∈ r ↔ Rp nb t x) → Q (.lst (r.map D.int)) μ
  | _ => False
abbrev s_reached : Stmt := top 12
theorem sc_reached : FnScope ["table", "tag", "found", "waiting", "here", "step"] ["table", "tag"] (defScope s_reached) := ⟨rfl, rfl, rfl, by decide +kernel, rfl, by decide +kernel, by decide +kernel⟩
def w_reached_b1 (A : Ad) (E : EX) : WS := (wIf (wTe (wDIn true (wVar 5) (wVar 2))) (wSeq (wAsg (wC (.bl true)) (gSb fSetD (wVar 2) (wVar 5)))
  (wDrop (wMeL fApp (wVar 3) (wCons (wVar 5) wNil)))) wNext)
def w_reached_b2 (A : Ad) (E : EX) : WS := (wSeq (wAsg (wMeL fPop (wVar 3) wNil) (gN 4))
  (wFor (iLs (wOp fDGet (wVar 0) (wVar 4))) (gN 5) (w_reached_b1 A E)))
def w_reached (A : Ad) (E : EX) : WS := (wSeq (wAsg wDNew (gN 2))
  (wSeq (wAsg (wLst (wCons (wVar 1) wNil)) (gN 3))
  (wSeq (wWhile (wTr (wVar 3)) (w_reached_b2 A E))
  (wRet (wFrz (wCB fSortD (wCons (wVar 2) wNil)))))))
/-- the found ones, as a dict's items -/
def fdK (fs : List Int) : List (Key × D) := fs.map fun x => (Sum.inl x, .bl true)
structure Rst (ts : List Int) (nb : Int → List Int) (t : Int) (here : Option Int) (fs ws : List Int) : Prop where
  nd : fs.Nodup
  sub : ∀ x ∈ fs, x ∈ ts
  rch : ∀ x ∈ fs, Rp nb t x
  wai : ∀ y ∈ ws, y = t ∨ y ∈ fs
  clo : ∀ y, y = t ∨ y ∈ fs → y ∈ ws ∨ here = some y ∨ ∀ z ∈ nb y, z ∈ fs
  wl : ws.length ≤ fs.length + 1
theorem pure_reached (A : Ad) (ds μ Q E0) (h : c_reached A ds μ Q E0) : w_reached A (fun C fs _ μ => dwx E0 C fs μ) (rets Q) (st0 6 ds) μ := by
  unfold c_reached at h
  split at h
  · rename_i d t
    obtain ⟨ts, nb, rfl, nd, hl, ht, hnb, h⟩ := h
    unfold w_reached
    walk_at "v"
    intro f hf
    refine ⟨by decide, fun w hw => ?_⟩
    have hwf : w ≠ f := fun e => by rw [e, um_same] at hw; cases hw
    rw [um_ne hwf] at hw
    unfold wWhile
    refine ⟨fun m ρ μ' => ∃ (fs ws : List Int) (r4 r5 : Option D), μ' = um (um μ f (.dK (fdK fs))) w (.lst (ws.map D.int)) ∧ ρ = [some (tabD ts nb), some (.int t), some (.mut f), some (.mut w), r4, r5] ∧ Rst ts nb t none fs ws ∧ m = 2 * (ts.length - fs.length) + ws.length, ⟨_, [], [t], none, none, rfl, rfl, ⟨.nil, (fun x z => nomatch z), (fun x z => nomatch z), fun y hy => .inl (List.mem_singleton.mp hy), fun y hy => .inl ?_, Nat.le_refl _⟩, rfl⟩, ?_⟩
    · rcases hy with rfl | z
      · exact List.mem_singleton.mpr rfl
      · cases z
    rintro m ρ μ' ⟨fs, ws, r4, r5, rfl, rfl, R, rfl⟩
    rcases List.eq_nil_or_concat ws with rfl | ⟨ws, here, rfl⟩
    · walk_at "w"
      have clo := fun y hy => ((R.clo y hy).resolve_left fun z => nomatch z).resolve_left fun z => nomatch z
      refine ⟨_, fs, rfl, ?_, ?_, ?_⟩
      · show (match (um (um μ f (.dK (fdK fs))) w (.lst [])) f with | some (.dK kvs) => some (kvs.map Prod.fst) | _ => none) = _
        rw [um_ne (Ne.symm hwf), um_same]
        show some ((fdK fs).map Prod.fst) = _
        unfold fdK
        rw [List.map_map]
        rfl
      · have := nodup_le fs ts R.nd R.sub
        omega
      · intro p hp
        rw [rm_um hp]
        have e : srt fs = setI fs := setI_uniq (fun k => mem_srt) (by
          have hnd : (srt fs).Nodup := (srt_perm fs).nodup_iff.mpr R.nd
          exact List.Pairwise.imp (fun ⟨a, b⟩ => by omega) (List.Pairwise.and (srt_pw fs) hnd))
        refine ⟨μ, (le.um hf).trans (le.um (by rw [um_ne hwf]; exact hw)), h (srt fs) (by rw [e]; exact setI_pw fs) fun x => ⟨fun hx => R.rch x (mem_srt.mp hx), fun r => mem_srt.mpr (r.closed clo)⟩⟩
    · have e1 : (ws.concat here).map D.int = ws.map D.int ++ [.int here] := by rw [List.concat_eq_append, List.map_append]; rfl
      rw [e1]
      have hh : here = t ∨ here ∈ fs := R.wai here (by simp)
      have hts : here ∈ ts := hh.elim (fun e => by rw [e]; exact ht) (R.sub here)
      have htr : (List.map D.int ws ++ [D.int here]).isEmpty = false := by simp
      generalize hM : 2 * (ts.length - fs.length) + (ws.concat here).length = M
      unfold w_reached_b2
      simp only [wTr, wVar, List.getElem?_cons_zero, List.getElem?_cons_succ, truD, um_same, htr, Bool.not_false]
      rw [if_pos trivial]
      walk_at "v"
      refine ⟨⟨w, _, rfl, um_same⟩, ?_⟩
      rw [List.getLast?_concat, List.dropLast_concat]
      dsimp only
      walk_at "w"
      refine ⟨_, tabD_get nd hts, ?_⟩
      dsimp only
      refine ⟨fun j ρ μ' => ∃ (fs ws : List Int) (r5 : Option D), μ' = um (um μ f (.dK (fdK fs))) w (.lst (ws.map D.int)) ∧ ρ = [some (tabD ts nb), some (.int t), some (.mut f), some (.mut w), some (.int here), r5] ∧ Rst ts nb t (some here) fs ws ∧ (here = t ∨ here ∈ fs) ∧ (∀ z ∈ (nb here).take j, z ∈ fs) ∧ 2 * (ts.length - fs.length) + ws.length < M, ⟨fs, ws, _, rfl, rfl, ⟨R.nd, R.sub, R.rch, fun y hy => R.wai y (by simp [hy]), fun y hy => ?_, by have := R.wl; simp at this; omega⟩, hh, fun z hz => by simp at hz, ?_⟩, fun _ _ _ _ => trivial, ?_, ?_⟩
      · rcases R.clo y hy with z | z | z
        · rcases List.mem_append.mp (by rw [← List.concat_eq_append]; exact z) with z | z
          · exact .inl z
          · exact .inr (.inl (by rw [List.mem_singleton.mp z]))
        · cases z
        · exact .inr (.inr z)
      · rw [← hM]; simp
      · rintro j d ρ μ' hd ⟨fs', ws', r5', rfl, rfl, R', hh', hdone, hm⟩
        rw [fixi] at hd
        obtain ⟨s, hs, rfl⟩ := map_at hd
        have hsn := List.mem_of_getElem? hs
        have hst : s ∈ ts := hnb here hts s hsn
        have tk : ∀ z, z ∈ (nb here).take (j + 1) ↔ z ∈ (nb here).take j ∨ z = s := fun z => by
          rw [List.take_succ, hs, Option.toList_some, List.mem_append, List.mem_singleton]
        unfold w_reached_b1
        walk_at "w"
        have hg : dget (um (um μ f (.dK (fdK fs'))) w (.lst (ws'.map D.int))) (.mut f) (.int s) = some (if s ∈ fs' then some (.bl true) else none) := by
          unfold dget
          dsimp only
          rw [um_ne (Ne.symm hwf), um_same]
          show some (getD' (fdK fs') (Sum.inl s)) = _
          unfold fdK
          rw [get_map (h := fun _ => .bl true)]
        refine ⟨_, hg, ?_⟩
        by_cases c : s ∈ fs'
        · simp only [c, if_true, Option.isSome_some, Bool.not_true]
          exact wk.of ⟨fs', ws', _, rfl, rfl, R', hh', fun z hz => ((tk z).mp hz).elim (hdone z) fun e => by rw [e]; exact c, hm⟩
        · simp only [c, if_false, Option.isSome_none, Bool.not_false, if_true]
          rw [um_ne (Ne.symm hwf), um_same]
          dsimp only
          have lt : fs'.length < ts.length := by
            have := nodup_le (s :: fs') ts (List.nodup_cons.mpr ⟨c, R'.nd⟩) fun x hx => (List.mem_cons.mp hx).elim (fun e => by rw [e]; exact hst) (R'.sub x)
            exact this
          refine ⟨by unfold fdK; rw [List.length_map]; omega, Sum.inl s, rfl, ⟨w, _, rfl, by rw [um_ne hwf, um_same]⟩, ?_⟩
          rw [um_comm (Ne.symm hwf), um_um, um_comm hwf]
          simp only [um_ne hwf, um_same]
          have wl := R'.wl
          refine ⟨by rw [List.length_map]; omega, wk.of ⟨fs' ++ [s], ws' ++ [s], _, ?_, rfl, ⟨?_, ?_, ?_, ?_, ?_, by rw [List.length_append, List.length_append, List.length_singleton]; omega⟩, hh'.imp id fun z => List.mem_append_left _ z, ?_, ?_⟩⟩
          · rw [um_um]
            unfold fdK
            rw [put_new (h := fun _ => D.bl true) c, List.map_append, List.map_append]
            rfl
          · exact List.nodup_append.mpr ⟨R'.nd, by simp, fun x hx y hy e => c (by rw [← List.mem_singleton.mp hy, ← e]; exact hx)⟩
          · intro x hx
            rcases List.mem_append.mp hx with z | z
            · exact R'.sub x z
            · rw [List.mem_singleton.mp z]; exact hst
          · intro x hx
            rcases List.mem_append.mp hx with z | z
            · exact R'.rch x z
            · rw [List.mem_singleton.mp z]
              rcases hh' with e | e
              · rw [e] at hsn; exact .one hsn
              · exact .more (R'.rch here e) hsn
          · intro y hy
            rcases List.mem_append.mp hy with z | z
            · exact (R'.wai y z).imp id fun z => List.mem_append_left _ z
            · exact .inr (List.mem_append_right _ z)
          · intro y hy
            have old : y = t ∨ y ∈ fs' → y ∈ ws' ++ [s] ∨ some here = some y ∨ ∀ z ∈ nb y, z ∈ fs' ++ [s] := fun hy => by
              rcases R'.clo y hy with z | z | z
              · exact .inl (List.mem_append_left _ z)
              · exact .inr (.inl z)
              · exact .inr (.inr fun x hx => List.mem_append_left _ (z x hx))
            rcases hy with e | e
            · exact old (.inl e)
            · rcases List.mem_append.mp e with z | z
              · exact old (.inr z)
              · exact .inl (List.mem_append_right _ z)
          · intro z hz
            rcases (tk z).mp hz with u | u
            · exact List.mem_append_left _ (hdone z u)
            · exact List.mem_append_right _ (List.mem_singleton.mpr u)
          · rw [List.length_append, List.length_append, List.length_singleton]
            omega
      · rintro ρ μ' ⟨fs', ws', r5', rfl, rfl, R', hh', hdone, hm⟩
        rw [fixi, List.length_map, List.take_length] at hdone
        refine wk.of ⟨_, hm, fs', ws', _, _, rfl, rfl, ⟨R'.nd, R'.sub, R'.rch, R'.wai, fun y hy => ?_, R'.wl⟩, rfl⟩
        rcases R'.clo y hy with z | z | z
        · exact .inl z
        · cases z
          exact .inr (.inr hdone)
        · exact .inr (.inr z)
  · exact h.elim
theorem len_reached (A : Ad) : ∀ ds μ Q E, c_reached A ds μ Q E → ds.length = 2 := by
  intro ds μ Q E h
  unfold c_reached at h
  first | (split at h) | (split at h)
  all_goals first | rfl | exact h.elim
theorem ok_reached {P : Program} {w : World} {K : PySem.W.Frag} {mg : Str → Option Value} {base : Heap} {A : Ad} (D : Dfn K mg "reached" "reached" s_reached ["table", "tag"]) (T : Tx P w base K mg A)  : DfOk P w K mg base "reached" 1 ["table", "tag"] (c_reached A) := by
  obtain ⟨f, fd, F, hm, hb⟩ := D
  refine ⟨f, fd, okD F sc_reached (by decide) (len_reached A) ?_, hm, F.kp, hb⟩
  intro X W E cdv B outer s H Ex hX tk hp hr
  subst hX
  exact ⟨_, w_reached A E, (scons (sset (i := 2) ednew sc_reached.nd)
  (scons (sset (i := 3) (elst (acons (ev 1) anil)) sc_reached.nd)
  (scons (swhile hp (ttru (ev 3)) (scons (sset (i := 4) (epop (ev 3)) sc_reached.nd)
  (sone (sfor hp (il (edget (Room.units1 hr) (ev 0) (ev 4))) (gnm 5 sc_reached.nd) (sone (sif (tdnin (Room.units1 hr) (ev 5) (ev 2)) (scons (sasg eb (gsd (Room.units1 hr) (ev 2) (ev 5)))
  (sone (sexpr (eapp (ev 3) (acons (ev 5) anil))))) snil))))))
  (sone (sret (efrz (ecb (call_sortedDI rfl) dc_sortD T.b_sorted (acons (ev 2) anil)))))))), fun ds μ Q E0 hc hE => by subst hE; exact pure_reached A ds μ Q E0 hc⟩
end K14
set_option maxHeartbeats 800000
namespace K14
open PySem L2 DL
local macro_rules | `(tactic| walk_at "w") => `(tactic| simp only [wSeq, wAugD, wAugN, fSetI, fLenS, fInS, fSort, fSortD, fSortSetI, fSortSetP, fRem, wNext, wIf, wRet, wRetN, wDrop, wAsg, gN, wVar, wC, wOp, wUn, wNil, wCons, wCB, wTup, wLst, wLstF, wTe, tB0, wAnd, wOr, wNot, wAndV, wOrV, wNotV, wIfE, wCall, wCallG, wRaise, wFrz, fFrz, rets, fI, fI0, fAdd, fSub, fMul, fLt, fLe, fGt, fGe, fMod, fModN, fPow, fDiv, fDivG, fNeg, fEq, fNe, eqF_int, eqF_bl, eqF_str, scal_int, scal_bl, scal_str, fLen, sv, fIx, fAbs, fInt, fList, wSl, fSlL, oNo, oSo, lvr, lv, fCat, wMeL, fApp, fPop, fSetL, gSb, iLs, iTp, iR1, iR2, wFor, gTp, gCn, gNl, wPar, wBrk, wCnt, fIsi, wIsx, wLc, wYes, wip, wTr, truD, wTry, clrD, wFld, fieldsD, wSetF, wMeth, wMake, wIsX, wXf, wTryX, wRaiseL, wRaiseV, fCatM, fEqL, fStrI, fFmt, wJoin, wJs, wChain, wLc2, wLR, wProp, fRepT, wDIn, wDNewT, fSetD, iR3, gLs, fIns, fPopAt, fClear, fTuple, fMin2, fMaxL, fAny, iEn, wRev, fRev, wDNew, wDNewF, wDsp1, wDsp1F, fAddS, fIsN, fNotN, um_same, um_um, st0, List.map_cons, List.map_nil, List.length_cons, List.length_nil, List.getElem?_cons_zero, List.getElem?_cons_succ, List.set_cons_zero, List.set_cons_succ, List.cons_append, List.nil_append, List.replicate, atI_c0, atI_c1, atI_c2, atI_c3, atI_c4, atI_c5, atI_c6, ixN_70, ixN_71, ixN_72, ixN_73, ixN_74, ixN_75, ixN_76, Nat.reduceAdd, Int.reduceToNat, Int.reducePow, ite_T, ite_F, if_dec, if_ndec, if_nb, true_and, if_true, Bool.false_eq_true, if_false])
local macro_rules | `(tactic| walk_at "v") => `(tactic| simp only [wSeq, wAugD, wAugN, fSetI, fLenS, fInS, fSort, fSortD, fSortSetI, fSortSetP, fRem, wNext, wIf, wRet, wRetN, wDrop, wAsg, gN, wVar, wC, wOp, wUn, wNil, wCons, wCB, wTup, wLst, wLstF, wTe, tB0, wAnd, wOr, wNot, wAndV, wOrV, wNotV, wIfE, wCall, wCallG, wRaise, wFrz, fFrz, rets, fI, fI0, fAdd, fSub, fMul, fLt, fLe, fGt, fGe, fMod, fModN, fPow, fDiv, fDivG, fNeg, fEq, fNe, eqF_int, eqF_bl, eqF_str, scal_int, scal_bl, scal_str, fLen, sv, fIx, fAbs, fInt, fList, wSl, fSlL, oNo, oSo, lvr, lv, fCat, wMeL, fApp, fPop, fSetL, gSb, gTp, gCn, gNl, wPar, wBrk, wCnt, fIsi, wIsx, wYes, wip, wTr, truD, wTry, clrD, wFld, fieldsD, wSetF, wMeth, wMake, wIsX, wXf, wTryX, wRaiseL, wRaiseV, fCatM, fEqL, fStrI, fFmt, wJoin, wJs, wChain, wLR, wProp, fRepT, wDIn, wDNewT, fSetD, gLs, fIns, fPopAt, fClear, fTuple, fMin2, fMaxL, fAny, wRev, fRev, wDNew, wDNewF, wDsp1, wDsp1F, fAddS, fIsN, fNotN, um_same, um_um, st0, List.map_cons, List.map_nil, List.length_cons, List.length_nil, List.getElem?_cons_zero, List.getElem?_cons_succ, List.set_cons_zero, List.set_cons_succ, List.cons_append, List.nil_append, List.replicate, atI_c0, atI_c1, atI_c2, atI_c3, atI_c4, atI_c5, atI_c6, ixN_70, ixN_71, ixN_72, ixN_73, ixN_74, ixN_75, ixN_76, Nat.reduceAdd, Int.reduceToNat, Int.reducePow, ite_T, ite_F, if_dec, if_ndec, if_nb, true_and, if_true, Bool.false_eq_true, if_false])
local macro_rules | `(tactic| walk_at "u") => `(tactic| simp only [wSeq, wAugD, wAugN, fSetI, fLenS, fInS, fSort, fSortD, fSortSetI, fSortSetP, fRem, wNext, wIf, wRet, wRetN, wDrop, wAsg, gN, wVar, wC, wOp, wUn, wNil, wCons, wCB, wTup, wLst, wLstF, wTe, tB0, wAnd, wOr, wNot, wAndV, wOrV, wNotV, wIfE, wCall, wCallG, wRaise, rets, fI, fI0, fAdd, fSub, fMul, fLt, fLe, fGt, fGe, fMod, fModN, fPow, fDiv, fDivG, fNeg, fEq, fNe, eqF_int, eqF_bl, eqF_str, scal_int, scal_bl, scal_str, fLen, sv, fIx, fAbs, fInt, fList, wSl, fSlL, oNo, oSo, lvr, lv, fCat, wMeL, fApp, fPop, fSetL, gSb, gTp, gCn, gNl, wPar, wBrk, wCnt, fIsi, wIsx, wYes, wip, wTr, truD, wTry, clrD, wFld, fieldsD, wSetF, wMeth, wMake, wIsX, wXf, wTryX, wRaiseL, wRaiseV, fCatM, fEqL, fStrI, fFmt, wJoin, wJs, wChain, wLR, wProp, fRepT, wDIn, wDNewT, fSetD, gLs, fIns, fPopAt, fClear, fTuple, fMin2, fMaxL, fAny, wRev, fRev, wDNew, wDNewF, wDsp1, wDsp1F, fAddS, fIsN, fNotN, um_same, um_um, st0, List.map_cons, List.map_nil, List.length_cons, List.length_nil, List.getElem?_cons_zero, List.getElem?_cons_succ, List.set_cons_zero, List.set_cons_succ, List.cons_append, List.nil_append, List.replicate, atI_c0, atI_c1, atI_c2, atI_c3, atI_c4, atI_c5, atI_c6, ixN_70, ixN_71, ixN_72, ixN_73, ixN_74, ixN_75, ixN_76, Nat.reduceAdd, Int.reduceToNat, Int.reducePow, ite_T, ite_F, if_dec, if_ndec, if_nb, true_and, if_true, Bool.false_eq_true, if_false])
/-! ### laid out: the least that hides nothing left, again and again -/
def many (ps : List I2) (left : List Int) (t : Int) : Nat := (ps.filter fun p => decide (p.1 = t ∧ p.2 ∈ left)).length
def lay (ps : List I2) : Nat → List Int → List Int
  | 0, _ => []
  | n + 1, left => match left.filter fun t => decide (many ps left t = 0) with
    | [] => []
    | x :: _ => x :: lay ps n (left.erase x)
theorem lay_nil (ps : List I2) : ∀ n, lay ps n [] = []
  | 0 => rfl
  | n + 1 => rfl
theorem lay_succ (ps : List I2) (n : Nat) (left : List Int) : lay ps (n + 1) left = match left.filter fun t => decide (many ps left t = 0) with
    | [] => []
    | x :: _ => x :: lay ps n (left.erase x) := rfl
theorem countP_split {α : Type} {p q r : α → Bool} (h : ∀ a, (p a).toNat = (q a).toNat + (r a).toNat) : ∀ l : List α, l.countP p = l.countP q + l.countP r
  | [] => rfl
  | a :: l => by
    have ih := countP_split h l
    have := h a
    rw [List.countP_cons, List.countP_cons, List.countP_cons, ih]
    revert this
    cases p a <;> cases q a <;> cases r a <;> simp <;> omega
theorem many_erase {left : List Int} {x : Int} (nd : left.Nodup) (hx : x ∈ left) (t : Int) (ps : List I2) : many ps left t = many ps (left.erase x) t + (dirL ps x).count t := by
  have e : (dirL ps x).count t = ps.countP fun p => decide (p.1 = t ∧ p.2 = x) := by
    unfold dirL
    rw [List.count_eq_countP, List.countP_map, List.countP_filter]
    congr 1
    funext p
    by_cases c1 : p.1 = t <;> by_cases c2 : p.2 = x <;> simp [c1, c2]
  unfold many
  rw [e, ← List.countP_eq_length_filter, ← List.countP_eq_length_filter]
  refine countP_split (fun p => ?_) ps
  by_cases c1 : p.1 = t
  · by_cases c2 : p.2 = x
    · have c3 : ¬ p.2 ∈ left.erase x := fun h => by rw [c2] at h; exact nd.not_mem_erase h
      have c4 : p.2 ∈ left := by rw [c2]; exact hx
      rw [c2] at c3
      simp [c1, c3, c2, hx]
    · have c3 : p.2 ∈ left ↔ p.2 ∈ left.erase x := by
        rw [nd.mem_erase_iff]
        exact ⟨fun h => ⟨c2, h⟩, fun h => h.2⟩
      simp only [c1, c2, c3, and_false, decide_false]
      simp
  · simp [c1]
theorem many_all {ps : List I2} {l : List Int} (h : ∀ p ∈ ps, p.2 ∈ l) (t : Int) : many ps l t = (ps.filter fun p => decide (p.1 = t)).length := by
  unfold many
  congr 1
  refine List.filter_congr fun p hp => ?_
  have := h p hp
  simp [this]
theorem many_le (ps : List I2) (l : List Int) (t : Int) : many ps l t ≤ ps.length := List.length_filter_le _ _
/-- the numbers, as a dict's items -/
def mnK (ts : List Int) (h : Int → Int) : List (Key × D) := ts.map fun x => (Sum.inl x, .int (h x))
theorem mnK_get {ts : List Int} {h : Int → Int} {k : Int} (m : k ∈ ts) : getD' (mnK ts h) (Sum.inl k) = some (.int (h k)) := by
  unfold mnK
  rw [get_map (h := fun x => D.int (h x)), if_pos m]
theorem mnK_put {ts : List Int} {h g : Int → Int} {k : Int} (m : k ∈ ts) (e1 : ∀ x, x ≠ k → g x = h x) : putKD (mnK ts h) (Sum.inl k) (.int (g k)) = mnK ts g := by
  unfold mnK
  rw [put_old (h := fun x => D.int (h x)) m]
  refine List.map_congr_left fun x _ => ?_
  by_cases c : x = k
  · subst c; simp
  · rw [if_neg c, e1 x c]
def c_laid_out (A : Ad) : Ct := fun ds μ Q _ => match ds with
  | [.lst T, .lst Z] => ∃ (ts : List Int) (ps : List I2), T = ts.map D.int ∧ Z = ps.map pD ∧ ts.Nodup ∧ ts.length ≤ 1000 ∧ ps.length ≤ 5000 ∧ (∀ p ∈ ps, p.1 ∈ ts ∧ p.2 ∈ ts) ∧ Q (.lst ((lay ps ts.length (srt ts)).map D.int)) μ
  | _ => False
abbrev s_laid_out : Stmt := top 13
theorem sc_laid_out : FnScope ["tags", "arrows", "many", "tag", "hider", "hidden", "hiders", "left", "row", "ready", "least"] ["tags", "arrows"] (defScope s_laid_out) := ⟨rfl, rfl, rfl, by decide +kernel, rfl, by decide +kernel, by decide +kernel⟩
def w_laid_out_b1 (A : Ad) (E : EX) : WS := (wAugD fSub (wVar 2) (wVar 4) (wC (.int (1))))
def w_laid_out_b2 (A : Ad) (E : EX) : WS := (wSeq (wAsg (wFrz (wLc (iLs (wVar 7)) 3 [3] (wTe (wOp fEq (wOp fDGet (wVar 2) (wVar 3)) (wC (.int (0))))) (wVar 3))) (gN 9))
  (wSeq (wIf (wNot (wTr (wVar 9))) (wRet (wFrz (wVar 8))) wNext)
  (wSeq (wAsg (wOp fIx (wVar 9) (wC (.int (0)))) (gN 10))
  (wSeq (wDrop (wMeL fRem (wVar 7) (wCons (wVar 10) wNil)))
  (wSeq (wDrop (wMeL fApp (wVar 8) (wCons (wVar 10) wNil)))
  (wFor (iLs (wOp fDGet (wVar 6) (wVar 10))) (gN 4) (w_laid_out_b1 A E)))))))
def w_laid_out_5 (A : Ad) (E : EX) : WS := (wSeq (wWhile (wTr (wVar 7)) (w_laid_out_b2 A E))
  (wRet (wFrz (wVar 8))))
def w_laid_out_4 (A : Ad) (E : EX) : WS := (wSeq (wAsg (wLst wNil) (gN 8))
  (w_laid_out_5 A E))
def w_laid_out_3 (A : Ad) (E : EX) : WS := (wSeq (wAsg (wCB fSort (wCons (wVar 0) wNil)) (gN 7))
  (w_laid_out_4 A E))
def w_laid_out_2 (A : Ad) (E : EX) : WS := (wSeq (wAsg (wCall (c_gathered A) E (wCons (wVar 0) (wCons (wVar 1) wNil))) (gN 6))
  (w_laid_out_3 A E))
def w_laid_out_b3 (A : Ad) (E : EX) : WS := (wAugD fAdd (wVar 2) (wVar 4) (wC (.int (1))))
def w_laid_out (A : Ad) (E : EX) : WS := (wSeq (wAsg (wDc (iLs (wVar 0)) 3 [3] wYes (wVar 3) (wC (.int (0)))) (gN 2))
  (wSeq (wFor (iLs (wVar 1)) (gTp 2 (gCn (gN 4) (gCn (gN 5) gNl))) (w_laid_out_b3 A E))
  (w_laid_out_2 A E)))
/-- d[k] op= e, at a cell whose values are whole numbers -/
theorem aug_mn {f : F2} {ρ : En} {μ : Mu} {Ds : DEnds} {i j : Nat} {a : Addr} {k : Int} {ts : List Int} {h g : Int → Int} {c : Int} (h0 : ρ[i]? = some (some (.mut a))) (h1 : ρ[j]? = some (some (.int k))) (h2 : μ a = some (.dK (mnK ts h))) (hk : k ∈ ts) (hl : ts.length ≤ 1000)
    (hf : ∀ R : D → Mu → Prop, R (.int (g k)) μ → f (.int (h k)) (.int c) μ R) (e1 : ∀ x, x ≠ k → g x = h x) (q : Ds.nx ρ (um μ a (.dK (mnK ts g)))) : wAugD f (wVar i) (wVar j) (wC (.int c)) Ds ρ μ := by
  simp only [wAugD, wVar, wC, h0, h1]
  refine ⟨.int (h k), ?_, hf _ ?_⟩
  · unfold dget
    dsimp only
    rw [h2]
    show some (getD' (mnK ts h) (Sum.inl k)) = _
    rw [mnK_get hk]
  · unfold fSetD
    dsimp only
    rw [h2]
    refine ⟨by unfold mnK; rw [List.length_map]; omega, Sum.inl k, rfl, ?_⟩
    rw [mnK_put hk e1]
    exact q
theorem pure_laid_out (A : Ad) (ds μ Q E0) (h : c_laid_out A ds μ Q E0) : w_laid_out A (fun C fs _ μ => dwx E0 C fs μ) (rets Q) (st0 11 ds) μ := by
  unfold c_laid_out at h
  split at h
  · rename_i T Z
    obtain ⟨ts, ps, rfl, rfl, nd, hl, hz, hg, h⟩ := h
    have r5 : ∀ (a b c : Addr) (r3 r4 r5 : Option D), μ a = none → μ b = none → μ c = none → a ≠ b → a ≠ c → b ≠ c →
        w_laid_out_5 A (fun C fs x μ => dwx E0 C fs μ) (rets Q) [some (.lst (ts.map D.int)), some (.lst (ps.map pD)), some (.mut a), r3, r4, r5, some (gthD ts ps), some (.mut b), some (.mut c), none, none] (um (um (um μ a (.dK (mnK ts fun t => (many ps (srt ts) t : Nat)))) b (.lst ((srt ts).map D.int))) c (.lst [])) := by
      intro a b c r3 r4 r5 ha hb hc hab hac hbc
      unfold w_laid_out_5 wSeq wWhile
      refine ⟨fun m ρ μ' => ∃ (left row : List Int) (r3 r4 r9 r10 : Option D), μ' = um (um (um μ a (.dK (mnK ts fun t => (many ps left t : Nat)))) b (.lst (left.map D.int))) c (.lst (row.map D.int)) ∧ ρ = [some (.lst (ts.map D.int)), some (.lst (ps.map pD)), some (.mut a), r3, r4, r5, some (gthD ts ps), some (.mut b), some (.mut c), r9, r10] ∧
        left.Nodup ∧ (∀ x ∈ left, x ∈ ts) ∧ row ++ lay ps left.length left = lay ps ts.length (srt ts) ∧ row.length + left.length ≤ ts.length ∧ m = left.length, ⟨_, srt ts, [], _, _, _, _, rfl, rfl, (srt_perm ts).nodup_iff.mpr nd, fun x hx => mem_srt.mp hx, by rw [srt_len]; rfl, by rw [srt_len]; simp, rfl⟩, ?_⟩
      rintro m ρ μ' ⟨left, row, r3, r4, r9, r10, rfl, rfl, lnd, lsub, hlay, hlen, rfl⟩
      have le0 : ∀ X Y Z, le μ (um (um (um μ a X) b Y) c Z) := fun X Y Z => (le.um ha).trans ((le.um (by rw [um_ne (Ne.symm hab)]; exact hb)).trans (le.um (by rw [um_ne (Ne.symm hbc), um_ne (Ne.symm hac)]; exact hc)))
      have ga : ∀ X Y Z, (um (um (um μ a X) b Y) c Z) a = some X := fun X Y Z => by rw [um_ne hac, um_ne hab, um_same]
      have gb : ∀ X Y Z, (um (um (um μ a X) b Y) c Z) b = some Y := fun X Y Z => by rw [um_ne hbc, um_same]
      have fin : ∀ X Y, row = lay ps ts.length (srt ts) → dwn Q (.lst (row.map D.int)) (rm (um (um (um μ a X) b Y) c (.lst (row.map D.int))) c) := fun X Y e => by
        rw [rm_um (by rw [um_ne (Ne.symm hbc), um_ne (Ne.symm hac)]; exact hc)]
        exact ⟨μ, (le.um ha).trans (le.um (by rw [um_ne (Ne.symm hab)]; exact hb)), by rw [e]; exact h⟩
      have st : truD (um (um (um μ a (.dK (mnK ts fun t => (many ps left t : Nat)))) b (.lst (left.map D.int))) c (.lst (row.map D.int))) (.mut b) = some (!left.isEmpty) := by
        unfold truD
        dsimp only
        rw [gb]
        cases left <;> rfl
      simp only [wTr, wVar, List.getElem?_cons_zero, List.getElem?_cons_succ, st]
      cases left with
      | nil =>
        simp only [List.isEmpty_nil, Bool.not_true, Bool.false_eq_true, if_false]
        walk_at "w"
        exact fin _ _ (by rw [← hlay, lay_nil, List.append_nil])
      | cons x0 left0 =>
        generalize hL : x0 :: left0 = left at *
        have ne : left.isEmpty = false := by rw [← hL]; rfl
        have len : left.length = left0.length + 1 := by rw [← hL]; rfl
        simp only [ne, Bool.not_false, if_true]
        unfold w_laid_out_b2 wSeq wAsg
        refine lc_frz left D.int (fun t => decide (many ps left t = 0)) D.int ⟨.cell b (left.map D.int), rfl, gb _ _ _, fun R hR => ?_⟩ (by omega) (fun x hx μ1 R hle hR => ?_) (fun x hx _ μ1 R hle hR => hR) ?_
        · show iLs (wVar 7) _ _ R
          simp only [iLs, wVar, List.getElem?_cons_zero, List.getElem?_cons_succ, gb]
          exact hR
        · simp only [wip, wTe, wOp, wVar, wC, List.getElem?_cons_zero, List.getElem?_cons_succ, List.set_cons_zero, List.set_cons_succ]
          refine ⟨.int (many ps left x : Nat), ?_, ?_⟩
          · unfold dget
            dsimp only
            rw [hle a _ (ga _ _ _)]
            show some (getD' (mnK ts fun t => (many ps left t : Nat)) (Sum.inl x)) = _
            rw [mnK_get (lsub x hx)]
          · walk_at "w"
            have : decide (((many ps left x : Nat) : Int) = 0) = decide (many ps left x = 0) := by
              by_cases c : many ps left x = 0
              · simp [c]
              · have : ¬ ((many ps left x : Nat) : Int) = 0 := by omega
                simp [c, this]
            first
              | (rw [this]; exact hR)
              | (simp only [this]; exact hR)
              | skip
        · generalize hF : left.filter (fun t => decide (many ps left t = 0)) = F
          rw [len] at hlay
          rw [lay_succ, hF] at hlay
          cases F with
          | nil =>
            walk_at "w"
            exact fin _ _ (by rw [← hlay, List.append_nil])
          | cons x F =>
            have hx : x ∈ left := (List.mem_filter.mp (hF ▸ List.mem_cons_self)).1
            walk_at "v"
            rw [if_neg (by simp)]
            have gc : ∀ X Y Z W, (um (um (um (um μ a X) b Y) c Z) b W) c = some Z := fun X Y Z W => by rw [um_ne (Ne.symm hbc), um_same]
            refine ⟨⟨b, _, rfl, gb _ _ _⟩, b, left, x, rfl, rfl, gb _ _ _, hx, ⟨c, _, rfl, gc _ _ _ _⟩, ?_⟩
            rw [gc]
            dsimp only
            refine ⟨by rw [List.length_map]; omega, ?_⟩
            rw [um_comm (Ne.symm hbc), um_um, um_um]
            have hlx : (left.erase x).length = left0.length := by rw [List.length_erase_of_mem hx]; omega
            have e0 : List.map D.int row ++ [D.int x] = (row ++ [x]).map D.int := by rw [List.map_append]; rfl
            rw [e0]
            simp only [wFor, iLs, wOp, wVar, List.getElem?_cons_zero, List.getElem?_cons_succ]
            refine ⟨_, tabD_get (nb := dirL ps) nd (lsub x hx), ?_⟩
            dsimp only
            refine ⟨fun j ρ μ' => ∃ r4, μ' = um (um (um μ a (.dK (mnK ts fun t => (many ps left t : Nat) - (((dirL ps x).take j).count t : Nat)))) b (.lst ((left.erase x).map D.int))) c (.lst ((row ++ [x]).map D.int)) ∧ ρ = [some (.lst (ts.map D.int)), some (.lst (ps.map pD)), some (.mut a), r3, r4, r5, some (gthD ts ps), some (.mut b), some (.mut c), some (.lst ((x :: F).map D.int)), some (.int x)], ⟨_, ?_, rfl⟩, fun _ _ _ _ => trivial, ?_, ?_⟩
            · have : (fun t => ((many ps left t : Nat) : Int) - (((dirL ps x).take 0).count t : Nat)) = fun t => ((many ps left t : Nat) : Int) := by
                funext t
                rw [List.take_zero, List.count_nil]
                omega
              rw [this]
            · rintro j d ρ μ' hd ⟨r4, rfl, rfl⟩
              rw [fixi] at hd
              obtain ⟨k, hk, rfl⟩ := map_at hd
              have hkt : k ∈ ts := (hg _ (mem_dirL.mp (List.mem_of_getElem? hk))).1
              have tk : (dirL ps x).take (j + 1) = (dirL ps x).take j ++ [k] := by rw [List.take_succ, hk]; rfl
              unfold w_laid_out_b1
              simp only [gN, List.set_cons_zero, List.set_cons_succ]
              refine aug_mn (g := fun t => (many ps left t : Nat) - (((dirL ps x).take (j + 1)).count t : Nat)) rfl rfl (ga _ _ _) hkt hl (fun R hR => ?_) (fun y hy => ?_) (wk.of ⟨_, ?_, rfl⟩)
              · have e : ((many ps left k : Nat) : Int) - (((dirL ps x).take (j + 1)).count k : Nat) = ((many ps left k : Nat) : Int) - (((dirL ps x).take j).count k : Nat) - 1 := by
                  rw [tk, List.count_append, List.count_cons_self, List.count_nil]
                  omega
                show R (.int (((many ps left k : Nat) : Int) - (((dirL ps x).take j).count k : Nat) - 1)) _
                rw [← e]
                exact hR
              · rw [tk, List.count_append, List.count_cons_of_ne (fun e => hy e.symm), List.count_nil, Nat.add_zero]
              · rw [um_comm hac.symm, um_comm hab.symm, um_um]
            · rintro ρ μ' ⟨r4, rfl, rfl⟩
              rw [fixi, List.length_map, List.take_length]
              refine wk.of ⟨(left.erase x).length, by omega, left.erase x, row ++ [x], _, _, _, _, ?_, rfl, lnd.erase x, fun y hy => lsub y (List.mem_of_mem_erase hy), ?_, ?_, rfl⟩
              · have : (fun t => ((many ps left t : Nat) : Int) - ((dirL ps x).count t : Nat)) = fun t => ((many ps (left.erase x) t : Nat) : Int) := by
                  funext t
                  rw [many_erase lnd hx t ps]
                  omega
                rw [this]
              · rw [hlx, ← hlay, List.append_assoc]
                rfl
              · rw [List.length_append, List.length_singleton]
                omega
    unfold w_laid_out
    walk_at "v"
    refine dc_lst rfl fun a ha => ⟨fun i μ' => μ' = um μ a (.dK (mnK (ts.take i) fun _ => 0)), show um μ a _ = um μ a _ by rw [List.take_zero]; rfl, ?_, ?_⟩
    · rintro i d μ' hd rfl
      obtain ⟨t, ht, rfl⟩ := map_at hd
      have hi := (List.getElem?_eq_some_iff.mp ht).1
      walk_at "w"
      refine ⟨_, Sum.inl t, rfl, rfl, ?_, ?_⟩
      · unfold mnK
        rw [List.length_map, List.length_take]
        omega
      · unfold mnK
        rw [put_new (h := fun x => D.int 0) (not_take nd ht), List.take_succ, ht, Option.toList_some, List.map_append]
        rfl
    · rintro μ' rfl
      rw [List.length_map, List.take_length]
      refine for_lv2 (d := .lst (ps.map pD)) (l := ps.map pD) rfl rfl (fun i ρ' μ' => μ' = um μ a (.dK (mnK ts fun t => (((ps.take i).filter fun p => decide (p.1 = t)).length : Nat))) ∧ ∃ r4 r5, ρ' = [some (.lst (ts.map D.int)), some (.lst (ps.map pD)), some (.mut a), none, r4, r5, none, none, none, none, none]) ⟨by rw [List.take_zero]; rfl, _, _, rfl⟩ (fun _ _ _ _ => rfl) ?_ ?_
      · rintro i e ρ' μ' he ⟨rfl, r4, r5, rfl⟩
        obtain ⟨p, hp, rfl⟩ := map_at he
        unfold w_laid_out_b3 pD
        simp only [gTp, gCn, gN, gNl, List.length_cons, List.length_nil, List.set_cons_zero, List.set_cons_succ]
        have tk : ps.take (i + 1) = ps.take i ++ [p] := by rw [List.take_succ, hp]; rfl
        refine ⟨trivial, aug_mn (g := fun t => (((ps.take (i + 1)).filter fun p => decide (p.1 = t)).length : Nat)) rfl rfl um_same (hg p (List.mem_of_getElem? hp)).1 hl (fun R hR => ?_) (fun y hy => ?_) (wk.of ⟨?_, _, _, rfl⟩)⟩
        · have e : (((ps.take (i + 1)).filter fun q => decide (q.1 = p.1)).length : Int) = ((ps.take i).filter fun q => decide (q.1 = p.1)).length + 1 := by
            rw [tk, List.filter_append, List.length_append]
            simp
          show R (.int ((((ps.take i).filter fun q => decide (q.1 = p.1)).length : Nat) + 1)) _
          rw [← e]
          exact hR
        · rw [tk, List.filter_append, List.length_append]
          have : ¬ p.1 = y := fun e => hy e.symm
          simp [this]
        · rw [um_um]
      · rintro ρ' μ' ⟨rfl, q4, q5, rfl⟩
        rw [List.length_map, List.take_length]
        dsimp only
        unfold w_laid_out_2
        walk_at "v"
        refine ⟨ts, ps, rfl, rfl, nd, hl, hz, fun p hp => (hg p hp).2, ?_⟩
        unfold w_laid_out_3
        walk_at "v"
        refine ⟨_, ts, rfl, rfl, fun b hb => ?_⟩
        have hab : a ≠ b := fun e => by rw [← e, um_same] at hb; cases hb
        unfold w_laid_out_4
        walk_at "v"
        refine ⟨by decide, fun c hc => ?_⟩
        have hbc : b ≠ c := fun e => by rw [← e, um_same] at hc; cases hc
        have hac : a ≠ c := fun e => by rw [← e, um_ne hab, um_same] at hc; cases hc
        rw [um_ne (Ne.symm hab)] at hb
        rw [um_ne (Ne.symm hbc), um_ne (Ne.symm hac)] at hc
        have e : (fun t => (((ps.filter fun p => decide (p.1 = t)).length : Nat) : Int)) = fun t => ((many ps (srt ts) t : Nat) : Int) := by
          funext t
          rw [many_all (fun p hp => mem_srt.mpr (hg p hp).2) t]
        rw [e]
        exact r5 a b c _ _ _ ha hb hc hab hac hbc
  · exact h.elim
theorem len_laid_out (A : Ad) : ∀ ds μ Q E, c_laid_out A ds μ Q E → ds.length = 2 := by
  intro ds μ Q E h
  unfold c_laid_out at h
  first | (split at h) | (split at h)
  all_goals first | rfl | exact h.elim
theorem ok_laid_out {P : Program} {w : World} {K : PySem.W.Frag} {mg : Str → Option Value} {base : Heap} {A : Ad} (D : Dfn K mg "laid_out" "laid_out" s_laid_out ["tags", "arrows"]) (T : Tx P w base K mg A) (G_gathered : DfOk P w K mg base "gathered" 1 ["tags", "pairs"] (c_gathered A)) : DfOk P w K mg base "laid_out" 2 ["tags", "arrows"] (c_laid_out A) := by
  obtain ⟨f, fd, F, hm, hb⟩ := D
  refine ⟨f, fd, okD F sc_laid_out (by decide) (len_laid_out A) ?_, hm, F.kp, hb⟩
  intro X W E cdv B outer s H Ex hX tk hp hr
  subst hX
  exact ⟨_, w_laid_out A E, (scons (sset (i := 2) (edc sc_laid_out.nd [("tag", 3)] 3 (il (ev 0)) (fun _ _ _ _ _ => gnmP 3 sc_laid_out.nd) (fun _ _ _ _ _ => ⟨_, tsnil⟩) (fun _ _ _ _ _ => ⟨_, (ev 3)⟩) (fun _ _ _ _ _ => ⟨_, ei⟩)) sc_laid_out.nd)
  (scons (sfor hp (il (ev 1)) (gtp (n := 2) (gcn (gnm 4 sc_laid_out.nd) (gcn (gnm 5 sc_laid_out.nd) gnl))) (sone (saugd (Room.units1 hr) in_add do_radd (ev 2) (ev 4) ei)))
  (scons (sset (i := 6) (ecall2 tk G_gathered (hr.mono (by decide)) (acons (ev 0) (acons (ev 1) anil))) sc_laid_out.nd)
  (scons (sset (i := 7) (ecb cr_sortedI dc_sort T.b_sorted (acons (ev 0) anil)) sc_laid_out.nd)
  (scons (sset (i := 8) (elst anil) sc_laid_out.nd)
  (scons (swhile hp (ttru (ev 7)) (scons (ssetlcF sc_laid_out.nd 9 [("tag", 3)] 3 (il (ev 7)) (fun _ _ _ _ _ => gnmP 3 sc_laid_out.nd) (fun _ _ _ _ _ => ⟨_, (tsone (tc' op_eq do_eq (edget (Room.units1 hr) (ev 2) (ev 3)) ei))⟩) (fun _ _ _ _ _ => ⟨_, (ev 3)⟩))
  (scons (sif (tnot (ttru (ev 9))) (sone (sret (efrz (ev 8)))) snil)
  (scons (sset (i := 10) (eix (ev 9) ei) sc_laid_out.nd)
  (scons (sexpr (emeL (m := "") PySem.F.slot_list_remove PySem.F.type_list_remove mt_remove dm_rem (ev 7) (acons (ev 10) anil)))
  (scons (sexpr (eapp (ev 8) (acons (ev 10) anil)))
  (sone (sfor hp (il (edget (Room.units1 hr) (ev 6) (ev 10))) (gnm 4 sc_laid_out.nd) (sone (saugd (Room.units1 hr) in_sub do_rsub (ev 2) (ev 4) ei))))))))))
  (sone (sret (efrz (ev 8)))))))))), fun ds μ Q E0 hc hE => by subst hE; exact pure_laid_out A ds μ Q E0 hc⟩
end K14
set_option maxHeartbeats 800000
namespace K14
open PySem L2 DL
local macro_rules | `(tactic| walk_at "w") => `(tactic| simp only [wSeq, wAugD, wAugN, fSetI, fLenS, fInS, fSort, fSortD, fSortSetI, fSortSetP, fRem, wNext, wIf, wRet, wRetN, wDrop, wAsg, gN, wVar, wC, wOp, wUn, wNil, wCons, wCB, wTup, wLst, wLstF, wTe, tB0, wAnd, wOr, wNot, wAndV, wOrV, wNotV, wIfE, wCall, wCallG, wRaise, wFrz, fFrz, rets, fI, fI0, fAdd, fSub, fMul, fLt, fLe, fGt, fGe, fMod, fModN, fPow, fDiv, fDivG, fNeg, fEq, fNe, eqF_int, eqF_bl, eqF_str, scal_int, scal_bl, scal_str, fLen, sv, fIx, fAbs, fInt, fList, wSl, fSlL, oNo, oSo, lvr, lv, fCat, wMeL, fApp, fPop, fSetL, gSb, iLs, iTp, iR1, iR2, wFor, gTp, gCn, gNl, wPar, wBrk, wCnt, fIsi, wIsx, wLc, wYes, wip, wTr, truD, wTry, clrD, wFld, fieldsD, wSetF, wMeth, wMake, wIsX, wXf, wTryX, wRaiseL, wRaiseV, fCatM, fEqL, fStrI, fFmt, wJoin, wJs, wChain, wLc2, wLR, wProp, fRepT, wDIn, wDNewT, fSetD, iR3, gLs, fIns, fPopAt, fClear, fTuple, fMin2, fMaxL, fAny, iEn, wRev, fRev, wDNew, wDNewF, wDsp1, wDsp1F, fAddS, fIsN, fNotN, um_same, um_um, st0, List.map_cons, List.map_nil, List.length_cons, List.length_nil, List.getElem?_cons_zero, List.getElem?_cons_succ, List.set_cons_zero, List.set_cons_succ, List.cons_append, List.nil_append, List.replicate, atI_c0, atI_c1, atI_c2, atI_c3, atI_c4, atI_c5, atI_c6, ixN_70, ixN_71, ixN_72, ixN_73, ixN_74, ixN_75, ixN_76, Nat.reduceAdd, Int.reduceToNat, Int.reducePow, ite_T, ite_F, if_dec, if_ndec, if_nb, true_and, if_true, Bool.false_eq_true, if_false])
local macro_rules | `(tactic| walk_at "v") => `(tactic| simp only [wSeq, wAugD, wAugN, fSetI, fLenS, fInS, fSort, fSortD, fSortSetI, fSortSetP, fRem, wNext, wIf, wRet, wRetN, wDrop, wAsg, gN, wVar, wC, wOp, wUn, wNil, wCons, wCB, wTup, wLst, wLstF, wTe, tB0, wAnd, wOr, wNot, wAndV, wOrV, wNotV, wIfE, wCall, wCallG, wRaise, wFrz, fFrz, rets, fI, fI0, fAdd, fSub, fMul, fLt, fLe, fGt, fGe, fMod, fModN, fPow, fDiv, fDivG, fNeg, fEq, fNe, eqF_int, eqF_bl, eqF_str, scal_int, scal_bl, scal_str, fLen, sv, fIx, fAbs, fInt, fList, wSl, fSlL, oNo, oSo, lvr, lv, fCat, wMeL, fApp, fPop, fSetL, gSb, gTp, gCn, gNl, wPar, wBrk, wCnt, fIsi, wIsx, wYes, wip, wTr, truD, wTry, clrD, wFld, fieldsD, wSetF, wMeth, wMake, wIsX, wXf, wTryX, wRaiseL, wRaiseV, fCatM, fEqL, fStrI, fFmt, wJoin, wJs, wChain, wLR, wProp, fRepT, wDIn, wDNewT, fSetD, gLs, fIns, fPopAt, fClear, fTuple, fMin2, fMaxL, fAny, wRev, fRev, wDNew, wDNewF, wDsp1, wDsp1F, fAddS, fIsN, fNotN, um_same, um_um, st0, List.map_cons, List.map_nil, List.length_cons, List.length_nil, List.getElem?_cons_zero, List.getElem?_cons_succ, List.set_cons_zero, List.set_cons_succ, List.cons_append, List.nil_append, List.replicate, atI_c0, atI_c1, atI_c2, atI_c3, atI_c4, atI_c5, atI_c6, ixN_70, ixN_71, ixN_72, ixN_73, ixN_74, ixN_75, ixN_76, Nat.reduceAdd, Int.reduceToNat, Int.reducePow, ite_T, ite_F, if_dec, if_ndec, if_nb, true_and, if_true, Bool.false_eq_true, if_false])
local macro_rules | `(tactic| walk_at "u") => `(tactic| simp only [wSeq, wAugD, wAugN, fSetI, fLenS, fInS, fSort, fSortD, fSortSetI, fSortSetP, fRem, wNext, wIf, wRet, wRetN, wDrop, wAsg, gN, wVar, wC, wOp, wUn, wNil, wCons, wCB, wTup, wLst, wLstF, wTe, tB0, wAnd, wOr, wNot, wAndV, wOrV, wNotV, wIfE, wCall, wCallG, wRaise, rets, fI, fI0, fAdd, fSub, fMul, fLt, fLe, fGt, fGe, fMod, fModN, fPow, fDiv, fDivG, fNeg, fEq, fNe, eqF_int, eqF_bl, eqF_str, scal_int, scal_bl, scal_str, fLen, sv, fIx, fAbs, fInt, fList, wSl, fSlL, oNo, oSo, lvr, lv, fCat, wMeL, fApp, fPop, fSetL, gSb, gTp, gCn, gNl, wPar, wBrk, wCnt, fIsi, wIsx, wYes, wip, wTr, truD, wTry, clrD, wFld, fieldsD, wSetF, wMeth, wMake, wIsX, wXf, wTryX, wRaiseL, wRaiseV, fCatM, fEqL, fStrI, fFmt, wJoin, wJs, wChain, wLR, wProp, fRepT, wDIn, wDNewT, fSetD, gLs, fIns, fPopAt, fClear, fTuple, fMin2, fMaxL, fAny, wRev, fRev, wDNew, wDNewF, wDsp1, wDsp1F, fAddS, fIsN, fNotN, um_same, um_um, st0, List.map_cons, List.map_nil, List.length_cons, List.length_nil, List.getElem?_cons_zero, List.getElem?_cons_succ, List.set_cons_zero, List.set_cons_succ, List.cons_append, List.nil_append, List.replicate, atI_c0, atI_c1, atI_c2, atI_c3, atI_c4, atI_c5, atI_c6, ixN_70, ixN_71, ixN_72, ixN_73, ixN_74, ixN_75, ixN_76, Nat.reduceAdd, Int.reduceToNat, Int.reducePow, ite_T, ite_F, if_dec, if_ndec, if_nb, true_and, if_true, Bool.false_eq_true, if_false])
/-! ### the class Web -/
def webF (ts : List Int) (ps : List I2) : List (Str × D) := [("own_tags", .lst (ts.map D.int)), ("own_arrows", .lst (ps.map pD))]
def c_Web___init__ (A : Ad) : Ct := fun ds μ Q _ => match ds with
  | [.mut a, d1, d2] => ∃ (ts : List Int) (ps : List I2), lv μ d1 = some (ts.map D.int) ∧ lv μ d2 = some (ps.map pD) ∧ ts.length ≤ 1000 ∧ ps.length ≤ 1000 ∧ (∀ p ∈ ps, p.1 ∈ ts ∧ p.2 ∈ ts ∧ p.1 ≠ p.2) ∧ (setI ts).length ≤ 40 ∧ μ a = some (.ins (A.g "Web") []) ∧ Q .non (um μ a (.ins (A.g "Web") (webF (setI ts) (setP ps))))
  | _ => False
abbrev s_Web___init__ : Stmt := inClass (top 8) 0
theorem sc_Web___init__ : FnScope ["self", "tags", "arrows"] ["self", "tags", "arrows"] (defScope s_Web___init__) := ⟨rfl, rfl, rfl, by decide +kernel, rfl, by decide +kernel, by decide +kernel⟩
def w_Web___init___2 (A : Ad) (E : EX) : WS := (wSetF (fun C => C = A.g "Web") "own_arrows" (wVar 0) (wFrz (wCB fSortSetP (wCons (wVar 2) wNil))))
def w_Web___init___1 (A : Ad) (E : EX) : WS := (wSeq (wSetF (fun C => C = A.g "Web") "own_tags" (wVar 0) (wFrz (wCB fSortSetI (wCons (wVar 1) wNil))))
  (w_Web___init___2 A E))
def w_Web___init__ (A : Ad) (E : EX) : WS := (wSeq (wDrop (wCall (c_check_web A) E (wCons (wVar 1) (wCons (wVar 2) wNil))))
  (w_Web___init___1 A E))
theorem lv_um {μ : Mu} {d : D} {l : List D} {a : Addr} {m n : MO} {C : Addr} {fs : List (Str × D)} (h : lv μ d = some l) (ha : μ a = some (.ins C fs)) : lv (um μ a m) d = some l := by
  cases d <;> first | exact h | skip
  rename_i b
  unfold lv at h ⊢
  dsimp only at h ⊢
  by_cases c : b = a
  · subst c; rw [ha] at h; cases h
  · rw [um_ne c]; exact h
theorem pure_Web___init__ (A : Ad) (ds μ Q E0) (h : c_Web___init__ A ds μ Q E0) : w_Web___init__ A (fun C fs _ μ => dwx E0 C fs μ) (rets Q) (st0 3 ds) μ := by
  unfold c_Web___init__ at h
  split at h
  · rename_i a d1 d2
    obtain ⟨ts, ps, h1, h2, hl, hz, hg, h40, ha, h⟩ := h
    unfold w_Web___init__
    walk_at "w"
    refine ⟨ts, ps, h1, h2, hl, hg, h40, ?_⟩
    unfold w_Web___init___1
    walk_at "w"
    refine ⟨_, ts, rfl, lvr_lv h1, hl, by omega, fun p hp => ?_⟩
    have hpa : p ≠ a := fun e => by rw [e, ha] at hp; cases hp
    rw [rm_um hp, ha]
    have p1 : ∀ x : D, putD "own_tags" x [] = ([("own_tags", x)] : List (Str × D)) := fun x => rfl
    have p2 : ∀ x y : D, putD "own_arrows" y ([("own_tags", x)] : List (Str × D)) = ([("own_tags", x), ("own_arrows", y)] : List (Str × D)) := fun x y => rfl
    dsimp only
    rw [p1]
    refine ⟨rfl, Nat.lt_of_sub_ne_zero (by simp), ?_⟩
    unfold w_Web___init___2
    walk_at "w"
    refine ⟨_, ps, rfl, lvr_lv (lv_um (n := .lst []) h2 ha), hz, fun p hp => ?_⟩
    have hpa : p ≠ a := fun e => by rw [e, um_same] at hp; cases hp
    rw [rm_um hp, um_same]
    dsimp only
    rw [p2, um_um]
    exact ⟨rfl, Nat.lt_of_sub_ne_zero (by simp), dwn.of h⟩
  · exact h.elim
theorem len_Web___init__ (A : Ad) : ∀ ds μ Q E, c_Web___init__ A ds μ Q E → ds.length = 3 := by
  intro ds μ Q E h
  unfold c_Web___init__ at h
  first | (split at h) | (split at h)
  all_goals first | rfl | exact h.elim
theorem okm_Web___init__ {P : Program} {w : World} {K : PySem.W.Frag} {mg : Str → Option Value} {base : Heap} {A : Ad} {f : Addr} {fd : FuncData} (F : Fun K "__init__" "Web.__init__" s_Web___init__ f fd) (T : Tx P w base K mg A) (G_check_web : DfOk P w K mg base "check_web" 4 ["tags", "arrows"] (c_check_web A)) (Cl_Web : Cls K (A.g "Web")) (Na_Web_own_arrows : NoAttr K (A.g "Web") "own_arrows") (Na_Web_own_tags : NoAttr K (A.g "Web") "own_tags") : FnOk P w K mg base (L2N.CX P w) 5 f fd ["self", "tags", "arrows"] (spD K (c_Web___init__ A)) := by
  refine okD F sc_Web___init__ (by decide) (len_Web___init__ A) ?_
  intro X W E cdv B outer s H Ex hX tk hp hr
  subst hX
  exact ⟨_, w_Web___init__ A E, (scons (sexpr (ecall2 tk G_check_web (hr.mono (by decide)) (acons (ev 1) (acons (ev 2) anil))))
  (scons (ssetf (fun C => C = A.g "Web") (fun C e => by rw [e]; exact ⟨Cl_Web, Na_Web_own_tags⟩) (ev 0) (efrz (esortsetI T.b_sorted T.b_set (acons (ev 1) anil))))
  (sone (ssetf (fun C => C = A.g "Web") (fun C e => by rw [e]; exact ⟨Cl_Web, Na_Web_own_arrows⟩) (ev 0) (efrz (esortsetP (Room.units65 hr) T.b_sorted T.b_set (acons (ev 2) anil))))))), fun ds μ Q E0 hc hE => by subst hE; exact pure_Web___init__ A ds μ Q E0 hc⟩
def cWeb (A : Ad) (r : List Int → List I2 → D) : Ct := fun ds μ Q _ => match ds with
  | [.mut a] => ∃ (ts : List Int) (ps : List I2), μ a = some (.ins (A.g "Web") (webF ts ps)) ∧ Q (r ts ps) μ
  | _ => False
def c_Web_tags (A : Ad) : Ct := cWeb A fun ts _ => .lst (ts.map D.int)
def c_Web_arrows (A : Ad) : Ct := cWeb A fun _ ps => .lst (ps.map pD)
abbrev s_Web_tags : Stmt := inClass (top 8) 1
theorem sc_Web_tags : FnScope ["self"] ["self"] (defScope s_Web_tags) := ⟨rfl, rfl, rfl, by decide +kernel, rfl, by decide +kernel, by decide +kernel⟩
def w_Web_tags (A : Ad) (E : EX) : WS := (wRet (wFrz (wCB fList (wCons (wFld (fun C => C = A.g "Web") "own_tags" (wVar 0)) wNil))))
theorem pure_Web_tags (A : Ad) (ds μ Q E0) (h : c_Web_tags A ds μ Q E0) : w_Web_tags A (fun C fs _ μ => dwx E0 C fs μ) (rets Q) (st0 1 ds) μ := by
  unfold c_Web_tags cWeb at h
  split at h
  · rename_i a
    obtain ⟨ts, ps, ha, h⟩ := h
    unfold w_Web_tags
    walk_at "w"
    rw [ha]
    refine ⟨rfl, ?_⟩
    show ∀ p, μ p = none → _
    intro p hp
    rw [rm_um hp]
    exact dwn.of h
  · exact h.elim
theorem len_Web_tags (A : Ad) : ∀ ds μ Q E, c_Web_tags A ds μ Q E → ds.length = 1 := by
  intro ds μ Q E h
  unfold c_Web_tags at h
  first | (split at h) | (unfold cWeb at h; split at h)
  all_goals first | rfl | exact h.elim
theorem okm_Web_tags {P : Program} {w : World} {K : PySem.W.Frag} {mg : Str → Option Value} {base : Heap} {A : Ad} {f : Addr} {fd : FuncData} (F : Fun K "tags" "Web.tags" s_Web_tags f fd) (T : Tx P w base K mg A)  (Cl_Web : Cls K (A.g "Web")) (Na_Web_own_tags : NoAttr K (A.g "Web") "own_tags") : FnOk P w K mg base (L2N.CX P w) 1 f fd ["self"] (spD K (c_Web_tags A)) := by
  refine okD F sc_Web_tags (by decide) (len_Web_tags A) ?_
  intro X W E cdv B outer s H Ex hX tk hp hr
  subst hX
  exact ⟨_, w_Web_tags A E, (sone (sret (efrz (ecty call_list_of dc_list T.b_list (acons (efld (fun C => C = A.g "Web") (fun C e => by rw [e]; exact ⟨Cl_Web, Na_Web_own_tags⟩) (ev 0)) anil))))), fun ds μ Q E0 hc hE => by subst hE; exact pure_Web_tags A ds μ Q E0 hc⟩
abbrev s_Web_arrows : Stmt := inClass (top 8) 2
theorem sc_Web_arrows : FnScope ["self"] ["self"] (defScope s_Web_arrows) := ⟨rfl, rfl, rfl, by decide +kernel, rfl, by decide +kernel, by decide +kernel⟩
def w_Web_arrows (A : Ad) (E : EX) : WS := (wRet (wFrz (wCB fList (wCons (wFld (fun C => C = A.g "Web") "own_arrows" (wVar 0)) wNil))))
theorem pure_Web_arrows (A : Ad) (ds μ Q E0) (h : c_Web_arrows A ds μ Q E0) : w_Web_arrows A (fun C fs _ μ => dwx E0 C fs μ) (rets Q) (st0 1 ds) μ := by
  unfold c_Web_arrows cWeb at h
  split at h
  · rename_i a
    obtain ⟨ts, ps, ha, h⟩ := h
    unfold w_Web_arrows
    walk_at "w"
    rw [ha]
    refine ⟨rfl, ?_⟩
    show ∀ p, μ p = none → _
    intro p hp
    rw [rm_um hp]
    exact dwn.of h
  · exact h.elim
theorem len_Web_arrows (A : Ad) : ∀ ds μ Q E, c_Web_arrows A ds μ Q E → ds.length = 1 := by
  intro ds μ Q E h
  unfold c_Web_arrows at h
  first | (split at h) | (unfold cWeb at h; split at h)
  all_goals first | rfl | exact h.elim
theorem okm_Web_arrows {P : Program} {w : World} {K : PySem.W.Frag} {mg : Str → Option Value} {base : Heap} {A : Ad} {f : Addr} {fd : FuncData} (F : Fun K "arrows" "Web.arrows" s_Web_arrows f fd) (T : Tx P w base K mg A)  (Cl_Web : Cls K (A.g "Web")) (Na_Web_own_arrows : NoAttr K (A.g "Web") "own_arrows") : FnOk P w K mg base (L2N.CX P w) 1 f fd ["self"] (spD K (c_Web_arrows A)) := by
  refine okD F sc_Web_arrows (by decide) (len_Web_arrows A) ?_
  intro X W E cdv B outer s H Ex hX tk hp hr
  subst hX
  exact ⟨_, w_Web_arrows A E, (sone (sret (efrz (ecty call_list_of dc_list T.b_list (acons (efld (fun C => C = A.g "Web") (fun C e => by rw [e]; exact ⟨Cl_Web, Na_Web_own_arrows⟩) (ev 0)) anil))))), fun ds μ Q E0 hc hE => by subst hE; exact pure_Web_arrows A ds μ Q E0 hc⟩
end K14
set_option maxHeartbeats 800000
namespace K14
open PySem L2 DL
/-! ### classes of mutual reach, and their order: plain lists -/
noncomputable def rpB (nb : Int → List Int) (x y : Int) : Bool := @decide (Rp nb x y) (Classical.propDecidable _)
theorem rpB_iff {nb : Int → List Int} {x y : Int} : rpB nb x y = true ↔ Rp nb x y := by
  unfold rpB
  exact @decide_eq_true_iff _ (Classical.propDecidable _)
theorem Rp.trans {nb : Int → List Int} {x y z : Int} (h : Rp nb x y) (h' : Rp nb y z) : Rp nb x z := by
  induction h' with
  | one m => exact .more h m
  | more _ m ih => exact .more ih m
theorem Rp.cons {nb : Int → List Int} {x y z : Int} (h : y ∈ nb x) (h' : Rp nb y z) : Rp nb x z := Rp.trans (.one h) h'
/-- turned round -/
theorem Rp.turn {nb nb2 : Int → List Int} (e : ∀ x y, y ∈ nb x → x ∈ nb2 y) {x y : Int} (h : Rp nb x y) : Rp nb2 y x := by
  induction h with
  | one m => exact .one (e _ _ m)
  | more _ m ih => exact Rp.cons (e _ _ m) ih
/-- the class of t -/
noncomputable def cof (ts : List Int) (nb : Int → List Int) (t : Int) : List Int := ts.filter fun x => decide (x = t) || (rpB nb t x && rpB nb x t)
def Eq2 (nb : Int → List Int) (t x : Int) : Prop := x = t ∨ (Rp nb t x ∧ Rp nb x t)
theorem mem_cof {ts : List Int} {nb : Int → List Int} {t x : Int} : x ∈ cof ts nb t ↔ x ∈ ts ∧ Eq2 nb t x := by
  unfold cof Eq2
  rw [List.mem_filter, Bool.or_eq_true, Bool.and_eq_true, rpB_iff, rpB_iff, decide_eq_true_eq]
theorem Eq2.symm {nb : Int → List Int} {t x : Int} (h : Eq2 nb t x) : Eq2 nb x t := h.elim (fun e => .inl e.symm) fun z => .inr ⟨z.2, z.1⟩
theorem Eq2.trans {nb : Int → List Int} {t x y : Int} (h : Eq2 nb t x) (h' : Eq2 nb x y) : Eq2 nb t y := by
  rcases h with rfl | ⟨a, b⟩
  · exact h'
  · rcases h' with rfl | ⟨c, d⟩
    · exact .inr ⟨a, b⟩
    · exact .inr ⟨a.trans c, d.trans b⟩
theorem cof_nd {ts : List Int} {nb : Int → List Int} {t : Int} (h : ts.Nodup) : (cof ts nb t).Nodup := h.filter _
noncomputable def stC (ts : List Int) (nb : Int → List Int) (acc : List (List Int)) (t : Int) : List (List Int) := if t ∈ acc.flatten then acc else acc ++ [cof ts nb t]
noncomputable def clsT (ts : List Int) (nb : Int → List Int) (i : Nat) : List (List Int) := (ts.take i).foldl (stC ts nb) []
theorem clsT_succ {ts : List Int} {nb : Int → List Int} {i : Nat} {t : Int} (h : ts[i]? = some t) : clsT ts nb (i + 1) = stC ts nb (clsT ts nb i) t := by
  unfold clsT
  rw [List.take_succ, h, Option.toList_some, List.foldl_append]
  rfl
structure Cin (ts : List Int) (nb : Int → List Int) (i : Nat) (acc : List (List Int)) : Prop where
  from_ : ∀ c ∈ acc, ∃ s ∈ ts.take i, c = cof ts nb s
  each : ∀ s ∈ ts.take i, s ∈ acc.flatten
  nd : acc.flatten.Nodup
  len : acc.length ≤ i
theorem mem_take {ts : List Int} {i : Nat} {x : Int} (h : x ∈ ts.take i) : x ∈ ts := List.mem_of_mem_take h
theorem cof_new {ts : List Int} {nb : Int → List Int} {i : Nat} {t x : Int} {acc : List (List Int)} (C : Cin ts nb i acc) (ht : t ∈ ts) (n : t ∉ acc.flatten) (hx : x ∈ cof ts nb t) : x ∉ acc.flatten := by
  intro h
  obtain ⟨c, hc, hxc⟩ := List.mem_flatten.mp h
  obtain ⟨s, hs, rfl⟩ := C.from_ c hc
  exact n (List.mem_flatten.mpr ⟨_, hc, mem_cof.mpr ⟨ht, (mem_cof.mp hxc).2.trans (mem_cof.mp hx).2.symm⟩⟩)
theorem Cin.all {ts : List Int} {nb : Int → List Int} (nd : ts.Nodup) : ∀ i, i ≤ ts.length → Cin ts nb i (clsT ts nb i)
  | 0, _ => ⟨(fun c h => by unfold clsT at h; simp at h), (fun s h => by simp at h), (by unfold clsT; simp), (by unfold clsT; simp)⟩
  | i + 1, hi => by
    have C := Cin.all (nb := nb) nd i (by omega)
    obtain ⟨t, ht⟩ : ∃ t, ts[i]? = some t := ⟨_, List.getElem?_eq_getElem (by omega)⟩
    have tk : ∀ x, x ∈ ts.take (i + 1) ↔ x ∈ ts.take i ∨ x = t := fun x => by rw [List.take_succ, ht, Option.toList_some, List.mem_append, List.mem_singleton]
    have hts := List.mem_of_getElem? ht
    rw [clsT_succ ht]
    unfold stC
    by_cases c : t ∈ (clsT ts nb i).flatten
    · rw [if_pos c]
      exact ⟨fun d hd => let ⟨s, h1, h2⟩ := C.from_ d hd; ⟨s, (tk s).mpr (.inl h1), h2⟩, fun s hs => ((tk s).mp hs).elim (C.each s) fun e => by rw [e]; exact c, C.nd, Nat.le_succ_of_le C.len⟩
    · rw [if_neg c]
      refine ⟨fun d hd => ?_, fun s hs => ?_, ?_, ?_⟩
      · rcases List.mem_append.mp hd with z | z
        · exact let ⟨s, h1, h2⟩ := C.from_ d z; ⟨s, (tk s).mpr (.inl h1), h2⟩
        · exact ⟨t, (tk t).mpr (.inr rfl), List.mem_singleton.mp z⟩
      · rw [List.flatten_append, List.mem_append]
        rcases (tk s).mp hs with z | z
        · exact .inl (C.each s z)
        · refine .inr ?_
          rw [z]
          simp only [List.flatten_cons, List.flatten_nil, List.append_nil]
          exact mem_cof.mpr ⟨hts, .inl rfl⟩
      · rw [List.flatten_append]
        simp only [List.flatten_cons, List.flatten_nil, List.append_nil]
        exact List.nodup_append.mpr ⟨C.nd, cof_nd nd, fun x hx y hy e => cof_new C hts c hy (by rw [← e]; exact hx)⟩
      · rw [List.length_append, List.length_singleton]
        have := C.len
        omega
/-- at which place its class stands -/
def cix (acc : List (List Int)) (x : Int) : Nat := acc.findIdx fun c => decide (x ∈ c)
theorem cix_old {acc : List (List Int)} {c : List Int} {x : Int} (h : x ∈ acc.flatten) : cix (acc ++ [c]) x = cix acc x := by
  unfold cix
  obtain ⟨d, hd, hx⟩ := List.mem_flatten.mp h
  rw [List.findIdx_append, if_pos (List.findIdx_lt_length.mpr ⟨d, hd, decide_eq_true hx⟩)]
theorem cix_new {acc : List (List Int)} {c : List Int} {x : Int} (h : x ∉ acc.flatten) (hc : x ∈ c) : cix (acc ++ [c]) x = acc.length := by
  unfold cix
  have e : acc.findIdx (fun c => decide (x ∈ c)) = acc.length := List.findIdx_eq_length.mpr fun d hd => decide_eq_false fun z => h (List.mem_flatten.mpr ⟨d, hd, z⟩)
  rw [List.findIdx_append, e, if_neg (Nat.lt_irrefl _)]
  simp [hc]
theorem cix_lt {acc : List (List Int)} {x : Int} (h : x ∈ acc.flatten) : cix acc x < acc.length := by
  obtain ⟨d, hd, hx⟩ := List.mem_flatten.mp h
  exact List.findIdx_lt_length.mpr ⟨d, hd, decide_eq_true hx⟩
theorem cix_mem {acc : List (List Int)} {x : Int} (h : x ∈ acc.flatten) : ∃ c, acc[cix acc x]? = some c ∧ x ∈ c := by
  have lt := cix_lt h
  refine ⟨_, List.getElem?_eq_getElem lt, ?_⟩
  have := List.findIdx_getElem (p := fun c => decide (x ∈ c)) (w := lt)
  exact of_decide_eq_true this
theorem cix_at {acc : List (List Int)} (nd : acc.flatten.Nodup) {i : Nat} {c : List Int} {x : Int} (h : acc[i]? = some c) (hx : x ∈ c) : cix acc x = i := by
  obtain ⟨hi, rfl⟩ := List.getElem?_eq_some_iff.mp h
  have hm : x ∈ acc.flatten := List.mem_flatten.mpr ⟨_, List.getElem_mem hi, hx⟩
  have lt := cix_lt hm
  obtain ⟨c2, h2, hx2⟩ := cix_mem hm
  obtain ⟨_, rfl⟩ := List.getElem?_eq_some_iff.mp h2
  have pw := (List.pairwise_flatten.mp nd).2
  rcases Nat.lt_trichotomy (cix acc x) i with z | z | z
  · exact absurd rfl (List.pairwise_iff_getElem.mp pw _ _ lt hi z x hx2 x hx)
  · exact z
  · exact absurd rfl (List.pairwise_iff_getElem.mp pw _ _ hi lt z x hx x hx2)
/-- the arrows between the classes -/
def qps (cl : List (List Int)) (ps : List I2) : List I2 := (ps.filter fun p => decide ((cix cl p.1 : Int) ≠ cix cl p.2)).map fun p => ((cix cl p.1 : Int), (cix cl p.2 : Int))
def upI (n : Nat) : List Int := (List.range n).map fun i : Nat => (i : Int)
def grpL (cl : List (List Int)) (ps : List I2) : List (List Int) := (lay (qps cl ps) cl.length (srt (upI cl.length))).map fun i => cl.getD i.toNat []
theorem upI_len (n : Nat) : (upI n).length = n := by unfold upI; simp
theorem mem_upI {n : Nat} {i : Int} : i ∈ upI n ↔ ∃ k : Nat, k < n ∧ i = k := by
  unfold upI
  rw [List.mem_map]
  constructor
  · rintro ⟨k, hk, rfl⟩
    exact ⟨k, List.mem_range.mp hk, rfl⟩
  · rintro ⟨k, hk, rfl⟩
    exact ⟨k, List.mem_range.mpr hk, rfl⟩
theorem upI_pw (n : Nat) : (upI n).Pairwise (· < ·) := by
  unfold upI
  refine List.pairwise_map.mpr ((List.pairwise_lt_range (n := n)).imp fun h => ?_)
  omega
theorem upI_nd (n : Nat) : (upI n).Nodup := (upI_pw n).imp fun h => by omega
theorem srt_up (n : Nat) : srt (upI n) = upI n := (srt_uniq (.refl _) ((upI_pw n).imp fun h => by omega)).symm
theorem lay_sub (ps : List I2) : ∀ (n : Nat) (left : List Int), ∀ x ∈ lay ps n left, x ∈ left
  | 0, _, x, h => nomatch h
  | n + 1, left, x, h => by
    rw [lay_succ] at h
    split at h
    · cases h
    · rename_i y l e
      have hy : y ∈ left := (List.mem_filter.mp (e ▸ List.mem_cons_self)).1
      rcases List.mem_cons.mp h with rfl | h
      · exact hy
      · exact List.mem_of_mem_erase (lay_sub ps n _ x h)
theorem lay_nd (ps : List I2) : ∀ (n : Nat) (left : List Int), left.Nodup → (lay ps n left).Nodup
  | 0, _, _ => .nil
  | n + 1, left, nd => by
    rw [lay_succ]
    split
    · exact .nil
    · rename_i y l e
      refine List.nodup_cons.mpr ⟨fun h => ?_, lay_nd ps n _ (nd.erase y)⟩
      exact (nd.mem_erase_iff.mp (lay_sub ps n _ y h)).1 rfl
/-- the law's order: those that hide nothing left, the first of them -/
def ino (fr : Int → Int → Bool) : Nat → List (List Int) → List (List Int)
  | 0, _ => []
  | n + 1, left => match left.filter fun row => (left.filter fun o => decide (o ≠ row) && fr (row.headD 0) (o.headD 0)).isEmpty with
    | [] => []
    | x :: _ => x :: ino fr n (left.filter fun row => decide (row ≠ x))
theorem ino_lay {cl : List (List Int)} {ps : List I2} {fr : Int → Int → Bool} (nd : cl.flatten.Nodup) (ne : ∀ c ∈ cl, c ≠ []) (ends : ∀ p ∈ ps, p.1 ∈ cl.flatten ∧ p.2 ∈ cl.flatten)
    (h1 : ∀ p ∈ ps, ∀ c ∈ cl, ∀ d ∈ cl, p.1 ∈ c → p.2 ∈ d → fr (c.headD 0) (d.headD 0) = true)
    (h2 : ∀ x y, fr x y = true → Rp (fun a => (ps.filter fun p => decide (p.1 = a)).map (·.2)) x y) :
    ∀ (n : Nat) (left : List Int), left.Nodup → (∀ i ∈ left, ∃ k : Nat, k < cl.length ∧ i = k) → (∀ p ∈ qps cl ps, p.1 ∉ left → p.2 ∉ left) → ino fr n (left.map fun i => cl.getD i.toNat []) = (lay (qps cl ps) n left).map fun i => cl.getD i.toNat []
  | 0, _, _, _, _ => rfl
  | n + 1, left, lnd, lin, clo => by
    have at_ : ∀ i ∈ left, ∃ c, cl[i.toNat]? = some c ∧ cl.getD i.toNat [] = c := fun i hi => by
      obtain ⟨k, hk, rfl⟩ := lin i hi
      refine ⟨_, List.getElem?_eq_getElem (by simpa using hk), ?_⟩
      rw [List.getD_eq_getElem?_getD, List.getElem?_eq_getElem (by simpa using hk)]
      rfl
    have inj : ∀ i ∈ left, ∀ j ∈ left, cl.getD i.toNat [] = cl.getD j.toNat [] → i = j := fun i hi j hj e => by
      obtain ⟨c, hc, ec⟩ := at_ i hi
      obtain ⟨d, hd, ed⟩ := at_ j hj
      rw [ec, ed] at e
      subst e
      obtain ⟨x, hx⟩ := List.exists_mem_of_ne_nil c (ne c (List.mem_of_getElem? hc))
      have a := cix_at nd hc hx
      have b := cix_at nd hd hx
      obtain ⟨k, _, rfl⟩ := lin i hi
      obtain ⟨m, _, rfl⟩ := lin j hj
      simp at a b
      omega
    have hd : ∀ c ∈ cl, c.headD 0 ∈ c := fun c hc => by
      cases c with
      | nil => exact absurd rfl (ne _ hc)
      | cons x l => exact List.mem_cons_self
    have ready : ∀ i ∈ left, (((left.map fun i => cl.getD i.toNat []).filter fun o => decide (o ≠ cl.getD i.toNat []) && fr ((cl.getD i.toNat []).headD 0) (o.headD 0)).isEmpty) = decide (many (qps cl ps) left i = 0) := fun i hi => by
      obtain ⟨c, hc, ec⟩ := at_ i hi
      have cm := List.mem_of_getElem? hc
      rw [Bool.eq_iff_iff, List.isEmpty_iff, List.filter_eq_nil_iff, decide_eq_true_eq]
      unfold many
      rw [List.length_eq_zero_iff, List.filter_eq_nil_iff]
      constructor
      · rintro H q hq hb
        obtain ⟨e1, e2⟩ := of_decide_eq_true hb
        unfold qps at hq
        obtain ⟨p, hp, rfl⟩ := List.mem_map.mp hq
        obtain ⟨hp, hn⟩ := List.mem_filter.mp hp
        have hn := of_decide_eq_true hn
        have e1 : (cix cl p.1 : Int) = i := e1
        have e2 : (cix cl p.2 : Int) ∈ left := e2
        obtain ⟨d, hd2, ed⟩ := at_ _ e2
        obtain ⟨c1, hc1, x1⟩ := cix_mem (ends p hp).1
        obtain ⟨c2, hc2, x2⟩ := cix_mem (ends p hp).2
        have q1 : c1 = c := by
          have : i.toNat = cix cl p.1 := by rw [← e1]; rfl
          rw [this, hc1] at hc
          exact Option.some.inj hc
        have q2 : c2 = d := by
          have : ((cix cl p.2 : Nat) : Int).toNat = cix cl p.2 := rfl
          rw [this, hc2] at hd2
          exact Option.some.inj hd2
        subst q1 q2
        refine H c2 (List.mem_map.mpr ⟨_, e2, ed⟩) ?_
        rw [Bool.and_eq_true, decide_eq_true_eq, ec]
        refine ⟨fun e => hn ?_, h1 p hp c1 cm c2 (List.mem_of_getElem? hc2) x1 x2⟩
        have := inj _ hi _ e2 (by rw [ec, ed, e])
        rw [← this, e1]
      · rintro H o ho hb
        obtain ⟨j, hj, rfl⟩ := List.mem_map.mp ho
        obtain ⟨d, hd2, ed⟩ := at_ j hj
        rw [Bool.and_eq_true, decide_eq_true_eq, ec, ed] at hb
        obtain ⟨hne, hf⟩ := hb
        have walk : ∀ y, Rp (fun a => (ps.filter fun p => decide (p.1 = a)).map (·.2)) (c.headD 0) y → y ∈ cl.flatten ∧ ((cix cl y : Int) = i ∨ (cix cl y : Int) ∉ left) := by
          intro y r
          have st : ∀ a b : Int, b ∈ (ps.filter fun p => decide (p.1 = a)).map (·.2) → ((cix cl a : Int) = i ∨ (cix cl a : Int) ∉ left) → b ∈ cl.flatten ∧ ((cix cl b : Int) = i ∨ (cix cl b : Int) ∉ left) := by
            intro a b hb ha
            obtain ⟨p, hpf, rfl⟩ := List.mem_map.mp hb
            obtain ⟨hp, e⟩ := List.mem_filter.mp hpf
            obtain rfl : p.1 = a := of_decide_eq_true e
            clear hpf
            refine ⟨(ends p hp).2, ?_⟩
            by_cases same : (cix cl p.1 : Int) = cix cl p.2
            · rw [← same]; exact ha
            · have hq : ((cix cl p.1 : Int), (cix cl p.2 : Int)) ∈ qps cl ps := by
                unfold qps
                exact List.mem_map.mpr ⟨p, List.mem_filter.mpr ⟨hp, decide_eq_true same⟩, rfl⟩
              refine .inr ?_
              rcases ha with ha | ha
              · intro hl
                exact H _ hq (decide_eq_true ⟨ha, hl⟩)
              · exact clo _ hq ha
          have h0 : (cix cl (c.headD 0) : Int) = i := by
            rw [cix_at nd hc (hd c cm)]
            obtain ⟨k, _, rfl⟩ := lin i hi
            rfl
          induction r with
          | one m => exact st _ _ m (.inl h0)
          | more _ m ih => exact st _ _ m ih.2
        have dm := List.mem_of_getElem? hd2
        have := (walk _ (h2 _ _ hf)).2
        have ej : (cix cl (d.headD 0) : Int) = j := by
          rw [cix_at nd hd2 (hd d dm)]
          obtain ⟨k, _, rfl⟩ := lin j hj
          rfl
        rw [ej] at this
        rcases this with z | z
        · subst z
          exact hne (ed.symm.trans ec)
        · exact z hj
    have e1 : (left.map fun i => cl.getD i.toNat []).filter (fun row => ((left.map fun i => cl.getD i.toNat []).filter fun o => decide (o ≠ row) && fr (row.headD 0) (o.headD 0)).isEmpty) = (left.filter fun t => decide (many (qps cl ps) left t = 0)).map fun i => cl.getD i.toNat [] := by
      rw [List.filter_map]
      congr 1
      exact List.filter_congr fun i hi => ready i hi
    unfold ino
    rw [lay_succ, e1]
    cases q : left.filter (fun t => decide (many (qps cl ps) left t = 0)) with
    | nil => rfl
    | cons x l =>
      have hx := List.mem_filter.mp (q ▸ List.mem_cons_self : x ∈ left.filter _)
      have e2 : (left.map fun i => cl.getD i.toNat []).filter (fun row => decide (row ≠ cl.getD x.toNat [])) = (left.erase x).map fun i => cl.getD i.toNat [] := by
        rw [List.filter_map, lnd.erase_eq_filter]
        congr 1
        refine List.filter_congr fun i hi => ?_
        show decide _ = _
        by_cases c : i = x
        · subst c; simp
        · have : cl.getD i.toNat [] ≠ cl.getD x.toNat [] := fun e => c (inj i hi x hx.1 e)
          have e1 : decide (cl.getD i.toNat [] ≠ cl.getD x.toNat []) = true := decide_eq_true this
          have e2 : (i != x) = true := bne_iff_ne.mpr c
          exact e1.trans e2.symm
      show _ :: ino fr n _ = _ :: _
      dsimp only
      rw [e2, ino_lay nd ne ends h1 h2 n (left.erase x) (lnd.erase x) (fun i hi => lin i (List.mem_of_mem_erase hi)) fun p hp hn hl => ?_]
      have hl := List.mem_of_mem_erase hl
      by_cases c : p.1 ∈ left
      · have ex : p.1 = x := Classical.byContradiction fun z => hn ((lnd.mem_erase_iff).mpr ⟨z, c⟩)
        have z := of_decide_eq_true hx.2
        unfold many at z
        rw [List.length_eq_zero_iff, List.filter_eq_nil_iff] at z
        exact z p hp (decide_eq_true ⟨ex, hl⟩)
      · exact clo p hp c hl
end K14
set_option maxHeartbeats 800000
namespace K14
open PySem L2 DL
local macro_rules | `(tactic| walk_at "w") => `(tactic| simp only [wSeq, wAugD, wAugN, fSetI, fLenS, fInS, fSort, fSortD, fSortSetI, fSortSetP, fRem, wNext, wIf, wRet, wRetN, wDrop, wAsg, gN, wVar, wC, wOp, wUn, wNil, wCons, wCB, wTup, wLst, wLstF, wTe, tB0, wAnd, wOr, wNot, wAndV, wOrV, wNotV, wIfE, wCall, wCallG, wRaise, wFrz, fFrz, rets, fI, fI0, fAdd, fSub, fMul, fLt, fLe, fGt, fGe, fMod, fModN, fPow, fDiv, fDivG, fNeg, fEq, fNe, eqF_int, eqF_bl, eqF_str, scal_int, scal_bl, scal_str, fLen, sv, fIx, fAbs, fInt, fList, wSl, fSlL, oNo, oSo, lvr, lv, fCat, wMeL, fApp, fPop, fSetL, gSb, iLs, iTp, iR1, iR2, wFor, gTp, gCn, gNl, wPar, wBrk, wCnt, fIsi, wIsx, wLc, wYes, wip, wTr, truD, wTry, clrD, wFld, fieldsD, wSetF, wMeth, wMake, wIsX, wXf, wTryX, wRaiseL, wRaiseV, fCatM, fEqL, fStrI, fFmt, wJoin, wJs, wChain, wLc2, wLR, wProp, fRepT, wDIn, wDNewT, fSetD, iR3, gLs, fIns, fPopAt, fClear, fTuple, fMin2, fMaxL, fAny, iEn, wRev, fRev, wDNew, wDNewF, wDsp1, wDsp1F, fAddS, fIsN, fNotN, um_same, um_um, st0, List.map_cons, List.map_nil, List.length_cons, List.length_nil, List.getElem?_cons_zero, List.getElem?_cons_succ, List.set_cons_zero, List.set_cons_succ, List.cons_append, List.nil_append, List.replicate, atI_c0, atI_c1, atI_c2, atI_c3, atI_c4, atI_c5, atI_c6, ixN_70, ixN_71, ixN_72, ixN_73, ixN_74, ixN_75, ixN_76, Nat.reduceAdd, Int.reduceToNat, Int.reducePow, ite_T, ite_F, if_dec, if_ndec, if_nb, true_and, if_true, Bool.false_eq_true, if_false])
local macro_rules | `(tactic| walk_at "v") => `(tactic| simp only [wSeq, wAugD, wAugN, fSetI, fLenS, fInS, fSort, fSortD, fSortSetI, fSortSetP, fRem, wNext, wIf, wRet, wRetN, wDrop, wAsg, gN, wVar, wC, wOp, wUn, wNil, wCons, wCB, wTup, wLst, wLstF, wTe, tB0, wAnd, wOr, wNot, wAndV, wOrV, wNotV, wIfE, wCall, wCallG, wRaise, wFrz, fFrz, rets, fI, fI0, fAdd, fSub, fMul, fLt, fLe, fGt, fGe, fMod, fModN, fPow, fDiv, fDivG, fNeg, fEq, fNe, eqF_int, eqF_bl, eqF_str, scal_int, scal_bl, scal_str, fLen, sv, fIx, fAbs, fInt, fList, wSl, fSlL, oNo, oSo, lvr, lv, fCat, wMeL, fApp, fPop, fSetL, gSb, gTp, gCn, gNl, wPar, wBrk, wCnt, fIsi, wIsx, wYes, wip, wTr, truD, wTry, clrD, wFld, fieldsD, wSetF, wMeth, wMake, wIsX, wXf, wTryX, wRaiseL, wRaiseV, fCatM, fEqL, fStrI, fFmt, wJoin, wJs, wChain, wLR, wProp, fRepT, wDIn, wDNewT, fSetD, gLs, fIns, fPopAt, fClear, fTuple, fMin2, fMaxL, fAny, wRev, fRev, wDNew, wDNewF, wDsp1, wDsp1F, fAddS, fIsN, fNotN, um_same, um_um, st0, List.map_cons, List.map_nil, List.length_cons, List.length_nil, List.getElem?_cons_zero, List.getElem?_cons_succ, List.set_cons_zero, List.set_cons_succ, List.cons_append, List.nil_append, List.replicate, atI_c0, atI_c1, atI_c2, atI_c3, atI_c4, atI_c5, atI_c6, ixN_70, ixN_71, ixN_72, ixN_73, ixN_74, ixN_75, ixN_76, Nat.reduceAdd, Int.reduceToNat, Int.reducePow, ite_T, ite_F, if_dec, if_ndec, if_nb, true_and, if_true, Bool.false_eq_true, if_false])
local macro_rules | `(tactic| walk_at "u") => `(tactic| simp only [wSeq, wAugD, wAugN, fSetI, fLenS, fInS, fSort, fSortD, fSortSetI, fSortSetP, fRem, wNext, wIf, wRet, wRetN, wDrop, wAsg, gN, wVar, wC, wOp, wUn, wNil, wCons, wCB, wTup, wLst, wLstF, wTe, tB0, wAnd, wOr, wNot, wAndV, wOrV, wNotV, wIfE, wCall, wCallG, wRaise, rets, fI, fI0, fAdd, fSub, fMul, fLt, fLe, fGt, fGe, fMod, fModN, fPow, fDiv, fDivG, fNeg, fEq, fNe, eqF_int, eqF_bl, eqF_str, scal_int, scal_bl, scal_str, fLen, sv, fIx, fAbs, fInt, fList, wSl, fSlL, oNo, oSo, lvr, lv, fCat, wMeL, fApp, fPop, fSetL, gSb, gTp, gCn, gNl, wPar, wBrk, wCnt, fIsi, wIsx, wYes, wip, wTr, truD, wTry, clrD, wFld, fieldsD, wSetF, wMeth, wMake, wIsX, wXf, wTryX, wRaiseL, wRaiseV, fCatM, fEqL, fStrI, fFmt, wJoin, wJs, wChain, wLR, wProp, fRepT, wDIn, wDNewT, fSetD, gLs, fIns, fPopAt, fClear, fTuple, fMin2, fMaxL, fAny, wRev, fRev, wDNew, wDNewF, wDsp1, wDsp1F, fAddS, fIsN, fNotN, um_same, um_um, st0, List.map_cons, List.map_nil, List.length_cons, List.length_nil, List.getElem?_cons_zero, List.getElem?_cons_succ, List.set_cons_zero, List.set_cons_succ, List.cons_append, List.nil_append, List.replicate, atI_c0, atI_c1, atI_c2, atI_c3, atI_c4, atI_c5, atI_c6, ixN_70, ixN_71, ixN_72, ixN_73, ixN_74, ixN_75, ixN_76, Nat.reduceAdd, Int.reduceToNat, Int.reducePow, ite_T, ite_F, if_dec, if_ndec, if_nb, true_and, if_true, Bool.false_eq_true, if_false])
/-! ### the groups of a web -/
theorem eqv_int (a b : Int) : PyData.eqv (.int a) (.int b) = decide (a = b) := by
  first
    | rfl
    | (simp [PyData.eqv]; done)
    | (unfold PyData.eqv; rfl)
theorem any_int (ns : List Int) (t : Int) : ((ns.map PyData.int).any fun z => PyData.eqv z (.int t)) = decide (t ∈ ns) := by
  rw [List.any_map, Bool.eq_iff_iff, List.any_eq_true, decide_eq_true_eq]
  constructor
  · rintro ⟨x, hx, e⟩
    have e : PyData.eqv (.int x) (.int t) = true := e
    rw [eqv_int] at e
    rw [← of_decide_eq_true e]; exact hx
  · intro h
    exact ⟨t, h, by show PyData.eqv (.int t) (.int t) = true; rw [eqv_int]; exact decide_eq_true rfl⟩
theorem in_ints {neg : Bool} {t : Int} {ns : List Int} {y : D} {μ : Mu} {Q : D → Mu → Prop} (hy : lvr μ y = some (ns.map D.int)) (q : Q (.bl (if neg = true then !decide (t ∈ ns) else decide (t ∈ ns))) μ) : fInD neg (.int t) y μ Q := by
  refine ⟨.int t, _, _, rfl, hy, toPs_ints ns, rfl, shaped_ints ns, ?_⟩
  rw [any_int]
  exact q
theorem atI_last (l : List D) (x : D) : atI (l ++ [x]) (-1) = some x := by
  unfold atI ixN
  simp
  rw [if_pos (by omega)]
  have : (-1 + ((l.length : Int) + 1)).toNat = l.length := by omega
  simp [this]
theorem fIx_cell {μ : Mu} {p : Addr} {i : Int} {l : List D} {d : D} {R : D → Mu → Prop} (h : μ p = some (.lst l)) (e : atI l i = some d) (q : R d μ) : fIx (.mut p) (.int i) μ R := by
  unfold fIx sv
  dsimp only
  rw [h]
  dsimp only
  rw [e]
  exact q
theorem atI_nat (l : List D) (i : Nat) : atI l (i : Nat) = l[i]? := by
  unfold atI ixN
  by_cases c : i < l.length
  · have h1 : (0 : Int) ≤ (i : Nat) := by omega
    have h2 : ((i : Nat) : Int) < (l.length : Nat) := by omega
    simp [h1, h2]
  · have h2 : ¬ ((i : Nat) : Int) < (l.length : Nat) := by omega
    rw [List.getElem?_eq_none (by omega)]
    simp [h2]
/-- what t is reached by -/
noncomputable def rch (ts : List Int) (nb : Int → List Int) (t : Int) : List Int := ts.filter (rpB nb t)
theorem rch_uniq {ts : List Int} {nb : Int → List Int} {t : Int} {r : List Int} (pw : ts.Pairwise (· < ·)) (ht : t ∈ ts) (hn : ∀ x ∈ ts, ∀ y ∈ nb x, y ∈ ts) (h1 : r.Pairwise (· < ·)) (h2 : ∀ x, x ∈ r ↔ Rp nb t x) : r = rch ts nb t := by
  refine lt_uniq (fun k => ?_) h1 (pw.filter _)
  unfold rch
  rw [h2, List.mem_filter, rpB_iff]
  exact ⟨fun h => ⟨h.mem hn ht, h⟩, fun h => h.2⟩
/-- what the program makes of them is the class -/
theorem srt_both {ts : List Int} {nb : Int → List Int} {t : Int} (pw : ts.Pairwise (· < ·)) (ht : t ∈ ts) : srt ((rch ts nb t).filter (fun x => decide (x ≠ t) && rpB nb x t) ++ [t]) = cof ts nb t := by
  have nd : ((rch ts nb t).filter (fun x => decide (x ≠ t) && rpB nb x t) ++ [t]).Nodup := by
    refine List.nodup_append.mpr ⟨((pw.filter _).imp fun h => by omega : (rch ts nb t).Nodup).filter _, by simp, fun x hx y hy e => ?_⟩
    rw [List.mem_singleton.mp hy] at e
    have := (List.mem_filter.mp hx).2
    rw [e] at this
    simp at this
  refine lt_uniq (fun k => ?_) ?_ (pw.filter _)
  · rw [mem_srt, List.mem_append, List.mem_singleton, List.mem_filter, mem_cof]
    unfold rch Eq2
    rw [List.mem_filter, Bool.and_eq_true, rpB_iff, rpB_iff, decide_eq_true_eq]
    constructor
    · rintro (⟨⟨h1, h2⟩, h3, h4⟩ | h)
      · exact ⟨h1, .inr ⟨h2, h4⟩⟩
      · rw [h]; exact ⟨ht, .inl rfl⟩
    · rintro ⟨h1, h | ⟨h2, h3⟩⟩
      · exact .inr h
      · by_cases c : k = t
        · exact .inr c
        · exact .inl ⟨⟨h1, h2⟩, c, h3⟩
  · have hnd := (srt_perm ((rch ts nb t).filter (fun x => decide (x ≠ t) && rpB nb x t) ++ [t])).nodup_iff.mpr nd
    exact List.Pairwise.imp (fun ⟨a, b⟩ => by omega) (List.Pairwise.and (srt_pw _) hnd)
noncomputable def clsA (ts : List Int) (ps : List I2) : List (List Int) := clsT ts (dirL ps) ts.length
noncomputable def grps (ts : List Int) (ps : List I2) : List (List Int) := grpL (clsA ts ps) ps
def c_groups (A : Ad) : Ct := fun ds μ Q _ => match ds with
  | [.mut q] => ∃ (ts : List Int) (ps : List I2), μ q = some (.ins (A.g "Web") (webF ts ps)) ∧ ts.Pairwise (· < ·) ∧ ts.length ≤ 40 ∧ ps.length ≤ 1000 ∧ (∀ p ∈ ps, p.1 ∈ ts ∧ p.2 ∈ ts) ∧
    ∀ (p : Addr) (cs : List Addr), (p :: cs).Nodup → (∀ a ∈ p :: cs, μ a = none) → cs.length = (grps ts ps).length → Q (.mut p) (um (umz μ cs ((grps ts ps).map fun c => c.map D.int)) p (.lst (cs.map D.mut)))
  | _ => False
abbrev s_groups : Stmt := top 15
theorem sc_groups : FnScope ["web", "tags", "hiders", "reach", "tag", "home", "parts", "both", "one", "pairs", "a", "b", "at"] ["web"] (defScope s_groups) := ⟨rfl, rfl, rfl, by decide +kernel, rfl, by decide +kernel, by decide +kernel⟩
def w_groups_7 (A : Ad) (E : EX) : WS := (wRet (wLc (iLs (wCall (c_laid_out A) E (wCons (wFrz (wLR (wCB fLen (wCons (wVar 6) wNil)))) (wCons (wVar 9) wNil)))) 12 [12] wYes (wOp fIx (wVar 6) (wVar 12))))
def w_groups_6 (A : Ad) (E : EX) : WS := (wSeq (wAsg (wFrz (wLc2 (iLs (wProp (A.g "Web") (c_Web_arrows A) (wVar 0))) 10 11 [10, 11] (wTe (wOp fNe (wOp fDGet (wVar 5) (wVar 10)) (wOp fDGet (wVar 5) (wVar 11)))) (wTup (wCons (wOp fDGet (wVar 5) (wVar 10)) (wCons (wOp fDGet (wVar 5) (wVar 11)) wNil))))) (gN 9))
  (w_groups_7 A E))
def w_groups_b1 (A : Ad) (E : EX) : WS := (wAsg (wOp fSub (wCB fLen (wCons (wVar 6) wNil)) (wC (.int (1)))) (gSb fSetD (wVar 5) (wVar 8)))
def w_groups_b2 (A : Ad) (E : EX) : WS := (wIf (wTe (wDIn true (wVar 4) (wVar 5))) (wSeq (wAsg (wFrz (wLc (iLs (wOp fDGet (wVar 3) (wVar 4))) 8 [8] (wAnd (wTe (wOp fNe (wVar 8) (wVar 4))) (wTe (wOp (fInD false) (wVar 4) (wOp fDGet (wVar 3) (wVar 8))))) (wVar 8))) (gN 7))
  (wSeq (wDrop (wMeL fApp (wVar 6) (wCons (wCB fSort (wCons (wOp fCat (wVar 7) (wLstF (wCons (wVar 4) wNil))) wNil)) wNil)))
  (wFor (iLs (wOp fIx (wVar 6) (wUn fNeg (wC (.int (1)))))) (gN 8) (w_groups_b1 A E)))) wNext)
def w_groups_5 (A : Ad) (E : EX) : WS := (wSeq (wFor (iLs (wVar 1)) (gN 4) (w_groups_b2 A E))
  (w_groups_6 A E))
def w_groups_4 (A : Ad) (E : EX) : WS := (wSeq (wAsg (wLst wNil) (gN 6))
  (w_groups_5 A E))
def w_groups_3 (A : Ad) (E : EX) : WS := (wSeq (wAsg wDNew (gN 5))
  (w_groups_4 A E))
def w_groups (A : Ad) (E : EX) : WS := (wSeq (wAsg (wProp (A.g "Web") (c_Web_tags A) (wVar 0)) (gN 1))
  (wSeq (wAsg (wCall (c_gathered A) E (wCons (wVar 1) (wCons (wProp (A.g "Web") (c_Web_arrows A) (wVar 0)) wNil))) (gN 2))
  (wSeq (wAsg (wDc (iLs (wVar 1)) 4 [4] wYes (wVar 4) (wCall (c_reached A) noE (wCons (wVar 2) (wCons (wVar 4) wNil)))) (gN 3))
  (w_groups_3 A E))))
theorem le_um3 {μ : Mu} {a b c : Addr} {X Y Z : MO} (ha : μ a = none) (hb : μ b = none) (hc : μ c = none) (hab : a ≠ b) (hac : a ≠ c) (hbc : b ≠ c) : le μ (um (um (um μ a X) b Y) c Z) :=
  (le.um ha).trans ((le.um (by rw [um_ne (Ne.symm hab)]; exact hb)).trans (le.um (by rw [um_ne (Ne.symm hbc), um_ne (Ne.symm hac)]; exact hc)))
def rcK (ts : List Int) (nb : Int → List Int) (l : List Int) : List (Key × D) := l.map fun x => (Sum.inl x, .lst ((ts.filter fun y => y ∈ nb x).map D.int))
noncomputable def rhK (ts : List Int) (nb : Int → List Int) (l : List Int) : List (Key × D) := l.map fun x => (Sum.inl x, .lst ((rch ts nb x).map D.int))
theorem pure_groups (A : Ad) (ds μ Q E0) (h : c_groups A ds μ Q E0) : w_groups A (fun C fs _ μ => dwx E0 C fs μ) (rets Q) (st0 13 ds) μ := by
  unfold c_groups at h
  split at h
  · rename_i q
    obtain ⟨ts, ps, hq, pw, hl, hz, hg, h⟩ := h
    have nd : ts.Nodup := pw.imp fun h => by omega
    have hnb : ∀ x ∈ ts, ∀ y ∈ dirL ps x, y ∈ ts := fun x _ y hy => (hg _ (mem_dirL.mp hy)).1
    generalize hnbe : dirL ps = nb at hnb
    have gth : gthD ts ps = tabD ts nb := by rw [← hnbe]; rfl
    have rq : ∀ t ∈ ts, ∀ r : List Int, r.Pairwise (· < ·) → (∀ x, x ∈ r ↔ Rp nb t x) → r = rch ts nb t := fun t ht r h1 h2 => rch_uniq pw ht hnb h1 h2
    generalize hcl : clsA ts ps = cl at *
    have hclT : clsT ts nb ts.length = cl := by rw [← hcl, ← hnbe]; rfl
    unfold w_groups
    walk_at "v"
    refine ⟨⟨_, by rw [hq]⟩, ts, ps, hq, ⟨_, by rw [hq]⟩, ts, ps, hq, ts, ps, rfl, rfl, nd, by omega, by omega, fun p hp => (hg p hp).2, ?_⟩
    rw [gth]
    refine dc_lst rfl fun r hr => ⟨fun i μ' => μ' = um μ r (.dK (rhK ts nb (ts.take i))), show um μ r _ = um μ r _ by rw [List.take_zero]; rfl, ?_, ?_⟩
    · rintro i d μ' hd rfl
      obtain ⟨t, ht, rfl⟩ := map_at hd
      have hts := List.mem_of_getElem? ht
      walk_at "v"
      refine ⟨ts, nb, rfl, nd, by omega, hts, hnb, fun s h1 h2 => ⟨_, Sum.inl t, um_same, rfl, ?_, ?_⟩⟩
      · unfold rhK
        rw [List.length_map, List.length_take]
        omega
      · rw [um_um, rq t hts s h1 h2]
        unfold rhK
        rw [put_new (h := fun x => D.lst ((rch ts nb x).map D.int)) (not_take nd ht), List.take_succ, ht, Option.toList_some, List.map_append]
        rfl
    · rintro μ' rfl
      rw [List.length_map, List.take_length]
      unfold w_groups_3
      walk_at "v"
      intro hm hhm
      unfold w_groups_4
      walk_at "v"
      refine ⟨by decide, fun pt hpt => ?_⟩
      have d1 : r ≠ hm := fun e => by rw [← e, um_same] at hhm; cases hhm
      have d3 : hm ≠ pt := fun e => by rw [← e, um_same] at hpt; cases hpt
      have d2 : r ≠ pt := fun e => by rw [← e, um_ne d1, um_same] at hpt; cases hpt
      rw [um_ne (Ne.symm d1)] at hhm
      rw [um_ne (Ne.symm d3), um_ne (Ne.symm d2)] at hpt
      unfold w_groups_5
      walk_at "v"
      have g1 : ∀ (X Y Z : MO) (cs : List Addr) (ls : List (List D)), (r ∉ cs) → umz (um (um (um μ r X) hm Y) pt Z) cs ls r = some X := fun X Y Z cs ls n => by rw [umz_not n, um_ne d2, um_ne d1, um_same]
      have g2 : ∀ (X Y Z : MO) (cs : List Addr) (ls : List (List D)), (hm ∉ cs) → umz (um (um (um μ r X) hm Y) pt Z) cs ls hm = some Y := fun X Y Z cs ls n => by rw [umz_not n, um_ne d3, um_same]
      have g3 : ∀ (X Y Z : MO) (cs : List Addr) (ls : List (List D)), (pt ∉ cs) → umz (um (um (um μ r X) hm Y) pt Z) cs ls pt = some Z := fun X Y Z cs ls n => by rw [umz_not n, um_same]
      have s2 : ∀ (X Y Y' Z : MO) (cs : List Addr) (ls : List (List D)), (hm ∉ cs) → um (umz (um (um (um μ r X) hm Y) pt Z) cs ls) hm Y' = umz (um (um (um μ r X) hm Y') pt Z) cs ls := fun X Y Y' Z cs ls n => by rw [um_umz n, um_comm (Ne.symm d3), um_um]
      have s3 : ∀ (X Y Z Z' : MO) (cs : List Addr) (ls : List (List D)), (pt ∉ cs) → um (umz (um (um (um μ r X) hm Y) pt Z) cs ls) pt Z' = umz (um (um (um μ r X) hm Y) pt Z') cs ls := fun X Y Z Z' cs ls n => by rw [um_umz n, um_um]
      have fr : ∀ (X Y Z : MO) (cs : List Addr) (ls : List (List D)), (∀ a ∈ cs, μ a = none) → r ∉ cs → hm ∉ cs → pt ∉ cs → cs.Nodup → cs.length = ls.length → ∀ c, umz (um (um (um μ r X) hm Y) pt Z) cs ls c = none → μ c = none ∧ c ≠ r ∧ c ≠ hm ∧ c ≠ pt ∧ c ∉ cs := fun X Y Z cs ls hf n1 n2 n3 hn hcl c hc => by
        have m : c ∉ cs := fun z => by
          obtain ⟨k, hk, e⟩ := List.getElem_of_mem z
          have := umz_get (μ := um (um (um μ r X) hm Y) pt Z) (ls := ls) hn (List.getElem?_eq_getElem hk) (List.getElem?_eq_getElem (by omega))
          rw [e, hc] at this
          cases this
        have c1 : c ≠ r := fun e => by rw [e, g1 _ _ _ _ _ n1] at hc; cases hc
        have c2 : c ≠ hm := fun e => by rw [e, g2 _ _ _ _ _ n2] at hc; cases hc
        have c3 : c ≠ pt := fun e => by rw [e, g3 _ _ _ _ _ n3] at hc; cases hc
        rw [umz_not m, um_ne c3, um_ne c2, um_ne c1] at hc
        exact ⟨hc, c1, c2, c3, m⟩
      refine for_lv2 (d := .lst (ts.map D.int)) (l := ts.map D.int) rfl rfl (fun i ρ' μ' => ∃ (cs : List Addr) (r4 r7 r8 : Option D), cs.length = (clsT ts nb i).length ∧ cs.Nodup ∧ (∀ a ∈ cs, μ a = none) ∧ r ∉ cs ∧ hm ∉ cs ∧ pt ∉ cs ∧
        μ' = umz (um (um (um μ r (.dK (rhK ts nb ts))) hm (.dK (mnK (clsT ts nb i).flatten fun x => (cix (clsT ts nb i) x : Nat)))) pt (.lst (cs.map D.mut))) cs ((clsT ts nb i).map fun c => c.map D.int) ∧
        ρ' = [some (.mut q), some (.lst (ts.map D.int)), some (tabD ts nb), some (.mut r), r4, some (.mut hm), some (.mut pt), r7, r8, none, none, none, none]) ⟨[], _, _, _, rfl, .nil, (fun a z => nomatch z), by simp, by simp, by simp, rfl, rfl⟩ (fun _ _ _ _ => rfl) ?_ ?_
      · rintro i e ρ' μ' he ⟨cs, r4, r7, r8, hcs, csn, csf, n1, n2, n3, rfl, rfl⟩
        obtain ⟨t, ht, rfl⟩ := map_at he
        have hts := List.mem_of_getElem? ht
        have hi := (List.getElem?_eq_some_iff.mp ht).1
        have C := Cin.all (nb := nb) nd i (by omega)
        rw [clsT_succ ht]
        generalize clsT ts nb i = acc at *
        have accl : acc.length ≤ 40 := by have := C.len; omega
        have fl : ∀ l : List Int, l.Nodup → (∀ x ∈ l, x ∈ ts) → l.length ≤ 40 := fun l h1 h2 => by have := nodup_le l ts h1 h2; omega
        have accs : ∀ x ∈ acc.flatten, x ∈ ts := fun x hx => by
          obtain ⟨c, hc, hxc⟩ := List.mem_flatten.mp hx
          obtain ⟨s, _, rfl⟩ := C.from_ c hc
          exact (mem_cof.mp hxc).1
        unfold w_groups_b2
        walk_at "u"
        refine ⟨if t ∈ acc.flatten then some (.int (cix acc t : Nat)) else none, ?_, ?_⟩
        · unfold dget
          dsimp only
          rw [g2 _ _ _ _ _ n2]
          show some (getD' (mnK acc.flatten fun x => (cix acc x : Nat)) (Sum.inl t)) = _
          unfold mnK
          rw [get_map (h := fun x => D.int (cix acc x : Nat))]
        unfold stC
        by_cases c_1 : t ∈ acc.flatten
        · rw [if_pos c_1, if_pos c_1]
          simp only [Option.isSome_some, if_true]
          exact wk.of ⟨cs, _, _, _, hcs, csn, csf, n1, n2, n3, rfl, rfl⟩
        · rw [if_neg c_1, if_neg c_1]
          simp only [Option.isSome_none, Bool.false_eq_true, if_false]
          have gR : ∀ x ∈ ts, ∀ M : Mu, M r = some (.dK (rhK ts nb ts)) → dget M (.mut r) (.int x) = some (some (.lst ((rch ts nb x).map D.int))) := fun x hx M hM => by
            unfold dget
            dsimp only
            rw [hM]
            show some (getD' (rhK ts nb ts) (Sum.inl x)) = _
            unfold rhK
            rw [get_map (h := fun x => D.lst ((rch ts nb x).map D.int)), if_pos hx]
          refine lc_frz (rch ts nb t) D.int (fun x => decide (x ≠ t) && rpB nb x t) D.int ⟨.fix ((rch ts nb t).map D.int), rfl, trivial, fun R hR => ?_⟩ ?_ (fun x hx μ1 R hle hR => ?_) (fun x hx _ μ1 R hle hR => hR) ?_
          · simp only [iLs, wOp, wVar, List.getElem?_cons_zero, List.getElem?_cons_succ]
            exact ⟨_, gR t hts _ (g1 _ _ _ _ _ n1), hR⟩
          · have := List.length_filter_le (rpB nb t) ts
            unfold rch
            omega
          · have hx2 := List.mem_filter.mp hx
            simp only [wip, wAnd, wTe, wOp, wVar, List.getElem?_cons_zero, List.getElem?_cons_succ, List.set_cons_zero, List.set_cons_succ, fNe, scal_int, eqF_int, true_and, tB0]
            by_cases c2 : x = t
            · subst c2
              simp only [ne_eq, not_true_eq_false, decide_false, Bool.false_and] at hR
              simp
              exact hR
            · have e1 : decide (x ≠ t) = true := decide_eq_true c2
              rw [e1, Bool.true_and] at hR
              simp [c2]
              refine ⟨_, gR x hx2.1 _ (hle r _ (g1 _ _ _ _ _ n1)), in_ints rfl ?_⟩
              have e2 : decide (t ∈ rch ts nb x) = rpB nb x t := by
                unfold rch
                rw [Bool.eq_iff_iff, decide_eq_true_eq, List.mem_filter]
                exact ⟨fun h => h.2, fun h => ⟨hts, h⟩⟩
              simp only [Bool.false_eq_true, if_false]
              rw [e2]
              exact hR
          · walk_at "v"
            have lb : ((rch ts nb t).filter (fun x => decide (x ≠ t) && rpB nb x t)).length ≤ 40 := Nat.le_trans (List.length_filter_le _ _) (by have := List.length_filter_le (rpB nb t) ts; unfold rch; omega)
            refine ⟨⟨pt, _, rfl, g3 _ _ _ _ _ n3⟩, by decide, by rw [List.length_map]; omega, _, (rch ts nb t).filter (fun x => decide (x ≠ t) && rpB nb x t) ++ [t], rfl, ?_, fun c hc => ?_⟩
            · show some _ = some _
              rw [List.map_append]
              rfl
            rw [srt_both pw hts]
            have hcsl : cs.length = (acc.map fun c => c.map D.int).length := by rw [List.length_map]; exact hcs
            obtain ⟨f0, f1, f2, f3, f4⟩ := fr _ _ _ cs _ csf n1 n2 n3 csn hcsl c hc
            rw [um_ne (Ne.symm f3), g3 _ _ _ _ _ n3]
            dsimp only
            refine ⟨by rw [List.length_map]; omega, ?_⟩
            rw [um_comm f3, s3 _ _ _ _ _ _ n3, ← umz_app hcsl f4]
            have eL : (acc.map fun c => c.map D.int) ++ [(cof ts nb t).map D.int] = (acc ++ [cof ts nb t]).map fun c => c.map D.int := by rw [List.map_append]; rfl
            have eC : cs.map D.mut ++ [.mut c] = (cs ++ [c]).map D.mut := by rw [List.map_append]; rfl
            rw [eL, eC]
            have csn2 : (cs ++ [c]).Nodup := List.nodup_append.mpr ⟨csn, by simp, fun x hx y hy e => f4 (by rw [← List.mem_singleton.mp hy, ← e]; exact hx)⟩
            have cn : ∀ a, a ∉ cs → c ≠ a → a ∉ cs ++ [c] := fun a h1 h2 hm => (List.mem_append.mp hm).elim h1 fun z => h2 (List.mem_singleton.mp z).symm
            have m1 := cn r n1 f1
            have m2 := cn hm n2 f2
            have m3 := cn pt n3 f3
            have hl2 : (cs ++ [c]).length = (acc ++ [cof ts nb t]).length := by rw [List.length_append, List.length_append, hcs]; rfl
            have cf2 : ∀ a ∈ cs ++ [c], μ a = none := fun a ha => (List.mem_append.mp ha).elim (csf a) fun z => by rw [List.mem_singleton.mp z]; exact f0
            have gc : ∀ M, umz M (cs ++ [c]) ((acc ++ [cof ts nb t]).map fun c => c.map D.int) c = some (.lst ((cof ts nb t).map D.int)) := fun M => umz_get (i := cs.length) csn2 (by simp) (by rw [List.getElem?_map, hcs]; simp)
            simp only [wFor, iLs, wOp, wUn, wVar, wC, fNeg, List.getElem?_cons_zero, List.getElem?_cons_succ, List.set_cons_zero, List.set_cons_succ, gN]
            refine fIx_cell (g3 _ _ _ _ _ m3) (by rw [List.map_append]; exact atI_last _ _) ?_
            dsimp only
            rw [gc]
            dsimp only
            have newx : ∀ x ∈ cof ts nb t, x ∉ acc.flatten := fun x hx => cof_new C hts c_1 hx
            have cnd : (cof ts nb t).Nodup := cof_nd nd
            refine ⟨fun j ρ μ' => ∃ r8, μ' = umz (um (um (um μ r (.dK (rhK ts nb ts))) hm (.dK (mnK (acc.flatten ++ (cof ts nb t).take j) fun x => (cix (acc ++ [cof ts nb t]) x : Nat)))) pt (.lst ((cs ++ [c]).map D.mut))) (cs ++ [c]) ((acc ++ [cof ts nb t]).map fun c => c.map D.int) ∧
              ρ = [some (.mut q), some (.lst (ts.map D.int)), some (tabD ts nb), some (.mut r), some (.int t), some (.mut hm), some (.mut pt), some (.lst (((rch ts nb t).filter (fun x => decide (x ≠ t) && rpB nb x t)).map D.int)), r8, none, none, none, none], ⟨_, ?_, rfl⟩, ?_, ?_, ?_⟩
            · have eM : mnK acc.flatten (fun x => (cix (acc ++ [cof ts nb t]) x : Nat)) = mnK acc.flatten (fun x => (cix acc x : Nat)) := by
                unfold mnK
                exact List.map_congr_left fun x hx => by dsimp only; rw [cix_old hx]
              rw [List.take_zero, List.append_nil, eM]
            · rintro j ρ μ' ⟨r8, rfl, rfl⟩
              exact gc _
            · rintro j d ρ μ' hd ⟨r8, rfl, rfl⟩
              have hd : ((cof ts nb t).map D.int)[j]? = some d := hd
              obtain ⟨x, hx, rfl⟩ := map_at hd
              have hxm := List.mem_of_getElem? hx
              unfold w_groups_b1
              walk_at "v"
              rw [g3 _ _ _ _ _ m3]
              dsimp only
              rw [g2 _ _ _ _ _ m2]
              dsimp only
              refine ⟨?_, Sum.inl x, rfl, wk.of ⟨_, ?_, rfl⟩⟩
              · unfold mnK
                rw [List.length_map, List.length_append, List.length_take]
                have h1 := fl acc.flatten C.nd accs
                have h2 := fl (cof ts nb t) cnd fun y hy => (mem_cof.mp hy).1
                omega
              · rw [s2 _ _ _ _ _ _ m2]
                have e1 : ((((cs ++ [c]).map D.mut).length : Nat) : Int) - 1 = (cix (acc ++ [cof ts nb t]) x : Nat) := by
                  rw [cix_new (newx x hxm) hxm, List.length_map, List.length_append, List.length_singleton, hcs]
                  omega
                have e2 : x ∉ acc.flatten ++ (cof ts nb t).take j := fun z => (List.mem_append.mp z).elim (newx x hxm) (not_take cnd hx)
                rw [e1]
                unfold mnK
                rw [put_new (h := fun x => D.int (cix (acc ++ [cof ts nb t]) x : Nat)) e2, List.take_succ, hx, Option.toList_some, ← List.append_assoc, List.map_append (l₂ := [x])]
                rfl
            · rintro ρ μ' ⟨r8, rfl, rfl⟩
              refine wk.of ⟨cs ++ [c], _, _, _, hl2, csn2, cf2, m1, m2, m3, ?_, rfl⟩
              have e1 : ((Wk.cell c ((cof ts nb t).map D.int)).items).length = (cof ts nb t).length := by
                show ((cof ts nb t).map D.int).length = _
                rw [List.length_map]
              have e2 : acc.flatten ++ cof ts nb t = (acc ++ [cof ts nb t]).flatten := by rw [List.flatten_append]; simp
              rw [e1, List.take_length, e2]
      · rintro ρ' μ' ⟨cs, r4, r7, r8, hcs, csn, csf, n1, n2, n3, rfl, rfl⟩
        rw [List.length_map, hclT] at hcs
        rw [List.length_map, hclT]
        have C := Cin.all (nb := nb) nd ts.length (Nat.le_refl _)
        rw [hclT] at C
        have cll : cl.length ≤ 40 := by have := C.len; omega
        have ends : ∀ p ∈ ps, p.1 ∈ cl.flatten ∧ p.2 ∈ cl.flatten := fun p hp => ⟨C.each _ (by rw [List.take_length]; exact (hg p hp).1), C.each _ (by rw [List.take_length]; exact (hg p hp).2)⟩
        have leM : ∀ X Y Z ls, le μ (umz (um (um (um μ r X) hm Y) pt Z) cs ls) := fun X Y Z ls => (le_um3 hr hhm hpt d1 d2 d3).trans (le_umz (fun p hp => by rw [um_ne (nm1 n3 hp).symm, um_ne (nm1 n2 hp).symm, um_ne (nm1 n1 hp).symm]; exact csf p hp) csn)
        have gH : ∀ (x : Int) (M : Mu), x ∈ cl.flatten → M hm = some (.dK (mnK cl.flatten fun x => (cix cl x : Nat))) → dget M (.mut hm) (.int x) = some (some (.int (cix cl x : Nat))) := fun x M hx hM => by
          unfold dget
          dsimp only
          rw [hM]
          show some (getD' (mnK cl.flatten fun x => (cix cl x : Nat)) (Sum.inl x)) = _
          rw [mnK_get hx]
        have gM : umz (um (um (um μ r (.dK (rhK ts nb ts))) hm (.dK (mnK cl.flatten fun x => (cix cl x : Nat)))) pt (.lst (cs.map D.mut))) cs (cl.map fun c => c.map D.int) hm = some (.dK (mnK cl.flatten fun x => (cix cl x : Nat))) := g2 _ _ _ _ _ n2
        dsimp only
        unfold w_groups_6
        walk_at "u"
        refine lc2_frz ps (fun p => D.int p.1) (fun p => D.int p.2) (fun p => decide ((cix cl p.1 : Int) ≠ cix cl p.2)) (fun p => pD (cix cl p.1, cix cl p.2)) ⟨.fix (ps.map pD), rfl, trivial, fun R hR => ?_⟩ (by omega) (fun p hp μ1 R hle hR => ?_) (fun p hp _ μ1 R hle hR => ?_) ?_
        · simp only [iLs, wProp, wVar, List.getElem?_cons_zero]
          have hqM := leM (.dK (rhK ts nb ts)) (.dK (mnK cl.flatten fun x => (cix cl x : Nat))) (.lst (cs.map D.mut)) (cl.map fun c => c.map D.int) q _ hq
          exact ⟨⟨_, by unfold fieldsD; dsimp only; rw [hqM]⟩, ts, ps, hqM, hR⟩
        · obtain ⟨e1, e2⟩ := ends p hp
          simp only [wip, wTe, wOp, wVar, List.getElem?_cons_zero, List.getElem?_cons_succ, List.set_cons_zero, List.set_cons_succ]
          refine ⟨_, gH _ _ e1 (hle hm _ gM), _, gH _ _ e2 (hle hm _ gM), rfl, ?_⟩
          simp only [tB0, eqF_int]
          have e3 : (!decide (((cix cl p.1 : Nat) : Int) = ((cix cl p.2 : Nat) : Int))) = decide (((cix cl p.1 : Nat) : Int) ≠ ((cix cl p.2 : Nat) : Int)) := by
            by_cases c : ((cix cl p.1 : Nat) : Int) = ((cix cl p.2 : Nat) : Int)
            · simp [c]
            · simp [c]
          rw [e3]
          exact hR
        · obtain ⟨e1, e2⟩ := ends p hp
          simp only [wip, wTup, wCons, wNil, wOp, wVar, List.getElem?_cons_zero, List.getElem?_cons_succ, List.set_cons_zero, List.set_cons_succ]
          exact ⟨_, gH _ _ e1 (hle hm _ gM), _, gH _ _ e2 (hle hm _ gM), Nat.le_of_lt_succ (by simp), hR⟩
        · have eq : (ps.filter (fun p => decide ((cix cl p.1 : Int) ≠ cix cl p.2))).map (fun p => pD ((cix cl p.1 : Int), (cix cl p.2 : Int))) = (qps cl ps).map pD := by
            unfold qps
            rw [List.map_map]
            rfl
          rw [eq]
          unfold w_groups_7
          walk_at "u"
          unfold wLc
          simp only [iLs, wCall, wCons, wNil, wFrz, wUn, wLR, wCB, fLen, sv, wVar, List.getElem?_cons_zero, List.getElem?_cons_succ]
          rw [g3 _ _ _ _ _ n3]
          dsimp only
          rw [List.length_map, hcs]
          refine ⟨⟨by omega, by omega⟩, fun u hu => ?_⟩
          unfold fFrz
          dsimp only
          rw [um_same]
          dsimp only
          rw [rm_um hu]
          have e1 : DL.upTo ((cl.length : Nat) : Int).toNat = (upI cl.length).map D.int := by
            unfold DL.upTo upI
            rw [List.map_map]
            rfl
          have qin : ∀ p ∈ qps cl ps, p.1 ∈ upI cl.length ∧ p.2 ∈ upI cl.length := fun p hp => by
            unfold qps at hp
            obtain ⟨z, hz2, rfl⟩ := List.mem_map.mp hp
            obtain ⟨e1, e2⟩ := ends z (List.mem_filter.mp hz2).1
            exact ⟨mem_upI.mpr ⟨_, cix_lt e1, rfl⟩, mem_upI.mpr ⟨_, cix_lt e2, rfl⟩⟩
          refine ⟨upI cl.length, qps cl ps, e1, rfl, upI_nd _, by rw [upI_len]; omega, ?_, qin, ?_⟩
          · unfold qps
            rw [List.length_map]
            have := List.length_filter_le (fun p => decide ((cix cl p.1 : Int) ≠ cix cl p.2)) ps
            omega
          rw [upI_len]
          have eg : grps ts ps = (lay (qps cl ps) cl.length (srt (upI cl.length))).map fun i => cl.getD i.toNat [] := by
            unfold grps grpL
            rw [hcl]
          have ind := lay_nd (qps cl ps) cl.length (srt (upI cl.length)) ((srt_perm _).nodup_iff.mpr (upI_nd _))
          have isub : ∀ i ∈ lay (qps cl ps) cl.length (srt (upI cl.length)), ∃ k : Nat, k < cl.length ∧ i = k := fun i hi => mem_upI.mp (mem_srt.mp (lay_sub _ _ _ i hi))
          generalize lay (qps cl ps) cl.length (srt (upI cl.length)) = idx at eg ind isub
          dsimp only
          intro p hp
          obtain ⟨f0, f1, f2, f3, f4⟩ := fr _ _ _ cs _ csf n1 n2 n3 csn (by rw [List.length_map]; exact hcs) p hp
          have cat : ∀ k : Nat, k < cl.length → cs[k]? = some (cs.getD k 0) := fun k hk => by
            rw [List.getD_eq_getElem?_getD, List.getElem?_eq_getElem (by omega)]
            rfl
          have idl : idx.length ≤ cl.length := by
            have := nodup_le idx (upI cl.length) ind fun i hi => mem_upI.mpr (isub i hi)
            rwa [upI_len] at this
          refine ⟨fun j μ' => μ' = um (umz (um (um (um μ r (.dK (rhK ts nb ts))) hm (.dK (mnK cl.flatten fun x => (cix cl x : Nat)))) pt (.lst (cs.map D.mut))) cs (cl.map fun c => c.map D.int)) p (.lst ((idx.take j).map fun i => .mut (cs.getD i.toNat 0))), show um _ p _ = um _ p _ by rw [List.take_zero]; rfl, fun _ _ _ => trivial, ?_, ?_⟩
          · rintro j d μ' hd rfl
            have hd : (idx.map D.int)[j]? = some d := hd
            obtain ⟨i, hi, rfl⟩ := map_at hd
            obtain ⟨k, hk, rfl⟩ := isub i (List.mem_of_getElem? hi)
            simp only [wYes, wip, wOp, wVar, List.getElem?_cons_zero, List.getElem?_cons_succ, List.set_cons_zero, List.set_cons_succ, if_true]
            refine fIx_cell (l := cs.map D.mut) (d := .mut (cs.getD k 0)) (by rw [um_ne (Ne.symm f3)]; exact g3 _ _ _ _ _ n3) (by rw [atI_nat, List.getElem?_map, cat k hk]; rfl) ⟨_, um_same, ?_, ?_⟩
            · rw [List.length_map, List.length_take]
              omega
            · rw [um_um, List.take_succ, hi, Option.toList_some, List.map_append]
              rfl
          · rintro μ' rfl
            have e2 : ((Wk.fix (idx.map D.int)).items).length = idx.length := by
              show (idx.map D.int).length = _
              rw [List.length_map]
            rw [e2, List.take_length]
            have adn : (idx.map fun i => cs.getD i.toNat 0).Nodup := by
              refine List.pairwise_map.mpr (List.Pairwise.imp_of_mem (fun {a b} ha hb ne e => ?_) ind)
              obtain ⟨k, hk, rfl⟩ := isub a ha
              obtain ⟨m, hm2, rfl⟩ := isub b hb
              have e : cs.getD k 0 = cs.getD m 0 := e
              have := (List.getElem?_inj (by omega) csn).mp ((cat k hk).trans ((congrArg some e).trans (cat m hm2).symm))
              exact ne (by rw [this])
            have ain : ∀ a ∈ idx.map fun i => cs.getD i.toNat 0, a ∈ cs := fun a ha => by
              obtain ⟨i, hi, rfl⟩ := List.mem_map.mp ha
              obtain ⟨k, hk, rfl⟩ := isub i hi
              exact List.mem_of_getElem? (cat k hk)
            refine ⟨_, le.um2 (μ := umz μ (idx.map fun i => cs.getD i.toNat 0) ((grps ts ps).map fun c => c.map D.int)) (fun a m e => ?_), ?_⟩
            · by_cases c : a ∈ idx.map fun i => cs.getD i.toNat 0
              · obtain ⟨j, hj, ej⟩ := List.getElem_of_mem c
                rw [List.length_map] at hj
                have ij : idx[j]? = some idx[j] := List.getElem?_eq_getElem hj
                obtain ⟨k, hk, ek⟩ := isub _ (List.mem_of_getElem? ij)
                have ea : cs.getD k 0 = a := by
                  rw [← ej, List.getElem_map, ek]
                  rfl
                have h1 := umz_get (μ := μ) (ls := (grps ts ps).map fun c => c.map D.int) (l := (cl.getD k []).map D.int) adn (i := j) (p := a) (by rw [List.getElem?_map, ij, ek, ← ea]; rfl) (by rw [eg, List.getElem?_map, List.getElem?_map, ij, ek]; rfl)
                rw [h1] at e
                rw [← e, ← ea]
                exact umz_get csn (cat k hk) (by rw [List.getElem?_map, List.getElem?_eq_getElem hk, List.getD_eq_getElem?_getD, List.getElem?_eq_getElem hk]; rfl)
              · rw [umz_not c] at e
                exact leM _ _ _ _ a m e
            · have e3 : (idx.map fun i => (D.mut (cs.getD i.toNat 0))) = (idx.map fun i => cs.getD i.toNat 0).map D.mut := by rw [List.map_map]; rfl
              rw [e3]
              refine h p _ (List.nodup_cons.mpr ⟨fun z => f4 (ain p z), adn⟩) (fun a ha => ?_) (by rw [eg, List.length_map, List.length_map])
              rcases List.mem_cons.mp ha with rfl | z
              · exact f0
              · exact csf a (ain a z)
  · exact h.elim
theorem len_groups (A : Ad) : ∀ ds μ Q E, c_groups A ds μ Q E → ds.length = 1 := by
  intro ds μ Q E h
  unfold c_groups at h
  first | (split at h) | (split at h)
  all_goals first | rfl | exact h.elim
theorem ok_groups {P : Program} {w : World} {K : PySem.W.Frag} {mg : Str → Option Value} {base : Heap} {A : Ad} (D : Dfn K mg "groups" "groups" s_groups ["web"]) (T : Tx P w base K mg A) (G_laid_out : DfOk P w K mg base "laid_out" 2 ["tags", "arrows"] (c_laid_out A)) (G_reached : DfOk P w K mg base "reached" 1 ["table", "tag"] (c_reached A)) (G_gathered : DfOk P w K mg base "gathered" 1 ["tags", "pairs"] (c_gathered A)) (P_Web_arrows : DfP P w K mg base (A.g "Web") "arrows" 1 (c_Web_arrows A)) (P_Web_tags : DfP P w K mg base (A.g "Web") "tags" 1 (c_Web_tags A)) : DfOk P w K mg base "groups" 3 ["web"] (c_groups A) := by
  obtain ⟨f, fd, F, hm, hb⟩ := D
  refine ⟨f, fd, okD F sc_groups (by decide) (len_groups A) ?_, hm, F.kp, hb⟩
  intro X W E cdv B outer s H Ex hX tk hp hr
  subst hX
  exact ⟨_, w_groups A E, (scons (sset (i := 1) (eprop P_Web_tags (hr.mono (by decide)) (ev 0)) sc_groups.nd)
  (scons (sset (i := 2) (ecall2 tk G_gathered (hr.mono (by decide)) (acons (ev 1) (acons (eprop P_Web_arrows (hr.mono (by decide)) (ev 0)) anil))) sc_groups.nd)
  (scons (sset (i := 3) (edc sc_groups.nd [("tag", 4)] 4 (il (ev 1)) (fun _ _ _ _ _ => gnmP 4 sc_groups.nd) (fun _ _ _ _ _ => ⟨_, tsnil⟩) (fun _ _ _ _ _ => ⟨_, (ev 4)⟩) (fun _ _ _ _ _ => ⟨_, (ecall2 takes_no G_reached (hr.mono (by decide)) (acons (ev 2) (acons (ev 4) anil)))⟩)) sc_groups.nd)
  (scons (sset (i := 5) ednew sc_groups.nd)
  (scons (sset (i := 6) (elst anil) sc_groups.nd)
  (scons (sfor hp (il (ev 1)) (gnm 4 sc_groups.nd) (sone (sif (tdnin (Room.units1 hr) (ev 4) (ev 5)) (scons (ssetlcF sc_groups.nd 7 [("one", 8)] 8 (il (edget (Room.units1 hr) (ev 3) (ev 4))) (fun _ _ _ _ _ => gnmP 8 sc_groups.nd) (fun _ _ _ _ _ => ⟨_, (tsone (tbo (tand (tc' op_ne do_ne (ev 8) (ev 4)) (tand1 (tc' (op_inD (Room.units65 hr)) do_inD (ev 4) (edget (Room.units1 hr) (ev 3) (ev 8)) (by rfl))))))⟩) (fun _ _ _ _ _ => ⟨_, (ev 8)⟩))
  (scons (sexpr (eapp (ev 6) (acons (ecb cr_sortedI dc_sort T.b_sorted (acons (ecat (ev 7) (elstF (acons (ev 4) anil))) anil)) anil)))
  (sone (sfor hp (il (eix (ev 6) (eneg ei))) (gnm 8 sc_groups.nd) (sone (sasg (esub (ecb call_len_seq dc_len T.b_len (acons (ev 6) anil)) ei) (gsd (Room.units1 hr) (ev 5) (ev 8)))))))) snil)))
  (scons (ssetlc2F sc_groups.nd 9 [("a", 10), ("b", 11)] 10 11 (il (eprop P_Web_arrows (hr.mono (by decide)) (ev 0))) (fun _ _ _ _ _ => gtpP (gnmP 10 sc_groups.nd) (gnmP 11 sc_groups.nd)) (fun _ _ _ _ _ => ⟨_, (tsone (tc' op_ne do_ne (edget (Room.units1 hr) (ev 5) (ev 10)) (edget (Room.units1 hr) (ev 5) (ev 11))))⟩) (fun _ _ _ _ _ => ⟨_, (etup (acons (edget (Room.units1 hr) (ev 5) (ev 10)) (acons (edget (Room.units1 hr) (ev 5) (ev 11)) anil)))⟩))
  (sone (sret (elc sc_groups.nd [("at", 12)] 12 (il (ecall2 tk G_laid_out (hr.mono (by decide)) (acons (efrz (elr T.b_list T.b_range (ecb call_len_seq dc_len T.b_len (acons (ev 6) anil)))) (acons (ev 9) anil)))) (fun _ _ _ _ _ => gnmP 12 sc_groups.nd) (fun _ _ _ _ _ => ⟨_, tsnil⟩) (fun _ _ _ _ _ => ⟨_, (eix (ev 6) (ev 12))⟩))))))))))), fun ds μ Q E0 hc hE => by subst hE; exact pure_groups A ds μ Q E0 hc⟩
end K14
set_option maxHeartbeats 800000
namespace K14
open PySem L2 DL
local macro_rules | `(tactic| walk_at "w") => `(tactic| simp only [wSeq, wAugD, wAugN, fSetI, fLenS, fInS, fSort, fSortD, fSortSetI, fSortSetP, fRem, wNext, wIf, wRet, wRetN, wDrop, wAsg, gN, wVar, wC, wOp, wUn, wNil, wCons, wCB, wTup, wLst, wLstF, wTe, tB0, wAnd, wOr, wNot, wAndV, wOrV, wNotV, wIfE, wCall, wCallG, wRaise, wFrz, fFrz, rets, fI, fI0, fAdd, fSub, fMul, fLt, fLe, fGt, fGe, fMod, fModN, fPow, fDiv, fDivG, fNeg, fEq, fNe, eqF_int, eqF_bl, eqF_str, scal_int, scal_bl, scal_str, fLen, sv, fIx, fAbs, fInt, fList, wSl, fSlL, oNo, oSo, lvr, lv, fCat, wMeL, fApp, fPop, fSetL, gSb, iLs, iTp, iR1, iR2, wFor, gTp, gCn, gNl, wPar, wBrk, wCnt, fIsi, wIsx, wLc, wYes, wip, wTr, truD, wTry, clrD, wFld, fieldsD, wSetF, wMeth, wMake, wIsX, wXf, wTryX, wRaiseL, wRaiseV, fCatM, fEqL, fStrI, fFmt, wJoin, wJs, wChain, wLc2, wLR, wProp, fRepT, wDIn, wDNewT, fSetD, iR3, gLs, fIns, fPopAt, fClear, fTuple, fMin2, fMaxL, fAny, iEn, wRev, fRev, wDNew, wDNewF, wDsp1, wDsp1F, fAddS, fIsN, fNotN, um_same, um_um, st0, List.map_cons, List.map_nil, List.length_cons, List.length_nil, List.getElem?_cons_zero, List.getElem?_cons_succ, List.set_cons_zero, List.set_cons_succ, List.cons_append, List.nil_append, List.replicate, atI_c0, atI_c1, atI_c2, atI_c3, atI_c4, atI_c5, atI_c6, ixN_70, ixN_71, ixN_72, ixN_73, ixN_74, ixN_75, ixN_76, Nat.reduceAdd, Int.reduceToNat, Int.reducePow, ite_T, ite_F, if_dec, if_ndec, if_nb, true_and, if_true, Bool.false_eq_true, if_false])
local macro_rules | `(tactic| walk_at "v") => `(tactic| simp only [wSeq, wAugD, wAugN, fSetI, fLenS, fInS, fSort, fSortD, fSortSetI, fSortSetP, fRem, wNext, wIf, wRet, wRetN, wDrop, wAsg, gN, wVar, wC, wOp, wUn, wNil, wCons, wCB, wTup, wLst, wLstF, wTe, tB0, wAnd, wOr, wNot, wAndV, wOrV, wNotV, wIfE, wCall, wCallG, wRaise, wFrz, fFrz, rets, fI, fI0, fAdd, fSub, fMul, fLt, fLe, fGt, fGe, fMod, fModN, fPow, fDiv, fDivG, fNeg, fEq, fNe, eqF_int, eqF_bl, eqF_str, scal_int, scal_bl, scal_str, fLen, sv, fIx, fAbs, fInt, fList, wSl, fSlL, oNo, oSo, lvr, lv, fCat, wMeL, fApp, fPop, fSetL, gSb, gTp, gCn, gNl, wPar, wBrk, wCnt, fIsi, wIsx, wYes, wip, wTr, truD, wTry, clrD, wFld, fieldsD, wSetF, wMeth, wMake, wIsX, wXf, wTryX, wRaiseL, wRaiseV, fCatM, fEqL, fStrI, fFmt, wJoin, wJs, wChain, wLR, wProp, fRepT, wDIn, wDNewT, fSetD, gLs, fIns, fPopAt, fClear, fTuple, fMin2, fMaxL, fAny, wRev, fRev, wDNew, wDNewF, wDsp1, wDsp1F, fAddS, fIsN, fNotN, um_same, um_um, st0, List.map_cons, List.map_nil, List.length_cons, List.length_nil, List.getElem?_cons_zero, List.getElem?_cons_succ, List.set_cons_zero, List.set_cons_succ, List.cons_append, List.nil_append, List.replicate, atI_c0, atI_c1, atI_c2, atI_c3, atI_c4, atI_c5, atI_c6, ixN_70, ixN_71, ixN_72, ixN_73, ixN_74, ixN_75, ixN_76, Nat.reduceAdd, Int.reduceToNat, Int.reducePow, ite_T, ite_F, if_dec, if_ndec, if_nb, true_and, if_true, Bool.false_eq_true, if_false])
local macro_rules | `(tactic| walk_at "u") => `(tactic| simp only [wSeq, wAugD, wAugN, fSetI, fLenS, fInS, fSort, fSortD, fSortSetI, fSortSetP, fRem, wNext, wIf, wRet, wRetN, wDrop, wAsg, gN, wVar, wC, wOp, wUn, wNil, wCons, wCB, wTup, wLst, wLstF, wTe, tB0, wAnd, wOr, wNot, wAndV, wOrV, wNotV, wIfE, wCall, wCallG, wRaise, rets, fI, fI0, fAdd, fSub, fMul, fLt, fLe, fGt, fGe, fMod, fModN, fPow, fDiv, fDivG, fNeg, fEq, fNe, eqF_int, eqF_bl, eqF_str, scal_int, scal_bl, scal_str, fLen, sv, fIx, fAbs, fInt, fList, wSl, fSlL, oNo, oSo, lvr, lv, fCat, wMeL, fApp, fPop, fSetL, gSb, gTp, gCn, gNl, wPar, wBrk, wCnt, fIsi, wIsx, wYes, wip, wTr, truD, wTry, clrD, wFld, fieldsD, wSetF, wMeth, wMake, wIsX, wXf, wTryX, wRaiseL, wRaiseV, fCatM, fEqL, fStrI, fFmt, wJoin, wJs, wChain, wLR, wProp, fRepT, wDIn, wDNewT, fSetD, gLs, fIns, fPopAt, fClear, fTuple, fMin2, fMaxL, fAny, wRev, fRev, wDNew, wDNewF, wDsp1, wDsp1F, fAddS, fIsN, fNotN, um_same, um_um, st0, List.map_cons, List.map_nil, List.length_cons, List.length_nil, List.getElem?_cons_zero, List.getElem?_cons_succ, List.set_cons_zero, List.set_cons_succ, List.cons_append, List.nil_append, List.replicate, atI_c0, atI_c1, atI_c2, atI_c3, atI_c4, atI_c5, atI_c6, ixN_70, ixN_71, ixN_72, ixN_73, ixN_74, ixN_75, ixN_76, Nat.reduceAdd, Int.reduceToNat, Int.reducePow, ite_T, ite_F, if_dec, if_ndec, if_nb, true_and, if_true, Bool.false_eq_true, if_false])
noncomputable def tang (ts : List Int) (ps : List I2) : List Int := ts.filter fun t => rpB (dirL ps) t t
def c_tangled (A : Ad) : Ct := fun ds μ Q _ => match ds with
  | [.mut q] => ∃ (ts : List Int) (ps : List I2), μ q = some (.ins (A.g "Web") (webF ts ps)) ∧ ts.Pairwise (· < ·) ∧ ts.length ≤ 40 ∧ ps.length ≤ 1000 ∧ (∀ p ∈ ps, p.1 ∈ ts ∧ p.2 ∈ ts) ∧ ∀ p, μ p = none → Q (.mut p) (um μ p (.lst ((tang ts ps).map D.int)))
  | _ => False
abbrev s_tangled : Stmt := top 16
theorem sc_tangled : FnScope ["web", "hiders", "tag"] ["web"] (defScope s_tangled) := ⟨rfl, rfl, rfl, by decide +kernel, rfl, by decide +kernel, by decide +kernel⟩
def w_tangled (A : Ad) (E : EX) : WS := (wSeq (wAsg (wCall (c_gathered A) E (wCons (wProp (A.g "Web") (c_Web_tags A) (wVar 0)) (wCons (wProp (A.g "Web") (c_Web_arrows A) (wVar 0)) wNil))) (gN 1))
  (wRet (wLc (iLs (wProp (A.g "Web") (c_Web_tags A) (wVar 0))) 2 [2] (wTe (wOp (fInD false) (wVar 2) (wCall (c_reached A) noE (wCons (wVar 1) (wCons (wVar 2) wNil))))) (wVar 2))))
theorem pure_tangled (A : Ad) (ds μ Q E0) (h : c_tangled A ds μ Q E0) : w_tangled A (fun C fs _ μ => dwx E0 C fs μ) (rets Q) (st0 3 ds) μ := by
  unfold c_tangled at h
  split at h
  · rename_i q
    obtain ⟨ts, ps, hq, pw, hl, hz, hg, h⟩ := h
    have nd : ts.Nodup := pw.imp fun h => by omega
    have hnb : ∀ x ∈ ts, ∀ y ∈ dirL ps x, y ∈ ts := fun x _ y hy => (hg _ (mem_dirL.mp hy)).1
    unfold w_tangled
    walk_at "u"
    refine ⟨⟨_, by rw [hq]⟩, ts, ps, hq, ⟨_, by rw [hq]⟩, ts, ps, hq, ts, ps, rfl, rfl, nd, by omega, by omega, fun p hp => (hg p hp).2, ?_⟩
    refine lc_mut ts D.int (fun t => rpB (dirL ps) t t) D.int ⟨.fix (ts.map D.int), rfl, trivial, fun R hR => ?_⟩ (by omega) (fun x hx μ1 R hle hR => ?_) (fun x hx _ μ1 R hle hR => hR) fun p hp => dwn.of (h p hp)
    · simp only [iLs, wProp, wVar, List.getElem?_cons_zero]
      exact ⟨⟨_, by unfold fieldsD; dsimp only; rw [hq]⟩, ts, ps, hq, hR⟩
    · simp only [wip, wTe, wOp, wVar, wCall, wCons, wNil, List.getElem?_cons_zero, List.getElem?_cons_succ, List.set_cons_zero, List.set_cons_succ]
      refine ⟨ts, dirL ps, rfl, nd, by omega, hx, hnb, fun r h1 h2 => in_ints rfl ?_⟩
      have e : decide (x ∈ r) = rpB (dirL ps) x x := by
        rw [Bool.eq_iff_iff, decide_eq_true_eq, rpB_iff]
        exact h2 x
      simp only [Bool.false_eq_true, if_false, tB0]
      rw [e]
      exact hR
  · exact h.elim
theorem len_tangled (A : Ad) : ∀ ds μ Q E, c_tangled A ds μ Q E → ds.length = 1 := by
  intro ds μ Q E h
  unfold c_tangled at h
  first | (split at h) | (split at h)
  all_goals first | rfl | exact h.elim
theorem ok_tangled {P : Program} {w : World} {K : PySem.W.Frag} {mg : Str → Option Value} {base : Heap} {A : Ad} (D : Dfn K mg "tangled" "tangled" s_tangled ["web"]) (T : Tx P w base K mg A) (G_reached : DfOk P w K mg base "reached" 1 ["table", "tag"] (c_reached A)) (G_gathered : DfOk P w K mg base "gathered" 1 ["tags", "pairs"] (c_gathered A)) (P_Web_tags : DfP P w K mg base (A.g "Web") "tags" 1 (c_Web_tags A)) (P_Web_arrows : DfP P w K mg base (A.g "Web") "arrows" 1 (c_Web_arrows A)) : DfOk P w K mg base "tangled" 3 ["web"] (c_tangled A) := by
  obtain ⟨f, fd, F, hm, hb⟩ := D
  refine ⟨f, fd, okD F sc_tangled (by decide) (len_tangled A) ?_, hm, F.kp, hb⟩
  intro X W E cdv B outer s H Ex hX tk hp hr
  subst hX
  exact ⟨_, w_tangled A E, (scons (sset (i := 1) (ecall2 tk G_gathered (hr.mono (by decide)) (acons (eprop P_Web_tags (hr.mono (by decide)) (ev 0)) (acons (eprop P_Web_arrows (hr.mono (by decide)) (ev 0)) anil))) sc_tangled.nd)
  (sone (sret (elcN sc_tangled.nd [("tag", 2)] 2 (il (eprop P_Web_tags (hr.mono (by decide)) (ev 0))) (fun _ _ _ _ _ => gnmP 2 sc_tangled.nd) (fun _ _ _ _ _ => ⟨_, (tsone (tc' (op_inD (Room.units65 hr)) do_inD (ev 2) (ecall2 takes_no G_reached (hr.mono (by decide)) (acons (ev 1) (acons (ev 2) anil))) (by rfl)))⟩) (fun _ _ _ _ _ => ⟨_, (ev 2)⟩))))), fun ds μ Q E0 hc hE => by subst hE; exact pure_tangled A ds μ Q E0 hc⟩
end K14
set_option maxHeartbeats 800000
namespace K14
open PySem L2 DL
local macro_rules | `(tactic| walk_at "w") => `(tactic| simp only [wSeq, wNext, wIf, wRet, wRetN, wDrop, wAsg, gN, wVar, wC, wOp, wUn, wNil, wCons, wCB, wTup, wLst, wLstF, wTe, tB0, wAnd, wOr, wNot, wAndV, wOrV, wNotV, wIfE, wCall, wCallG, wRaise, wFrz, fFrz, rets, fI, fI0, fAdd, fSub, fMul, fLt, fLe, fGt, fGe, fMod, fModN, fPow, fDiv, fDivG, fNeg, fEq, fNe, eqF_int, eqF_bl, eqF_str, scal_int, scal_bl, scal_str, fLen, sv, fIx, fAbs, fInt, fList, wSl, fSlL, oNo, oSo, lvr, lv, fCat, wMeL, fApp, fPop, fSetL, gSb, iLs, iTp, iR1, iR2, wFor, gTp, gCn, gNl, wPar, wBrk, wCnt, fIsi, wIsx, wLc, wYes, wip, wTr, truD, wTry, clrD, wFld, fieldsD, wSetF, wMeth, wMake, fStrI, fFmt, wJoin, wJs, wChain, wLc2, wLR, wProp, fRepT, wDIn, wDNewT, fSetD, iR3, gLs, fIns, fPopAt, fClear, fTuple, fMin2, fMaxL, fAny, iEn, wRev, fRev, wDNew, wDNewF, wDsp1, wDsp1F, fAddS, fIsN, fNotN, um_same, um_um, st0, List.map_cons, List.map_nil, List.length_cons, List.length_nil, List.getElem?_cons_zero, List.getElem?_cons_succ, List.set_cons_zero, List.set_cons_succ, List.cons_append, List.nil_append, List.replicate, atI_c0, atI_c1, atI_c2, atI_c3, atI_c4, atI_c5, atI_c6, ixN_70, ixN_71, ixN_72, ixN_73, ixN_74, ixN_75, ixN_76, Nat.reduceAdd, ite_T, ite_F, if_dec, if_ndec, if_nb, true_and, if_true, Bool.false_eq_true, if_false])
/-! ### draws -/
theorem ixN_in {n : Nat} {i : Int} (h0 : 0 ≤ i) (h1 : i < n) : ixN n i = some i.toNat := by
  unfold ixN
  rw [if_pos h0, if_pos h1]
theorem mem_set {l : List D} {i : Nat} {x y : D} (h : y ∈ l.set i x) : y ∈ l ∨ y = x := (List.mem_or_eq_of_mem_set h)
def c_law_shuffled (A : Ad) : Ct := fun ds μ Q _ => match ds with
  | [.mut p, .lst l] => ∃ st, μ p = some (.lst st) ∧ StOk st ∧ l.length < 1000 ∧ ∀ l' st', l'.Perm l → StOk st' → Q (.lst l') (um μ p (.lst st'))
  | _ => False
abbrev s_law_shuffled : Stmt := top 22
theorem sc_law_shuffled : FnScope ["store", "things", "row", "k", "at", "held"] ["store", "things"] (defScope s_law_shuffled) := ⟨rfl, rfl, rfl, by decide +kernel, rfl, by decide +kernel, by decide +kernel⟩
def w_law_shuffled_b1 (A : Ad) (E : EX) : WS := (wSeq (wAsg (wCall (c_law_take A) E (wCons (wVar 0) (wCons (wOp fAdd (wVar 3) (wC (.int (1)))) wNil))) (gN 4))
  (wSeq (wAsg (wOp fIx (wVar 2) (wVar 3)) (gN 5))
  (wSeq (wAsg (wOp fIx (wVar 2) (wVar 4)) (gSb fSetL (wVar 2) (wVar 3)))
  (wAsg (wVar 5) (gSb fSetL (wVar 2) (wVar 4))))))
def w_law_shuffled_1 (A : Ad) (E : EX) : WS := (wSeq (wFor (iR3 (wCons (wOp fSub (wCB fLen (wCons (wVar 2) wNil)) (wC (.int (1)))) (wCons (wC (.int (0))) (wCons (wUn fNeg (wC (.int (1)))) wNil)))) (gN 3) (w_law_shuffled_b1 A E))
  (wRet (wFrz (wVar 2))))
def w_law_shuffled (A : Ad) (E : EX) : WS := (wSeq (wAsg (wCB fList (wCons (wVar 1) wNil)) (gN 2))
  (w_law_shuffled_1 A E))
theorem pure_law_shuffled (A : Ad) (ds μ Q E0) (h : c_law_shuffled A ds μ Q E0) : w_law_shuffled A (fun C fs _ μ => dwx E0 C fs μ) (rets Q) (st0 6 ds) μ := by
  unfold c_law_shuffled at h
  split at h
  · rename_i p l
    obtain ⟨st, hp, hst, hl, h⟩ := h
    unfold w_law_shuffled
    walk_at "w"
    intro r hr
    have hne : r ≠ p := fun e => by rw [e, hp] at hr; cases hr
    unfold w_law_shuffled_1
    walk_at "w"
    have e0 : um μ r (.lst l) = um (um μ p (.lst st)) r (.lst l) := by rw [um_id hp]
    rw [e0]
    refine ⟨⟨by omega, by omega, by decide, by decide⟩, fun i ρ μ' => ∃ (st : List D) (l' : List D) (r3 r4 r5 : Option D), μ' = um (um μ p (.lst st)) r (.lst l') ∧ StOk st ∧ l'.Perm l ∧ ρ = [some (.mut p), some (.lst l), some (.mut r), r3, r4, r5], ⟨st, l, _, _, _, rfl, hst, .refl l, rfl⟩, fun _ _ _ _ => trivial, ?_, ?_⟩
    · rintro i d ρ μ' hd ⟨st, l', r3, r4, r5, rfl, hst, hm, rfl⟩
      have hl' := hm.length_eq
      rw [fixi] at hd
      have hi : i < ((l.length : Int) - 1 - 0).toNat := by
        have := (List.getElem?_eq_some_iff.mp hd).1
        rwa [rngD_len] at this
      rw [rngD_get hi] at hd
      cases hd
      have k0 : 0 ≤ (l.length : Int) - 1 - (i : Nat) := by omega
      have k1 : (l.length : Int) - 1 - (i : Nat) < (l'.length : Nat) := by omega
      unfold w_law_shuffled_b1
      walk_at "w"
      refine ⟨st, by rw [um_ne (Ne.symm hne), um_same], hst, bd_small (n := 2990) (by omega) (by omega), fun w st1 hs1 w0 w1 _ => ?_⟩
      have w1 := w1 (by omega)
      rw [um_swap hne, um_um]
      walk_at "w"
      obtain ⟨x, e1, e2, x3⟩ := atI_in (l := l') k0 k1
      obtain ⟨y, e3, e4, y3⟩ := atI_in (l := l') w0 (show w < (l'.length : Nat) by omega)
      rw [e1]
      dsimp only
      rw [e3]
      dsimp only
      rw [ixN_in k0 k1]
      dsimp only
      have hw2 : w < ((l'.set ((l.length : Int) - 1 - (i : Nat)).toNat y).length : Nat) := by rw [List.length_set]; omega
      rw [ixN_in w0 hw2]
      dsimp only
      exact wk.of ⟨st1, _, _, _, _, rfl, hs1, (swap_perm x3 y3).trans hm, rfl⟩
    · rintro ρ μ' ⟨st, l', r3, r4, r5, rfl, hst, hm, rfl⟩
      walk_at "w"
      rw [rm_um (by rw [um_ne hne]; exact hr)]
      exact dwn.of (h l' st hm hst)
  · exact h.elim
theorem len_law_shuffled (A : Ad) : ∀ ds μ Q E, c_law_shuffled A ds μ Q E → ds.length = 2 := by
  intro ds μ Q E h
  unfold c_law_shuffled at h
  first | (split at h) | (split at h)
  all_goals first | rfl | exact h.elim
theorem ok_law_shuffled {P : Program} {w : World} {K : PySem.W.Frag} {mg : Str → Option Value} {base : Heap} {A : Ad} (D : Dfn K mg "_law_shuffled" "_law_shuffled" s_law_shuffled ["store", "things"]) (T : Tx P w base K mg A) (G_law_take : DfOk P w K mg base "_law_take" 2 ["store", "many"] (c_law_take A)) : DfOk P w K mg base "_law_shuffled" 3 ["store", "things"] (c_law_shuffled A) := by
  obtain ⟨f, fd, F, hm, hb⟩ := D
  refine ⟨f, fd, okD F sc_law_shuffled (by decide) (len_law_shuffled A) ?_, hm, F.kp, hb⟩
  intro X W E cdv B outer s H Ex hX tk hp hr
  subst hX
  exact ⟨_, w_law_shuffled A E, (scons (sset (i := 2) (ecty call_list_of dc_list T.b_list (acons (ev 1) anil)) sc_law_shuffled.nd)
  (scons (sfor hp (ir3 T.b_range (acons (esub (ecb call_len_seq dc_len T.b_len (acons (ev 2) anil)) ei) (acons ei (acons (eneg ei) anil)))) (gnm 3 sc_law_shuffled.nd) (scons (sset (i := 4) (ecall2 tk G_law_take (hr.mono (by decide)) (acons (ev 0) (acons (eadd (ev 3) ei) anil))) sc_law_shuffled.nd)
  (scons (sset (i := 5) (eix (ev 2) (ev 3)) sc_law_shuffled.nd)
  (scons (sasg (eix (ev 2) (ev 4)) (gsl (ev 2) (ev 3)))
  (sone (sasg (ev 5) (gsl (ev 2) (ev 4))))))))
  (sone (sret (efrz (ev 2)))))), fun ds μ Q E0 hc hE => by subst hE; exact pure_law_shuffled A ds μ Q E0 hc⟩
end K14
set_option maxHeartbeats 800000
namespace K14
open PySem L2 DL
local macro_rules | `(tactic| walk_at "w") => `(tactic| simp only [wSeq, wAugD, wAugN, fSetI, fLenS, fInS, fSort, fSortD, fSortSetI, fSortSetP, fRem, wNext, wIf, wRet, wRetN, wDrop, wAsg, gN, wVar, wC, wOp, wUn, wNil, wCons, wCB, wTup, wLst, wLstF, wTe, tB0, wAnd, wOr, wNot, wAndV, wOrV, wNotV, wIfE, wCall, wCallG, wRaise, wFrz, fFrz, rets, fI, fI0, fAdd, fSub, fMul, fLt, fLe, fGt, fGe, fMod, fModN, fPow, fDiv, fDivG, fNeg, fEq, fNe, eqF_int, eqF_bl, eqF_str, scal_int, scal_bl, scal_str, fLen, sv, fIx, fAbs, fInt, fList, wSl, fSlL, oNo, oSo, lvr, lv, fCat, wMeL, fApp, fPop, fSetL, gSb, iLs, iTp, iR1, iR2, wFor, gTp, gCn, gNl, wPar, wBrk, wCnt, fIsi, wIsx, wLc, wYes, wip, wTr, truD, wTry, clrD, wFld, fieldsD, wSetF, wMeth, wMake, wIsX, wXf, wTryX, wRaiseL, wRaiseV, fCatM, fEqL, fStrI, fFmt, wJoin, wJs, wChain, wLc2, wLR, wProp, fRepT, wDIn, wDNewT, fSetD, iR3, gLs, fIns, fPopAt, fClear, fTuple, fMin2, fMaxL, fAny, iEn, wRev, fRev, wDNew, wDNewF, wDsp1, wDsp1F, fAddS, fIsN, fNotN, um_same, um_um, st0, List.map_cons, List.map_nil, List.length_cons, List.length_nil, List.getElem?_cons_zero, List.getElem?_cons_succ, List.set_cons_zero, List.set_cons_succ, List.cons_append, List.nil_append, List.replicate, atI_c0, atI_c1, atI_c2, atI_c3, atI_c4, atI_c5, atI_c6, ixN_70, ixN_71, ixN_72, ixN_73, ixN_74, ixN_75, ixN_76, Nat.reduceAdd, Int.reduceToNat, Int.reducePow, ite_T, ite_F, if_dec, if_ndec, if_nb, true_and, if_true, Bool.false_eq_true, if_false])
local macro_rules | `(tactic| walk_at "v") => `(tactic| simp only [wSeq, wAugD, wAugN, fSetI, fLenS, fInS, fSort, fSortD, fSortSetI, fSortSetP, fRem, wNext, wIf, wRet, wRetN, wDrop, wAsg, gN, wVar, wC, wOp, wUn, wNil, wCons, wCB, wTup, wLst, wLstF, wTe, tB0, wAnd, wOr, wNot, wAndV, wOrV, wNotV, wIfE, wCall, wCallG, wRaise, wFrz, fFrz, rets, fI, fI0, fAdd, fSub, fMul, fLt, fLe, fGt, fGe, fMod, fModN, fPow, fDiv, fDivG, fNeg, fEq, fNe, eqF_int, eqF_bl, eqF_str, scal_int, scal_bl, scal_str, fLen, sv, fIx, fAbs, fInt, fList, wSl, fSlL, oNo, oSo, lvr, lv, fCat, wMeL, fApp, fPop, fSetL, gSb, gTp, gCn, gNl, wPar, wBrk, wCnt, fIsi, wIsx, wYes, wip, wTr, truD, wTry, clrD, wFld, fieldsD, wSetF, wMeth, wMake, wIsX, wXf, wTryX, wRaiseL, wRaiseV, fCatM, fEqL, fStrI, fFmt, wJoin, wJs, wChain, wLR, wProp, fRepT, wDIn, wDNewT, fSetD, gLs, fIns, fPopAt, fClear, fTuple, fMin2, fMaxL, fAny, wRev, fRev, wDNew, wDNewF, wDsp1, wDsp1F, fAddS, fIsN, fNotN, um_same, um_um, st0, List.map_cons, List.map_nil, List.length_cons, List.length_nil, List.getElem?_cons_zero, List.getElem?_cons_succ, List.set_cons_zero, List.set_cons_succ, List.cons_append, List.nil_append, List.replicate, atI_c0, atI_c1, atI_c2, atI_c3, atI_c4, atI_c5, atI_c6, ixN_70, ixN_71, ixN_72, ixN_73, ixN_74, ixN_75, ixN_76, Nat.reduceAdd, Int.reduceToNat, Int.reducePow, ite_T, ite_F, if_dec, if_ndec, if_nb, true_and, if_true, Bool.false_eq_true, if_false])
local macro_rules | `(tactic| walk_at "u") => `(tactic| simp only [wSeq, wAugD, wAugN, fSetI, fLenS, fInS, fSort, fSortD, fSortSetI, fSortSetP, fRem, wNext, wIf, wRet, wRetN, wDrop, wAsg, gN, wVar, wC, wOp, wUn, wNil, wCons, wCB, wTup, wLst, wLstF, wTe, tB0, wAnd, wOr, wNot, wAndV, wOrV, wNotV, wIfE, wCall, wCallG, wRaise, rets, fI, fI0, fAdd, fSub, fMul, fLt, fLe, fGt, fGe, fMod, fModN, fPow, fDiv, fDivG, fNeg, fEq, fNe, eqF_int, eqF_bl, eqF_str, scal_int, scal_bl, scal_str, fLen, sv, fIx, fAbs, fInt, fList, wSl, fSlL, oNo, oSo, lvr, lv, fCat, wMeL, fApp, fPop, fSetL, gSb, gTp, gCn, gNl, wPar, wBrk, wCnt, fIsi, wIsx, wYes, wip, wTr, truD, wTry, clrD, wFld, fieldsD, wSetF, wMeth, wMake, wIsX, wXf, wTryX, wRaiseL, wRaiseV, fCatM, fEqL, fStrI, fFmt, wJoin, wJs, wChain, wLR, wProp, fRepT, wDIn, wDNewT, fSetD, gLs, fIns, fPopAt, fClear, fTuple, fMin2, fMaxL, fAny, wRev, fRev, wDNew, wDNewF, wDsp1, wDsp1F, fAddS, fIsN, fNotN, um_same, um_um, st0, List.map_cons, List.map_nil, List.length_cons, List.length_nil, List.getElem?_cons_zero, List.getElem?_cons_succ, List.set_cons_zero, List.set_cons_succ, List.cons_append, List.nil_append, List.replicate, atI_c0, atI_c1, atI_c2, atI_c3, atI_c4, atI_c5, atI_c6, ixN_70, ixN_71, ixN_72, ixN_73, ixN_74, ixN_75, ixN_76, Nat.reduceAdd, Int.reduceToNat, Int.reducePow, ite_T, ite_F, if_dec, if_ndec, if_nb, true_and, if_true, Bool.false_eq_true, if_false])
/-- different whole numbers, as data -/
theorem ints_by {l : List D} {f g : Int} (hg : 1 ≤ g) (h : ∀ (j : Nat) e, l[j]? = some e → ∃ x : Int, e = .int x ∧ f + g * j ≤ x ∧ x < f + g * (j + 1)) : ∃ ts : List Int, l = ts.map D.int ∧ ts.Nodup ∧ ts.length = l.length := by
  let un : D → Int := fun d => match d with | .int x => x | _ => 0
  have at_ : ∀ (j : Nat) (hj : j < l.length), ∃ x : Int, l[j] = .int x ∧ un l[j] = x ∧ f + g * j ≤ x ∧ x < f + g * (j + 1) := fun j hj => by
    obtain ⟨x, e, h1, h2⟩ := h j _ (List.getElem?_eq_getElem hj)
    exact ⟨x, e, by rw [e], h1, h2⟩
  refine ⟨l.map un, ?_, ?_, by rw [List.length_map]⟩
  · rw [List.map_map]
    refine List.ext_getElem (by rw [List.length_map]) fun j h1 h2 => ?_
    obtain ⟨x, e, eu, _⟩ := at_ j h1
    rw [List.getElem_map]
    show _ = D.int (un l[j])
    rw [eu, e]
  · refine List.pairwise_map.mpr (List.pairwise_iff_getElem.mpr fun a b ha hb lt => ?_)
    obtain ⟨x, _, ex, x1, x2⟩ := at_ a ha
    obtain ⟨y, _, ey, y1, y2⟩ := at_ b hb
    rw [ex, ey]
    have : g * ((a : Int) + 1) ≤ g * b := Int.mul_le_mul_of_nonneg_left (by omega) (by omega)
    omega
theorem perm_map {l' : List D} {ts : List Int} (p : l'.Perm (ts.map D.int)) : ∃ ts' : List Int, l' = ts'.map D.int ∧ ts'.Perm ts := by
  let un : D → Int := fun d => match d with | .int x => x | _ => 0
  have hu : ∀ x : Int, un (.int x) = x := fun x => rfl
  have e : (l'.map un).Perm ts := by
    have := p.map un
    rw [List.map_map] at this
    have e2 : ts.map (un ∘ D.int) = ts := by
      have : un ∘ D.int = id := by funext x; rfl
      rw [this, List.map_id]
    rw [e2] at this
    exact this
  refine ⟨l'.map un, ?_, e⟩
  rw [List.map_map]
  refine (List.map_id l').symm.trans (List.map_congr_left fun d hd => ?_)
  obtain ⟨x, _, rfl⟩ := List.mem_map.mp (p.mem_iff.mp hd)
  rfl
def c_law_web_tags (A : Ad) : Ct := fun ds μ Q _ => match ds with
  | [.mut p, .int many] => ∃ st, μ p = some (.lst st) ∧ StOk st ∧ 0 ≤ many ∧ many ≤ 40 ∧ ∀ (ts : List Int) (st' : List D), ts.Nodup → ts.length = many.toNat → StOk st' → Q (.lst (ts.map D.int)) (um μ p (.lst st'))
  | _ => False
abbrev s_law_web_tags : Stmt := top 23
theorem sc_law_web_tags : FnScope ["store", "many", "way", "first", "gap", "k"] ["store", "many"] (defScope s_law_web_tags) := ⟨rfl, rfl, rfl, by decide +kernel, rfl, by decide +kernel, by decide +kernel⟩
def w_law_web_tags_5 (A : Ad) (E : EX) : WS := (wRet (wCall (c_law_shuffled A) E (wCons (wVar 0) (wCons (wFrz (wLc (iR1 (wCons (wVar 1) wNil)) 5 [5] wYes (wOp fAdd (wOp fAdd (wVar 3) (wOp fMul (wVar 4) (wVar 5))) (wCall (c_law_take A) noE (wCons (wVar 0) (wCons (wVar 4) wNil)))))) wNil))))
def w_law_web_tags_4 (A : Ad) (E : EX) : WS := (wSeq (wIf (wAnd (wTe (wOp fEq (wVar 2) (wC (.int (3))))) (wTe (wOp fEq (wCall (c_law_take A) E (wCons (wVar 0) (wCons (wC (.int (2))) wNil))) (wC (.int (0)))))) (wAsg (wOp fSub (wOp fSub (wC (.int (0))) (wOp fPow (wC (.int (10))) (wC (.int (60))))) (wOp fPow (wC (.int (10))) (wC (.int (59))))) (gN 3)) wNext)
  (w_law_web_tags_5 A E))
def w_law_web_tags_3 (A : Ad) (E : EX) : WS := (wSeq (wIf (wTe (wOp fGt (wVar 2) (wC (.int (1))))) (wSeq (wAsg (wOp fAdd (wC (.int (1))) (wCall (c_law_take A) E (wCons (wVar 0) (wCons (wC (.int (5))) wNil)))) (gN 4))
  (wAsg (wOp fSub (wCall (c_law_take A) E (wCons (wVar 0) (wCons (wC (.int (30))) wNil))) (wC (.int (20)))) (gN 3))) wNext)
  (w_law_web_tags_4 A E))
def w_law_web_tags (A : Ad) (E : EX) : WS := (wSeq (wAsg (wCall (c_law_take A) E (wCons (wVar 0) (wCons (wC (.int (4))) wNil))) (gN 2))
  (wSeq (wAsg (wC (.int (0))) (gN 3))
  (wSeq (wAsg (wC (.int (1))) (gN 4))
  (w_law_web_tags_3 A E))))
theorem pure_law_web_tags (A : Ad) (ds μ Q E0) (h : c_law_web_tags A ds μ Q E0) : w_law_web_tags A (fun C fs _ μ => dwx E0 C fs μ) (rets Q) (st0 6 ds) μ := by
  unfold c_law_web_tags at h
  split at h
  · rename_i p many
    obtain ⟨st, hp, hst, m0, m40, h⟩ := h
    have r5 : ∀ (first gap way : Int) (st : List D), 1 ≤ gap → gap ≤ 5 → StOk st → w_law_web_tags_5 A (fun C fs x μ => dwx E0 C fs μ) (rets Q) [some (.mut p), some (.int many), some (.int way), some (.int first), some (.int gap), none] (um μ p (.lst st)) := by
      intro first gap way st g1 g5 hst
      unfold w_law_web_tags_5
      walk_at "u"
      simp only [wFrz, wUn]
      refine lc_drawI (p0 := p) (S := StOk) (P := fun j e => ∃ x : Int, e = .int x ∧ first + gap * j ≤ x ∧ x < first + gap * (j + 1)) (L := rng 0 many.toNat) um_same hst (fun R hR => ?_) (by rw [rng_len]; omega) (fun j d hd r l st R hr hne hst hR => ?_) (fun l st r hr hne hl hP hst => ?_)
      · simp only [iR1, wCons, wNil, wVar, List.getElem?_cons_zero, List.getElem?_cons_succ]
        exact ⟨⟨by omega, by omega⟩, hR (.fix _) rfl fun _ _ _ _ => trivial⟩
      · obtain ⟨hj, rfl⟩ := rng_at hd
        rw [um_um]
        have hr : μ r = none := by rw [um_ne hne] at hr; exact hr
        simp only [wip, wOp, wVar, wCall, wCons, wNil, fAdd, fMul, fI0, List.getElem?_cons_zero, List.getElem?_cons_succ, List.set_cons_zero, List.set_cons_succ]
        refine ⟨mulL ⟨by omega, by omega⟩, st, by rw [um_ne (Ne.symm hne), um_same], hst, bd_small (n := 2990) (by omega) (by omega), fun n st4 hs4 n0 n1 n2 => ?_⟩
        rw [um_swap hne, um_um]
        have := hR (.int (first + gap * (0 + (j : Nat)) + n)) st4 ⟨_, rfl, ?_, ?_⟩ hs4
        · rw [um_um] at this
          exact this
        · rw [Int.zero_add]; omega
        · rw [Int.zero_add, Int.mul_add, Int.mul_one]
          by_cases c : 2 ≤ gap
          · have := n1 c; omega
          · have := n2 (by omega); omega
      · obtain ⟨ts, rfl, nd, tl⟩ := ints_by g1 hP
        rw [List.length_map] at hl tl
        unfold fFrz
        dsimp only
        rw [um_same]
        dsimp only
        rw [um_um, rm_um (by rw [um_ne hne] at hr ⊢; exact hr)]
        refine ⟨st, um_same, hst, by rw [List.length_map, hl, rng_len]; omega, fun l' st' hpm hs' => ?_⟩
        obtain ⟨ts', rfl, pm⟩ := perm_map hpm
        rw [um_um]
        exact dwn.of (h ts' st' (pm.nodup_iff.mpr nd) (by rw [pm.length_eq, hl, rng_len]) hs')
    have r4 : ∀ (first gap way : Int) (st : List D), 1 ≤ gap → gap ≤ 5 → StOk st → w_law_web_tags_4 A (fun C fs x μ => dwx E0 C fs μ) (rets Q) [some (.mut p), some (.int many), some (.int way), some (.int first), some (.int gap), none] (um μ p (.lst st)) := by
      intro first gap way st g1 g5 hst
      unfold w_law_web_tags_4
      walk_at "u"
      have pw : ∀ j : Int, 0 ≤ j → j ≤ 1000000 → CPow 10 j := fun j h0 h1 => ⟨h0, h1, by decide⟩
      by_cases c : way = 3
      · simp only [c, decide_true, if_true]
        refine ⟨st, um_same, hst, bd_small (n := 2990) (by decide) (by decide), fun n st4 hs4 n0 n1 n2 => ?_⟩
        rw [um_um]
        refine ⟨rfl, ?_⟩
        by_cases c2 : n = 0
        · rw [if_pos (by rw [eqF_int]; simp [c2])]
          exact ⟨pw _ (by decide) (by decide), pw _ (by decide) (by decide), r5 _ _ _ _ g1 g5 hs4⟩
        · rw [if_neg (by rw [eqF_int]; simp [c2])]
          exact r5 _ _ _ _ g1 g5 hs4
      · simp only [c, decide_false, Bool.false_eq_true, if_false]
        exact r5 _ _ _ _ g1 g5 hst
    unfold w_law_web_tags
    walk_at "u"
    refine ⟨st, hp, hst, bd_small (n := 2990) (by decide) (by decide), fun way st1 hs1 w0 w1 w2 => ?_⟩
    unfold w_law_web_tags_3
    walk_at "u"
    refine ite2 (fun c => ?_) (fun c => r4 _ _ _ _ (by decide) (by decide) hs1)
    refine ⟨st1, um_same, hs1, bd_small (n := 2990) (by decide) (by decide), fun g st2 hs2 g0 g1 g2 => ?_⟩
    have g1 := g1 (by decide)
    refine ⟨st2, um_same, hs2, bd_small (n := 2990) (by decide) (by decide), fun f st3 hs3 f0 f1 f2 => ?_⟩
    rw [um_um, um_um]
    exact r4 _ _ _ _ (by omega) (by omega) hs3
  · exact h.elim
theorem len_law_web_tags (A : Ad) : ∀ ds μ Q E, c_law_web_tags A ds μ Q E → ds.length = 2 := by
  intro ds μ Q E h
  unfold c_law_web_tags at h
  first | (split at h) | (split at h)
  all_goals first | rfl | exact h.elim
theorem ok_law_web_tags {P : Program} {w : World} {K : PySem.W.Frag} {mg : Str → Option Value} {base : Heap} {A : Ad} (D : Dfn K mg "_law_web_tags" "_law_web_tags" s_law_web_tags ["store", "many"]) (T : Tx P w base K mg A) (G_law_shuffled : DfOk P w K mg base "_law_shuffled" 3 ["store", "things"] (c_law_shuffled A)) (G_law_take : DfOk P w K mg base "_law_take" 2 ["store", "many"] (c_law_take A)) : DfOk P w K mg base "_law_web_tags" 4 ["store", "many"] (c_law_web_tags A) := by
  obtain ⟨f, fd, F, hm, hb⟩ := D
  refine ⟨f, fd, okD F sc_law_web_tags (by decide) (len_law_web_tags A) ?_, hm, F.kp, hb⟩
  intro X W E cdv B outer s H Ex hX tk hp hr
  subst hX
  exact ⟨_, w_law_web_tags A E, (scons (sset (i := 2) (ecall2 tk G_law_take (hr.mono (by decide)) (acons (ev 0) (acons ei anil))) sc_law_web_tags.nd)
  (scons (sset (i := 3) ei sc_law_web_tags.nd)
  (scons (sset (i := 4) ei sc_law_web_tags.nd)
  (scons (sif (tc' op_gt do_gt (ev 2) ei) (scons (sset (i := 4) (eadd ei (ecall2 tk G_law_take (hr.mono (by decide)) (acons (ev 0) (acons ei anil)))) sc_law_web_tags.nd)
  (sone (sset (i := 3) (esub (ecall2 tk G_law_take (hr.mono (by decide)) (acons (ev 0) (acons ei anil))) ei) sc_law_web_tags.nd))) snil)
  (scons (sif (tbo (tand (tc' op_eq do_eq (ev 2) ei) (tand1 (tc' op_eq do_eq (ecall2 tk G_law_take (hr.mono (by decide)) (acons (ev 0) (acons ei anil))) ei)))) (sone (sset (i := 3) (esub (esub ei (epow ei ei)) (epow ei ei)) sc_law_web_tags.nd)) snil)
  (sone (sret (ecall2 tk G_law_shuffled (hr.mono (by decide)) (acons (ev 0) (acons (efrz (elcN sc_law_web_tags.nd [("k", 5)] 5 (ir1 T.b_range (acons (ev 1) anil)) (fun _ _ _ _ _ => gnmP 5 sc_law_web_tags.nd) (fun _ _ _ _ _ => ⟨_, tsnil⟩) (fun _ _ _ _ _ => ⟨_, (eadd (eadd (ev 3) (emul (ev 4) (ev 5))) (ecall2 takes_no G_law_take (hr.mono (by decide)) (acons (ev 0) (acons (ev 4) anil))))⟩))) anil)))))))))), fun ds μ Q E0 hc hE => by subst hE; exact pure_law_web_tags A ds μ Q E0 hc⟩
end K14
set_option maxHeartbeats 800000
namespace K14
open PySem L2 DL
local macro_rules | `(tactic| walk_at "w") => `(tactic| simp only [wSeq, wAugD, wAugN, fSetI, fLenS, fInS, fSort, fSortD, fSortSetI, fSortSetP, fRem, wNext, wIf, wRet, wRetN, wDrop, wAsg, gN, wVar, wC, wOp, wUn, wNil, wCons, wCB, wTup, wLst, wLstF, wTe, tB0, wAnd, wOr, wNot, wAndV, wOrV, wNotV, wIfE, wCall, wCallG, wRaise, wFrz, fFrz, rets, fI, fI0, fAdd, fSub, fMul, fLt, fLe, fGt, fGe, fMod, fModN, fPow, fDiv, fDivG, fNeg, fEq, fNe, eqF_int, eqF_bl, eqF_str, scal_int, scal_bl, scal_str, fLen, sv, fIx, fAbs, fInt, fList, wSl, fSlL, oNo, oSo, lvr, lv, fCat, wMeL, fApp, fPop, fSetL, gSb, iLs, iTp, iR1, iR2, wFor, gTp, gCn, gNl, wPar, wBrk, wCnt, fIsi, wIsx, wLc, wYes, wip, wTr, truD, wTry, clrD, wFld, fieldsD, wSetF, wMeth, wMake, wIsX, wXf, wTryX, wRaiseL, wRaiseV, fCatM, fEqL, fStrI, fFmt, wJoin, wJs, wChain, wLc2, wLR, wProp, fRepT, wDIn, wDNewT, fSetD, iR3, gLs, fIns, fPopAt, fClear, fTuple, fMin2, fMaxL, fAny, iEn, wRev, fRev, wDNew, wDNewF, wDsp1, wDsp1F, fAddS, fIsN, fNotN, um_same, um_um, st0, List.map_cons, List.map_nil, List.length_cons, List.length_nil, List.getElem?_cons_zero, List.getElem?_cons_succ, List.set_cons_zero, List.set_cons_succ, List.cons_append, List.nil_append, List.replicate, atI_c0, atI_c1, atI_c2, atI_c3, atI_c4, atI_c5, atI_c6, ixN_70, ixN_71, ixN_72, ixN_73, ixN_74, ixN_75, ixN_76, Nat.reduceAdd, Int.reduceToNat, Int.reducePow, ite_T, ite_F, if_dec, if_ndec, if_nb, true_and, if_true, Bool.false_eq_true, if_false])
local macro_rules | `(tactic| walk_at "v") => `(tactic| simp only [wSeq, wAugD, wAugN, fSetI, fLenS, fInS, fSort, fSortD, fSortSetI, fSortSetP, fRem, wNext, wIf, wRet, wRetN, wDrop, wAsg, gN, wVar, wC, wOp, wUn, wNil, wCons, wCB, wTup, wLst, wLstF, wTe, tB0, wAnd, wOr, wNot, wAndV, wOrV, wNotV, wIfE, wCall, wCallG, wRaise, wFrz, fFrz, rets, fI, fI0, fAdd, fSub, fMul, fLt, fLe, fGt, fGe, fMod, fModN, fPow, fDiv, fDivG, fNeg, fEq, fNe, eqF_int, eqF_bl, eqF_str, scal_int, scal_bl, scal_str, fLen, sv, fIx, fAbs, fInt, fList, wSl, fSlL, oNo, oSo, lvr, lv, fCat, wMeL, fApp, fPop, fSetL, gSb, gTp, gCn, gNl, wPar, wBrk, wCnt, fIsi, wIsx, wYes, wip, wTr, truD, wTry, clrD, wFld, fieldsD, wSetF, wMeth, wMake, wIsX, wXf, wTryX, wRaiseL, wRaiseV, fCatM, fEqL, fStrI, fFmt, wJoin, wJs, wChain, wLR, wProp, fRepT, wDIn, wDNewT, fSetD, gLs, fIns, fPopAt, fClear, fTuple, fMin2, fMaxL, fAny, wRev, fRev, wDNew, wDNewF, wDsp1, wDsp1F, fAddS, fIsN, fNotN, um_same, um_um, st0, List.map_cons, List.map_nil, List.length_cons, List.length_nil, List.getElem?_cons_zero, List.getElem?_cons_succ, List.set_cons_zero, List.set_cons_succ, List.cons_append, List.nil_append, List.replicate, atI_c0, atI_c1, atI_c2, atI_c3, atI_c4, atI_c5, atI_c6, ixN_70, ixN_71, ixN_72, ixN_73, ixN_74, ixN_75, ixN_76, Nat.reduceAdd, Int.reduceToNat, Int.reducePow, ite_T, ite_F, if_dec, if_ndec, if_nb, true_and, if_true, Bool.false_eq_true, if_false])
local macro_rules | `(tactic| walk_at "u") => `(tactic| simp only [wSeq, wAugD, wAugN, fSetI, fLenS, fInS, fSort, fSortD, fSortSetI, fSortSetP, fRem, wNext, wIf, wRet, wRetN, wDrop, wAsg, gN, wVar, wC, wOp, wUn, wNil, wCons, wCB, wTup, wLst, wLstF, wTe, tB0, wAnd, wOr, wNot, wAndV, wOrV, wNotV, wIfE, wCall, wCallG, wRaise, rets, fI, fI0, fAdd, fSub, fMul, fLt, fLe, fGt, fGe, fMod, fModN, fPow, fDiv, fDivG, fNeg, fEq, fNe, eqF_int, eqF_bl, eqF_str, scal_int, scal_bl, scal_str, fLen, sv, fIx, fAbs, fInt, fList, wSl, fSlL, oNo, oSo, lvr, lv, fCat, wMeL, fApp, fPop, fSetL, gSb, gTp, gCn, gNl, wPar, wBrk, wCnt, fIsi, wIsx, wYes, wip, wTr, truD, wTry, clrD, wFld, fieldsD, wSetF, wMeth, wMake, wIsX, wXf, wTryX, wRaiseL, wRaiseV, fCatM, fEqL, fStrI, fFmt, wJoin, wJs, wChain, wLR, wProp, fRepT, wDIn, wDNewT, fSetD, gLs, fIns, fPopAt, fClear, fTuple, fMin2, fMaxL, fAny, wRev, fRev, wDNew, wDNewF, wDsp1, wDsp1F, fAddS, fIsN, fNotN, um_same, um_um, st0, List.map_cons, List.map_nil, List.length_cons, List.length_nil, List.getElem?_cons_zero, List.getElem?_cons_succ, List.set_cons_zero, List.set_cons_succ, List.cons_append, List.nil_append, List.replicate, atI_c0, atI_c1, atI_c2, atI_c3, atI_c4, atI_c5, atI_c6, ixN_70, ixN_71, ixN_72, ixN_73, ixN_74, ixN_75, ixN_76, Nat.reduceAdd, Int.reduceToNat, Int.reducePow, ite_T, ite_F, if_dec, if_ndec, if_nb, true_and, if_true, Bool.false_eq_true, if_false])
def Gd (ts : List Int) (ps : List I2) : Prop := ∀ p ∈ ps, p.1 ∈ ts ∧ p.2 ∈ ts ∧ p.1 ≠ p.2
theorem Gd.add {ts : List Int} {ps : List I2} {a b : Nat} {x y : Int} (h : Gd ts ps) (nd : ts.Nodup) (ha : ts[a]? = some x) (hb : ts[b]? = some y) (ne : a ≠ b) : Gd ts (ps ++ [(x, y)]) := by
  intro p hp
  rcases List.mem_append.mp hp with z | z
  · exact h p z
  · obtain rfl := List.mem_singleton.mp z
    exact ⟨List.mem_of_getElem? ha, List.mem_of_getElem? hb, fun e => ne ((List.getElem?_inj (List.getElem?_eq_some_iff.mp ha).1 nd).mp (ha.trans ((congrArg some (show x = y from e)).trans hb.symm)))⟩
theorem at_int {ts : List Int} {i : Int} (h0 : 0 ≤ i) (h1 : i < ts.length) : ∃ x, atI (ts.map D.int) i = some (.int x) ∧ ts[i.toNat]? = some x := by
  obtain ⟨d, e1, _, e2⟩ := atI_in (l := ts.map D.int) h0 (by rw [List.length_map]; exact h1)
  obtain ⟨x, hx, rfl⟩ := map_at e2
  exact ⟨x, e1, hx⟩
def c_law_links (A : Ad) : Ct := fun ds μ Q _ => match ds with
  | [.mut p, .lst T, .int most, .int r] => ∃ (st : List D) (ts : List Int), T = ts.map D.int ∧ μ p = some (.lst st) ∧ StOk st ∧ ts.Nodup ∧ ts.length ≤ 40 ∧ 0 ≤ most ∧ most ≤ 200 ∧ ∀ (ps : List I2) (st' : List D), Gd ts ps → ps.length ≤ most.toNat → StOk st' → Q (.lst (ps.map pD)) (um μ p (.lst st'))
  | _ => False
abbrev s_law_links : Stmt := top 24
theorem sc_law_links : FnScope ["store", "tags", "most", "ringless", "arrows", "turn", "one", "two"] ["store", "tags", "most", "ringless"] (defScope s_law_links) := ⟨rfl, rfl, rfl, by decide +kernel, rfl, by decide +kernel, by decide +kernel⟩
def w_law_links_b1 (A : Ad) (E : EX) : WS := (wSeq (wAsg (wCall (c_law_take A) E (wCons (wVar 0) (wCons (wCB fLen (wCons (wVar 1) wNil)) wNil))) (gN 6))
  (wSeq (wAsg (wOp fMod (wCB fInt (wCons (wOp fAdd (wOp fAdd (wVar 6) (wC (.int (1)))) (wCall (c_law_take A) E (wCons (wVar 0) (wCons (wOp fSub (wCB fLen (wCons (wVar 1) wNil)) (wC (.int (1)))) wNil)))) wNil)) (wCB fLen (wCons (wVar 1) wNil))) (gN 7))
  (wIf (wAnd (wTe (wOp fEq (wVar 3) (wC (.int (1))))) (wTe (wOp fLt (wVar 6) (wVar 7)))) (wDrop (wMeL fApp (wVar 4) (wCons (wTup (wCons (wOp fIx (wVar 1) (wVar 7)) (wCons (wOp fIx (wVar 1) (wVar 6)) wNil))) wNil))) (wDrop (wMeL fApp (wVar 4) (wCons (wTup (wCons (wOp fIx (wVar 1) (wVar 6)) (wCons (wOp fIx (wVar 1) (wVar 7)) wNil))) wNil))))))
def w_law_links_2 (A : Ad) (E : EX) : WS := (wSeq (wFor (iR1 (wCons (wCall (c_law_take A) E (wCons (wVar 0) (wCons (wOp fAdd (wVar 2) (wC (.int (1)))) wNil))) wNil)) (gN 5) (w_law_links_b1 A E))
  (wRet (wFrz (wVar 4))))
def w_law_links (A : Ad) (E : EX) : WS := (wSeq (wAsg (wLst wNil) (gN 4))
  (wSeq (wIf (wTe (wOp fLt (wCB fLen (wCons (wVar 1) wNil)) (wC (.int (2))))) (wRet (wLstF wNil)) wNext)
  (w_law_links_2 A E)))
theorem pure_law_links (A : Ad) (ds μ Q E0) (h : c_law_links A ds μ Q E0) : w_law_links A (fun C fs _ μ => dwx E0 C fs μ) (rets Q) (st0 8 ds) μ := by
  unfold c_law_links at h
  split at h
  · rename_i p T most r
    obtain ⟨st, ts, rfl, hp, hst, nd, hl, m0, m2, h⟩ := h
    unfold w_law_links
    walk_at "u"
    refine ⟨by decide, fun a ha => ?_⟩
    have hpa : a ≠ p := fun e => by rw [e, hp] at ha; cases ha
    rw [List.length_map]
    refine ite2 (fun c => ?_) (fun c => ?_)
    · refine ⟨by decide, μ, le.um ha, ?_⟩
      have := h [] st (fun p hp => nomatch hp) (Nat.zero_le _) hst
      rw [um_id hp] at this
      exact this
    · have l2 : 2 ≤ ts.length := by omega
      unfold w_law_links_2
      simp only [wSeq, wFor, iR1, wCall, wOp, wCons, wNil, wVar, wC, fAdd, fI0, List.getElem?_cons_zero, List.getElem?_cons_succ]
      refine ⟨st, by rw [um_ne (Ne.symm hpa)]; exact hp, hst, bd_small (n := 2990) (by omega) (by omega), fun n st1 hs1 n0 n1 n2 => ?_⟩
      have nm : n ≤ most := by
        by_cases c : 2 ≤ most + 1
        · have := n1 c; omega
        · have := n2 (by omega); omega
      rw [um_comm hpa]
      refine ⟨⟨by omega, by omega⟩, fun i ρ μ' => ∃ (st : List D) (ps : List I2) (r5 r6 r7 : Option D), μ' = um (um μ p (.lst st)) a (.lst (ps.map pD)) ∧ StOk st ∧ Gd ts ps ∧ ps.length = i ∧ ρ = [some (.mut p), some (.lst (ts.map D.int)), some (.int most), some (.int r), some (.mut a), r5, r6, r7], ⟨st1, [], _, _, _, rfl, hs1, (fun p hp => nomatch hp), rfl, rfl⟩, fun _ _ _ _ => trivial, ?_, ?_⟩
      · rintro i d ρ μ' hd ⟨st, ps, r5, r6, r7, rfl, hst, gd, hi, rfl⟩
        rw [fixi] at hd
        obtain ⟨hin, rfl⟩ := rng_at hd
        unfold w_law_links_b1
        walk_at "u"
        rw [List.length_map]
        refine ⟨st, by rw [um_ne (Ne.symm hpa), um_same], hst, bd_small (n := 2990) (by omega) (by omega), fun one st2 hs2 o0 o1 _ => ?_⟩
        have o1 := o1 (by omega)
        rw [um_comm hpa, um_um]
        refine ⟨st2, by rw [um_ne (Ne.symm hpa), um_same], hs2, bd_small (n := 2990) (by omega) (by omega), fun t st3 hs3 t0 t1 t2 => ?_⟩
        have t3 : t < (ts.length : Int) - 1 := by
          by_cases c : 2 ≤ (ts.length : Int) - 1
          · exact t1 c
          · have := t2 (by omega); omega
        rw [um_comm hpa, um_um]
        walk_at "u"
        have l0 : (0 : Int) < ts.length := by omega
        have w0 := Int.emod_nonneg (one + 1 + t) (show (ts.length : Int) ≠ 0 by omega)
        have w1 := Int.emod_lt_of_pos (one + 1 + t) l0
        have wne : (one + 1 + t) % (ts.length : Int) ≠ one := fun e => by
          have := Int.emod_add_mul_ediv (one + 1 + t) (ts.length : Int)
          rw [e] at this
          have h1 : (ts.length : Int) * ((one + 1 + t) / (ts.length : Int)) = 1 + t := by omega
          have h2 : (1 : Int) + t < ts.length := by omega
          generalize hq : (one + 1 + t) / (ts.length : Int) = q at h1
          rcases Int.lt_or_le q 1 with c | c
          · have : (ts.length : Int) * q ≤ 0 := Int.mul_nonpos_of_nonneg_of_nonpos (by omega) (by omega)
            omega
          · have : (ts.length : Int) * 1 ≤ (ts.length : Int) * q := Int.mul_le_mul_of_nonneg_left c (by omega)
            omega
        obtain ⟨x, ex, gx⟩ := at_int o0 o1
        obtain ⟨y, ey, gy⟩ := at_int w0 w1
        simp only [ex, ey]
        have lp : (ps.map pD).length < 100000 := by rw [List.length_map]; omega
        have na : one.toNat ≠ ((one + 1 + t) % (ts.length : Int)).toNat := by omega
        have ap : ∀ u v : Int, ps.map pD ++ [D.tup [.int u, .int v]] = (ps ++ [(u, v)]).map pD := fun u v => by rw [List.map_append]; rfl
        have m : ∃ p_1 l, D.mut a = D.mut p_1 ∧ um (um μ p (.lst st3)) a (.lst (ps.map pD)) p_1 = some (.lst l) := ⟨a, _, rfl, um_same⟩
        have f1 : wk (fun ρ μ' => ∃ (st : List D) (ps : List I2) (r5 r6 r7 : Option D), μ' = um (um μ p (.lst st)) a (.lst (ps.map pD)) ∧ StOk st ∧ Gd ts ps ∧ ps.length = i + 1 ∧ ρ = [some (.mut p), some (.lst (ts.map D.int)), some (.int most), some (.int r), some (.mut a), r5, r6, r7]) [some (.mut p), some (.lst (ts.map D.int)), some (.int most), some (.int r), some (.mut a), some (.int (0 + (i : Nat))), some (.int one), some (.int ((one + 1 + t) % (ts.length : Int)))] (um (um μ p (.lst st3)) a (.lst (ps.map pD ++ [D.tup [.int x, .int y]]))) := wk.of ⟨st3, _, _, _, _, by rw [ap], hs3, gd.add nd gx gy na, by rw [List.length_append, hi]; rfl, rfl⟩
        have f2 : wk (fun ρ μ' => ∃ (st : List D) (ps : List I2) (r5 r6 r7 : Option D), μ' = um (um μ p (.lst st)) a (.lst (ps.map pD)) ∧ StOk st ∧ Gd ts ps ∧ ps.length = i + 1 ∧ ρ = [some (.mut p), some (.lst (ts.map D.int)), some (.int most), some (.int r), some (.mut a), r5, r6, r7]) [some (.mut p), some (.lst (ts.map D.int)), some (.int most), some (.int r), some (.mut a), some (.int (0 + (i : Nat))), some (.int one), some (.int ((one + 1 + t) % (ts.length : Int)))] (um (um μ p (.lst st3)) a (.lst (ps.map pD ++ [D.tup [.int y, .int x]]))) := wk.of ⟨st3, _, _, _, _, by rw [ap], hs3, gd.add nd gy gx (Ne.symm na), by rw [List.length_append, hi]; rfl, rfl⟩
        refine ⟨l0, ?_⟩
        split
        · split
          · exact ⟨m, by decide, lp, f2⟩
          · exact ⟨m, by decide, lp, f1⟩
        · exact ⟨m, by decide, lp, f1⟩
      · rintro ρ μ' ⟨st, ps, r5, r6, r7, rfl, hst, gd, hi, rfl⟩
        rw [fixi, rng_len] at hi
        walk_at "w"
        rw [rm_um (by rw [um_ne hpa]; exact ha)]
        exact dwn.of (h ps st gd (by omega) hst)
  · exact h.elim
theorem len_law_links (A : Ad) : ∀ ds μ Q E, c_law_links A ds μ Q E → ds.length = 4 := by
  intro ds μ Q E h
  unfold c_law_links at h
  first | (split at h) | (split at h)
  all_goals first | rfl | exact h.elim
theorem ok_law_links {P : Program} {w : World} {K : PySem.W.Frag} {mg : Str → Option Value} {base : Heap} {A : Ad} (D : Dfn K mg "_law_links" "_law_links" s_law_links ["store", "tags", "most", "ringless"]) (T : Tx P w base K mg A) (G_law_take : DfOk P w K mg base "_law_take" 2 ["store", "many"] (c_law_take A)) : DfOk P w K mg base "_law_links" 3 ["store", "tags", "most", "ringless"] (c_law_links A) := by
  obtain ⟨f, fd, F, hm, hb⟩ := D
  refine ⟨f, fd, okD F sc_law_links (by decide) (len_law_links A) ?_, hm, F.kp, hb⟩
  intro X W E cdv B outer s H Ex hX tk hp hr
  subst hX
  exact ⟨_, w_law_links A E, (scons (sset (i := 4) (elst anil) sc_law_links.nd)
  (scons (sif (tc' op_lt do_lt (ecb call_len_seq dc_len T.b_len (acons (ev 1) anil)) ei) (sone (sret (elstF anil))) snil)
  (scons (sfor hp (ir1 T.b_range (acons (ecall2 tk G_law_take (hr.mono (by decide)) (acons (ev 0) (acons (eadd (ev 2) ei) anil))) anil)) (gnm 5 sc_law_links.nd) (scons (sset (i := 6) (ecall2 tk G_law_take (hr.mono (by decide)) (acons (ev 0) (acons (ecb call_len_seq dc_len T.b_len (acons (ev 1) anil)) anil))) sc_law_links.nd)
  (scons (sset (i := 7) (emod (ecty call_int1 dc_int T.b_int (acons (eadd (eadd (ev 6) ei) (ecall2 tk G_law_take (hr.mono (by decide)) (acons (ev 0) (acons (esub (ecb call_len_seq dc_len T.b_len (acons (ev 1) anil)) ei) anil)))) anil)) (ecb call_len_seq dc_len T.b_len (acons (ev 1) anil))) sc_law_links.nd)
  (sone (sif (tbo (tand (tc' op_eq do_eq (ev 3) ei) (tand1 (tc' op_lt do_lt (ev 6) (ev 7))))) (sone (sexpr (eapp (ev 4) (acons (etup (acons (eix (ev 1) (ev 7)) (acons (eix (ev 1) (ev 6)) anil))) anil)))) (sone (sexpr (eapp (ev 4) (acons (etup (acons (eix (ev 1) (ev 6)) (acons (eix (ev 1) (ev 7)) anil))) anil)))))))))
  (sone (sret (efrz (ev 4))))))), fun ds μ Q E0 hc hE => by subst hE; exact pure_law_links A ds μ Q E0 hc⟩
end K14
set_option maxHeartbeats 800000
namespace K14
open PySem L2 DL
local macro_rules | `(tactic| walk_at "w") => `(tactic| simp only [wSeq, wAugD, wAugN, fSetI, fLenS, fInS, fSort, fSortD, fSortSetI, fSortSetP, fRem, wNext, wIf, wRet, wRetN, wDrop, wAsg, gN, wVar, wC, wOp, wUn, wNil, wCons, wCB, wTup, wLst, wLstF, wTe, tB0, wAnd, wOr, wNot, wAndV, wOrV, wNotV, wIfE, wCall, wCallG, wRaise, wFrz, fFrz, rets, fI, fI0, fAdd, fSub, fMul, fLt, fLe, fGt, fGe, fMod, fModN, fPow, fDiv, fDivG, fNeg, fEq, fNe, eqF_int, eqF_bl, eqF_str, scal_int, scal_bl, scal_str, fLen, sv, fIx, fAbs, fInt, fList, wSl, fSlL, oNo, oSo, lvr, lv, fCat, wMeL, fApp, fPop, fSetL, gSb, iLs, iTp, iR1, iR2, wFor, gTp, gCn, gNl, wPar, wBrk, wCnt, fIsi, wIsx, wLc, wYes, wip, wTr, truD, wTry, clrD, wFld, fieldsD, wSetF, wMeth, wMake, wIsX, wXf, wTryX, wRaiseL, wRaiseV, fCatM, fEqL, fStrI, fFmt, wJoin, wJs, wChain, wLc2, wLR, wProp, fRepT, wDIn, wDNewT, fSetD, iR3, gLs, fIns, fPopAt, fClear, fTuple, fMin2, fMaxL, fAny, iEn, wRev, fRev, wDNew, wDNewF, wDsp1, wDsp1F, fAddS, fIsN, fNotN, um_same, um_um, st0, List.map_cons, List.map_nil, List.length_cons, List.length_nil, List.getElem?_cons_zero, List.getElem?_cons_succ, List.set_cons_zero, List.set_cons_succ, List.cons_append, List.nil_append, List.replicate, atI_c0, atI_c1, atI_c2, atI_c3, atI_c4, atI_c5, atI_c6, ixN_70, ixN_71, ixN_72, ixN_73, ixN_74, ixN_75, ixN_76, Nat.reduceAdd, Int.reduceToNat, Int.reducePow, ite_T, ite_F, if_dec, if_ndec, if_nb, true_and, if_true, Bool.false_eq_true, if_false])
local macro_rules | `(tactic| walk_at "v") => `(tactic| simp only [wSeq, wAugD, wAugN, fSetI, fLenS, fInS, fSort, fSortD, fSortSetI, fSortSetP, fRem, wNext, wIf, wRet, wRetN, wDrop, wAsg, gN, wVar, wC, wOp, wUn, wNil, wCons, wCB, wTup, wLst, wLstF, wTe, tB0, wAnd, wOr, wNot, wAndV, wOrV, wNotV, wIfE, wCall, wCallG, wRaise, wFrz, fFrz, rets, fI, fI0, fAdd, fSub, fMul, fLt, fLe, fGt, fGe, fMod, fModN, fPow, fDiv, fDivG, fNeg, fEq, fNe, eqF_int, eqF_bl, eqF_str, scal_int, scal_bl, scal_str, fLen, sv, fIx, fAbs, fInt, fList, wSl, fSlL, oNo, oSo, lvr, lv, fCat, wMeL, fApp, fPop, fSetL, gSb, gTp, gCn, gNl, wPar, wBrk, wCnt, fIsi, wIsx, wYes, wip, wTr, truD, wTry, clrD, wFld, fieldsD, wSetF, wMeth, wMake, wIsX, wXf, wTryX, wRaiseL, wRaiseV, fCatM, fEqL, fStrI, fFmt, wJoin, wJs, wChain, wLR, wProp, fRepT, wDIn, wDNewT, fSetD, gLs, fIns, fPopAt, fClear, fTuple, fMin2, fMaxL, fAny, wRev, fRev, wDNew, wDNewF, wDsp1, wDsp1F, fAddS, fIsN, fNotN, um_same, um_um, st0, List.map_cons, List.map_nil, List.length_cons, List.length_nil, List.getElem?_cons_zero, List.getElem?_cons_succ, List.set_cons_zero, List.set_cons_succ, List.cons_append, List.nil_append, List.replicate, atI_c0, atI_c1, atI_c2, atI_c3, atI_c4, atI_c5, atI_c6, ixN_70, ixN_71, ixN_72, ixN_73, ixN_74, ixN_75, ixN_76, Nat.reduceAdd, Int.reduceToNat, Int.reducePow, ite_T, ite_F, if_dec, if_ndec, if_nb, true_and, if_true, Bool.false_eq_true, if_false])
local macro_rules | `(tactic| walk_at "u") => `(tactic| simp only [wSeq, wAugD, wAugN, fSetI, fLenS, fInS, fSort, fSortD, fSortSetI, fSortSetP, fRem, wNext, wIf, wRet, wRetN, wDrop, wAsg, gN, wVar, wC, wOp, wUn, wNil, wCons, wCB, wTup, wLst, wLstF, wTe, tB0, wAnd, wOr, wNot, wAndV, wOrV, wNotV, wIfE, wCall, wCallG, wRaise, rets, fI, fI0, fAdd, fSub, fMul, fLt, fLe, fGt, fGe, fMod, fModN, fPow, fDiv, fDivG, fNeg, fEq, fNe, eqF_int, eqF_bl, eqF_str, scal_int, scal_bl, scal_str, fLen, sv, fIx, fAbs, fInt, fList, wSl, fSlL, oNo, oSo, lvr, lv, fCat, wMeL, fApp, fPop, fSetL, gSb, gTp, gCn, gNl, wPar, wBrk, wCnt, fIsi, wIsx, wYes, wip, wTr, truD, wTry, clrD, wFld, fieldsD, wSetF, wMeth, wMake, wIsX, wXf, wTryX, wRaiseL, wRaiseV, fCatM, fEqL, fStrI, fFmt, wJoin, wJs, wChain, wLR, wProp, fRepT, wDIn, wDNewT, fSetD, gLs, fIns, fPopAt, fClear, fTuple, fMin2, fMaxL, fAny, wRev, fRev, wDNew, wDNewF, wDsp1, wDsp1F, fAddS, fIsN, fNotN, um_same, um_um, st0, List.map_cons, List.map_nil, List.length_cons, List.length_nil, List.getElem?_cons_zero, List.getElem?_cons_succ, List.set_cons_zero, List.set_cons_succ, List.cons_append, List.nil_append, List.replicate, atI_c0, atI_c1, atI_c2, atI_c3, atI_c4, atI_c5, atI_c6, ixN_70, ixN_71, ixN_72, ixN_73, ixN_74, ixN_75, ixN_76, Nat.reduceAdd, Int.reduceToNat, Int.reducePow, ite_T, ite_F, if_dec, if_ndec, if_nb, true_and, if_true, Bool.false_eq_true, if_false])
theorem cut_at {ts : List Int} {c m : Nat} (h : c + m ≤ ts.length) : cutD (ts.map D.int) (some (c : Nat)) (some ((c : Nat) + (m : Nat) : Int)) = ((ts.drop c).take m).map D.int := by
  have e1 : ∀ d : Nat, HT.sIx (ts.map D.int).length d (some ((c : Nat) : Int)) = c := fun d => by
    rw [List.length_map]
    unfold HT.sIx
    dsimp only
    split <;> omega
  have e2 : ∀ d : Nat, HT.sIx (ts.map D.int).length d (some ((c : Nat) + (m : Nat) : Int)) = c + m := fun d => by
    rw [List.length_map]
    unfold HT.sIx
    dsimp only
    split <;> omega
  unfold cutD
  rw [e1, e2, Nat.add_sub_cancel_left, List.map_take, List.map_drop]
theorem Gd.app {ts : List Int} {ps qs : List I2} (h : Gd ts ps) (h2 : Gd ts qs) : Gd ts (ps ++ qs) := fun p hp => (List.mem_append.mp hp).elim (h p) (h2 p)
def c_law_planted (A : Ad) : Ct := fun ds μ Q _ => match ds with
  | [.mut p, .lst T] => ∃ (st : List D) (ts : List Int), T = ts.map D.int ∧ μ p = some (.lst st) ∧ StOk st ∧ ts.Nodup ∧ ts.length ≤ 40 ∧ ∀ (ps : List I2) (st' : List D), Gd ts ps → ps.length ≤ 80 → StOk st' → Q (.lst (ps.map pD)) (um μ p (.lst st'))
  | _ => False
abbrev s_law_planted : Stmt := top 30
theorem sc_law_planted : FnScope ["store", "tags", "arrows", "cut", "turn", "many", "block", "k"] ["store", "tags"] (defScope s_law_planted) := ⟨rfl, rfl, rfl, by decide +kernel, rfl, by decide +kernel, by decide +kernel⟩
def w_law_planted_b1 (A : Ad) (E : EX) : WS := (wIf (wTe (wOp fGt (wVar 5) (wC (.int (1))))) (wDrop (wMeL fApp (wVar 2) (wCons (wTup (wCons (wOp fIx (wVar 6) (wOp fMod (wCB fInt (wCons (wOp fAdd (wVar 7) (wC (.int (1)))) wNil)) (wVar 5))) (wCons (wOp fIx (wVar 6) (wVar 7)) wNil))) wNil))) wNext)
def w_law_planted_b2 (A : Ad) (E : EX) : WS := (wIf (wTe (wOp fLt (wVar 3) (wCB fLen (wCons (wVar 1) wNil)))) (wSeq (wAsg (wOp fAdd (wC (.int (1))) (wCall (c_law_take A) E (wCons (wVar 0) (wCons (wCB fMin2 (wCons (wC (.int (4))) (wCons (wOp fSub (wCB fLen (wCons (wVar 1) wNil)) (wVar 3)) wNil))) wNil)))) (gN 5))
  (wSeq (wAsg (wSl fSlL (wVar 1) (oSo (wVar 3)) (oSo (wOp fAdd (wVar 3) (wVar 5)))) (gN 6))
  (wSeq (wFor (iR1 (wCons (wVar 5) wNil)) (gN 7) (w_law_planted_b1 A E))
  (wAsg (wOp fAdd (wVar 3) (wVar 5)) (gN 3))))) wNext)
def w_law_planted_2 (A : Ad) (E : EX) : WS := (wSeq (wFor (iR1 (wCons (wCB fLen (wCons (wVar 1) wNil)) wNil)) (gN 4) (w_law_planted_b2 A E))
  (wRet (wOp fCat (wVar 2) (wCall (c_law_links A) E (wCons (wVar 0) (wCons (wVar 1) (wCons (wCB fLen (wCons (wVar 1) wNil)) (wCons (wC (.int (1))) wNil))))))))
def w_law_planted (A : Ad) (E : EX) : WS := (wSeq (wAsg (wLst wNil) (gN 2))
  (wSeq (wAsg (wC (.int (0))) (gN 3))
  (w_law_planted_2 A E)))
theorem pure_law_planted (A : Ad) (ds μ Q E0) (h : c_law_planted A ds μ Q E0) : w_law_planted A (fun C fs _ μ => dwx E0 C fs μ) (rets Q) (st0 8 ds) μ := by
  unfold c_law_planted at h
  split at h
  · rename_i p T
    obtain ⟨st, ts, rfl, hp, hst, nd, hl, h⟩ := h
    unfold w_law_planted
    walk_at "w"
    refine ⟨by decide, fun a ha => ?_⟩
    have hpa : a ≠ p := fun e => by rw [e, hp] at ha; cases ha
    have e0 : um μ a (.lst []) = um (um μ p (.lst st)) a (.lst []) := by rw [um_id hp]
    rw [e0]
    unfold w_law_planted_2
    simp only [wSeq, wFor, iR1, wCall, wOp, wCB, wCons, wNil, wVar, wC, fAdd, fI0, fLen, sv, List.getElem?_cons_zero, List.getElem?_cons_succ]
    refine ⟨⟨by omega, by rw [List.length_map]; omega⟩, fun i ρ μ' => ∃ (st : List D) (ps : List I2) (c : Nat) (r4 r5 r6 r7 : Option D), μ' = um (um μ p (.lst st)) a (.lst (ps.map pD)) ∧ StOk st ∧ Gd ts ps ∧ ps.length ≤ c ∧ c ≤ ts.length ∧ ρ = [some (.mut p), some (.lst (ts.map D.int)), some (.mut a), some (.int c), r4, r5, r6, r7], ⟨st, [], 0, _, _, _, _, rfl, hst, (fun p hp => nomatch hp), by decide, by omega, rfl⟩, fun _ _ _ _ => trivial, ?_, ?_⟩
    · rintro i d ρ μ' hd ⟨st, ps, c, r4, r5, r6, r7, rfl, hst, gd, hc, cl, rfl⟩
      rw [fixi] at hd
      obtain ⟨hin, rfl⟩ := rng_at hd
      unfold w_law_planted_b2
      walk_at "u"
      rw [List.length_map]
      refine ite2 (fun lt => ?_) (fun ge => wk.of ⟨st, ps, c, _, _, _, _, rfl, hst, gd, by omega, cl, rfl⟩)
      have m4 : (if (ts.length : Int) - (c : Nat) < 4 then (ts.length : Int) - (c : Nat) else 4) ≤ 4 ∧ (if (ts.length : Int) - (c : Nat) < 4 then (ts.length : Int) - (c : Nat) else 4) ≤ (ts.length : Int) - (c : Nat) ∧ 1 ≤ (if (ts.length : Int) - (c : Nat) < 4 then (ts.length : Int) - (c : Nat) else 4) := by split <;> omega
      generalize (if (ts.length : Int) - (c : Nat) < 4 then (ts.length : Int) - (c : Nat) else 4) = m at m4 ⊢
      obtain ⟨m4, m5, m6⟩ := m4
      refine ⟨st, by rw [um_ne (Ne.symm hpa), um_same], hst, bd_small (n := 2990) (by omega) (by omega), fun n st1 hs1 n0 n1 n2 => ?_⟩
      have n3 : n < m := by
        by_cases c : 2 ≤ m
        · exact n1 c
        · have := n2 (by omega); omega
      obtain ⟨k, rfl⟩ : ∃ k : Nat, n = (k : Nat) := ⟨n.toNat, by omega⟩
      rw [um_comm hpa, um_um]
      dsimp only
      have e1 : (1 : Int) + (k : Nat) = ((1 + k : Nat) : Int) := by omega
      rw [e1, cut_at (by omega)]
      simp only [wFor, iR1, wCons, wNil, wVar, List.getElem?_cons_zero, List.getElem?_cons_succ]
      refine ⟨⟨by omega, by omega⟩, fun j ρ μ' => ∃ (ps : List I2) (r7 : Option D), μ' = um (um μ p (.lst st1)) a (.lst (ps.map pD)) ∧ Gd ts ps ∧ ps.length ≤ c + j ∧ ρ = [some (.mut p), some (.lst (ts.map D.int)), some (.mut a), some (.int c), some (.int (0 + (i : Nat))), some (.int ((1 + k : Nat) : Int)), some (.lst (((ts.drop c).take (1 + k)).map D.int)), r7], ⟨ps, _, rfl, gd, hc, rfl⟩, fun _ _ _ _ => trivial, ?_, ?_⟩
      · rintro j d ρ μ' hd ⟨ps, r7, rfl, gd, hc, rfl⟩
        rw [fixi] at hd
        obtain ⟨hj, rfl⟩ := rng_at hd
        unfold w_law_planted_b1
        walk_at "u"
        refine ite2 (fun lt => ?_) (fun ge => wk.of ⟨ps, _, rfl, gd, by omega, rfl⟩)
        have bl : ((ts.drop c).take (1 + k)).length = 1 + k := by rw [List.length_take, List.length_drop]; omega
        have lt : 1 < 1 + k := by omega
        have bg : ∀ q x, ((ts.drop c).take (1 + k))[q]? = some x → ts[c + q]? = some x := fun q x e => by
          have := List.getElem?_eq_some_iff.mp e
          obtain ⟨hq, e⟩ := this
          rw [bl] at hq
          rw [List.getElem_take, List.getElem_drop] at e
          rw [← e]
          exact List.getElem?_eq_getElem _
        have w0 := Int.emod_nonneg ((0 : Int) + (j : Nat) + 1) (show ((1 + k : Nat) : Int) ≠ 0 by omega)
        have w1 := Int.emod_lt_of_pos ((0 : Int) + (j : Nat) + 1) (show (0 : Int) < ((1 + k : Nat) : Int) by omega)
        have wne : ((0 : Int) + (j : Nat) + 1) % ((1 + k : Nat) : Int) ≠ j := fun e => by
          by_cases c : j = k
          · have : ((0 : Int) + (j : Nat) + 1) = ((1 + k : Nat) : Int) := by omega
            rw [this, Int.emod_self] at e
            omega
          · rw [Int.emod_eq_of_lt (by omega) (by omega)] at e
            omega
        obtain ⟨x, ex, gx⟩ := at_int (ts := (ts.drop c).take (1 + k)) w0 (by rw [bl]; exact w1)
        obtain ⟨y, ey, gy⟩ := at_int (ts := (ts.drop c).take (1 + k)) (i := 0 + (j : Nat)) (by omega) (by rw [bl]; omega)
        rw [ex]
        dsimp only
        rw [ey]
        dsimp only
        refine ⟨⟨a, _, rfl, um_same⟩, by omega, by decide, by rw [List.length_map]; omega, wk.of ⟨ps ++ [(x, y)], _, by rw [List.map_append]; rfl, gd.add nd (bg _ _ gx) (bg _ _ gy) (by omega), by rw [List.length_append]; show _ + 1 ≤ _; omega, rfl⟩⟩
      · rintro ρ μ' ⟨ps, r7, rfl, gd, hc, rfl⟩
        rw [fixi, rng_len] at hc
        walk_at "u"
        have e2 : ((c : Nat) : Int) + ((1 + k : Nat) : Int) = ((c + (1 + k) : Nat) : Int) := by omega
        rw [e2]
        exact wk.of ⟨st1, ps, c + (1 + k), _, _, _, _, rfl, hs1, gd, by omega, by omega, rfl⟩
    · rintro ρ μ' ⟨st, ps, c, r4, r5, r6, r7, rfl, hst, gd, hc, cl, rfl⟩
      walk_at "w"
      have ha2 : um μ p (.lst st) a = none := by rw [um_ne hpa]; exact ha
      refine ⟨st, ts, rfl, by rw [um_ne (Ne.symm hpa), um_same], hst, nd, hl, by omega, by rw [List.length_map]; omega, fun qs st' hg hl' hs' => ?_⟩
      rw [List.length_map] at hl'
      rw [um_comm hpa, um_um, um_same]
      dsimp only
      refine ⟨by rw [List.length_map, List.length_map]; omega, _, le.um (by rw [um_ne hpa]; exact ha), ?_⟩
      rw [← List.map_append]
      exact h (ps ++ qs) st' (gd.app hg) (by rw [List.length_append]; omega) hs'
  · exact h.elim
theorem len_law_planted (A : Ad) : ∀ ds μ Q E, c_law_planted A ds μ Q E → ds.length = 2 := by
  intro ds μ Q E h
  unfold c_law_planted at h
  first | (split at h) | (split at h)
  all_goals first | rfl | exact h.elim
theorem ok_law_planted {P : Program} {w : World} {K : PySem.W.Frag} {mg : Str → Option Value} {base : Heap} {A : Ad} (D : Dfn K mg "_law_planted" "_law_planted" s_law_planted ["store", "tags"]) (T : Tx P w base K mg A) (G_law_links : DfOk P w K mg base "_law_links" 3 ["store", "tags", "most", "ringless"] (c_law_links A)) (G_law_take : DfOk P w K mg base "_law_take" 2 ["store", "many"] (c_law_take A)) : DfOk P w K mg base "_law_planted" 4 ["store", "tags"] (c_law_planted A) := by
  obtain ⟨f, fd, F, hm, hb⟩ := D
  refine ⟨f, fd, okD F sc_law_planted (by decide) (len_law_planted A) ?_, hm, F.kp, hb⟩
  intro X W E cdv B outer s H Ex hX tk hp hr
  subst hX
  exact ⟨_, w_law_planted A E, (scons (sset (i := 2) (elst anil) sc_law_planted.nd)
  (scons (sset (i := 3) ei sc_law_planted.nd)
  (scons (sfor hp (ir1 T.b_range (acons (ecb call_len_seq dc_len T.b_len (acons (ev 1) anil)) anil)) (gnm 4 sc_law_planted.nd) (sone (sif (tc' op_lt do_lt (ev 3) (ecb call_len_seq dc_len T.b_len (acons (ev 1) anil))) (scons (sset (i := 5) (eadd ei (ecall2 tk G_law_take (hr.mono (by decide)) (acons (ev 0) (acons (ecb (call_min2 rfl) dc_min2 T.b_min (acons ei (acons (esub (ecb call_len_seq dc_len T.b_len (acons (ev 1) anil)) (ev 3)) anil))) anil)))) sc_law_planted.nd)
  (scons (sset (i := 6) (eslL (ev 1) (osome (ev 3)) (osome (eadd (ev 3) (ev 5)))) sc_law_planted.nd)
  (scons (sfor hp (ir1 T.b_range (acons (ev 5) anil)) (gnm 7 sc_law_planted.nd) (sone (sif (tc' op_gt do_gt (ev 5) ei) (sone (sexpr (eapp (ev 2) (acons (etup (acons (eix (ev 6) (emod (ecty call_int1 dc_int T.b_int (acons (eadd (ev 7) ei) anil)) (ev 5))) (acons (eix (ev 6) (ev 7)) anil))) anil)))) snil)))
  (sone (sset (i := 3) (eadd (ev 3) (ev 5)) sc_law_planted.nd))))) snil)))
  (sone (sret (ecat (ev 2) (ecall2 tk G_law_links (hr.mono (by decide)) (acons (ev 0) (acons (ev 1) (acons (ecb call_len_seq dc_len T.b_len (acons (ev 1) anil)) (acons ei anil))))))))))), fun ds μ Q E0 hc hE => by subst hE; exact pure_law_planted A ds μ Q E0 hc⟩
end K14
set_option maxHeartbeats 800000
namespace K14
open PySem L2 DL
local macro_rules | `(tactic| walk_at "w") => `(tactic| simp only [wSeq, wAugD, wAugN, fSetI, fLenS, fInS, fSort, fSortD, fSortSetI, fSortSetP, fRem, wNext, wIf, wRet, wRetN, wDrop, wAsg, gN, wVar, wC, wOp, wUn, wNil, wCons, wCB, wTup, wLst, wLstF, wTe, tB0, wAnd, wOr, wNot, wAndV, wOrV, wNotV, wIfE, wCall, wCallG, wRaise, wFrz, fFrz, rets, fI, fI0, fAdd, fSub, fMul, fLt, fLe, fGt, fGe, fMod, fModN, fPow, fDiv, fDivG, fNeg, fEq, fNe, eqF_int, eqF_bl, eqF_str, scal_int, scal_bl, scal_str, fLen, sv, fIx, fAbs, fInt, fList, wSl, fSlL, oNo, oSo, lvr, lv, fCat, wMeL, fApp, fPop, fSetL, gSb, iLs, iTp, iR1, iR2, wFor, gTp, gCn, gNl, wPar, wBrk, wCnt, fIsi, wIsx, wLc, wYes, wip, wTr, truD, wTry, clrD, wFld, fieldsD, wSetF, wMeth, wMake, wIsX, wXf, wTryX, wRaiseL, wRaiseV, fCatM, fEqL, fStrI, fFmt, wJoin, wJs, wChain, wLc2, wLR, wProp, fRepT, wDIn, wDNewT, fSetD, iR3, gLs, fIns, fPopAt, fClear, fTuple, fMin2, fMaxL, fAny, iEn, wRev, fRev, wDNew, wDNewF, wDsp1, wDsp1F, fAddS, fIsN, fNotN, um_same, um_um, st0, List.map_cons, List.map_nil, List.length_cons, List.length_nil, List.getElem?_cons_zero, List.getElem?_cons_succ, List.set_cons_zero, List.set_cons_succ, List.cons_append, List.nil_append, List.replicate, atI_c0, atI_c1, atI_c2, atI_c3, atI_c4, atI_c5, atI_c6, ixN_70, ixN_71, ixN_72, ixN_73, ixN_74, ixN_75, ixN_76, Nat.reduceAdd, Int.reduceToNat, Int.reducePow, ite_T, ite_F, if_dec, if_ndec, if_nb, true_and, if_true, Bool.false_eq_true, if_false])
local macro_rules | `(tactic| walk_at "v") => `(tactic| simp only [wSeq, wAugD, wAugN, fSetI, fLenS, fInS, fSort, fSortD, fSortSetI, fSortSetP, fRem, wNext, wIf, wRet, wRetN, wDrop, wAsg, gN, wVar, wC, wOp, wUn, wNil, wCons, wCB, wTup, wLst, wLstF, wTe, tB0, wAnd, wOr, wNot, wAndV, wOrV, wNotV, wIfE, wCall, wCallG, wRaise, wFrz, fFrz, rets, fI, fI0, fAdd, fSub, fMul, fLt, fLe, fGt, fGe, fMod, fModN, fPow, fDiv, fDivG, fNeg, fEq, fNe, eqF_int, eqF_bl, eqF_str, scal_int, scal_bl, scal_str, fLen, sv, fIx, fAbs, fInt, fList, wSl, fSlL, oNo, oSo, lvr, lv, fCat, wMeL, fApp, fPop, fSetL, gSb, gTp, gCn, gNl, wPar, wBrk, wCnt, fIsi, wIsx, wYes, wip, wTr, truD, wTry, clrD, wFld, fieldsD, wSetF, wMeth, wMake, wIsX, wXf, wTryX, wRaiseL, wRaiseV, fCatM, fEqL, fStrI, fFmt, wJoin, wJs, wChain, wLR, wProp, fRepT, wDIn, wDNewT, fSetD, gLs, fIns, fPopAt, fClear, fTuple, fMin2, fMaxL, fAny, wRev, fRev, wDNew, wDNewF, wDsp1, wDsp1F, fAddS, fIsN, fNotN, um_same, um_um, st0, List.map_cons, List.map_nil, List.length_cons, List.length_nil, List.getElem?_cons_zero, List.getElem?_cons_succ, List.set_cons_zero, List.set_cons_succ, List.cons_append, List.nil_append, List.replicate, atI_c0, atI_c1, atI_c2, atI_c3, atI_c4, atI_c5, atI_c6, ixN_70, ixN_71, ixN_72, ixN_73, ixN_74, ixN_75, ixN_76, Nat.reduceAdd, Int.reduceToNat, Int.reducePow, ite_T, ite_F, if_dec, if_ndec, if_nb, true_and, if_true, Bool.false_eq_true, if_false])
local macro_rules | `(tactic| walk_at "u") => `(tactic| simp only [wSeq, wAugD, wAugN, fSetI, fLenS, fInS, fSort, fSortD, fSortSetI, fSortSetP, fRem, wNext, wIf, wRet, wRetN, wDrop, wAsg, gN, wVar, wC, wOp, wUn, wNil, wCons, wCB, wTup, wLst, wLstF, wTe, tB0, wAnd, wOr, wNot, wAndV, wOrV, wNotV, wIfE, wCall, wCallG, wRaise, rets, fI, fI0, fAdd, fSub, fMul, fLt, fLe, fGt, fGe, fMod, fModN, fPow, fDiv, fDivG, fNeg, fEq, fNe, eqF_int, eqF_bl, eqF_str, scal_int, scal_bl, scal_str, fLen, sv, fIx, fAbs, fInt, fList, wSl, fSlL, oNo, oSo, lvr, lv, fCat, wMeL, fApp, fPop, fSetL, gSb, gTp, gCn, gNl, wPar, wBrk, wCnt, fIsi, wIsx, wYes, wip, wTr, truD, wTry, clrD, wFld, fieldsD, wSetF, wMeth, wMake, wIsX, wXf, wTryX, wRaiseL, wRaiseV, fCatM, fEqL, fStrI, fFmt, wJoin, wJs, wChain, wLR, wProp, fRepT, wDIn, wDNewT, fSetD, gLs, fIns, fPopAt, fClear, fTuple, fMin2, fMaxL, fAny, wRev, fRev, wDNew, wDNewF, wDsp1, wDsp1F, fAddS, fIsN, fNotN, um_same, um_um, st0, List.map_cons, List.map_nil, List.length_cons, List.length_nil, List.getElem?_cons_zero, List.getElem?_cons_succ, List.set_cons_zero, List.set_cons_succ, List.cons_append, List.nil_append, List.replicate, atI_c0, atI_c1, atI_c2, atI_c3, atI_c4, atI_c5, atI_c6, ixN_70, ixN_71, ixN_72, ixN_73, ixN_74, ixN_75, ixN_76, Nat.reduceAdd, Int.reduceToNat, Int.reducePow, ite_T, ite_F, if_dec, if_ndec, if_nb, true_and, if_true, Bool.false_eq_true, if_false])
theorem perm_mapP {l' : List D} {ps : List I2} (p : l'.Perm (ps.map pD)) : ∃ qs : List I2, l' = qs.map pD ∧ qs.Perm ps := by
  let un : D → I2 := fun d => match d with | .tup [.int x, .int y] => (x, y) | _ => (0, 0)
  have e : (l'.map un).Perm ps := by
    have := p.map un
    rw [List.map_map] at this
    have e2 : ps.map (un ∘ pD) = ps := by
      have : un ∘ pD = id := by funext x; rfl
      rw [this, List.map_id]
    rw [e2] at this
    exact this
  refine ⟨l'.map un, ?_, e⟩
  rw [List.map_map]
  refine (List.map_id l').symm.trans (List.map_congr_left fun d hd => ?_)
  obtain ⟨x, _, rfl⟩ := List.mem_map.mp (p.mem_iff.mp hd)
  rfl
def c_law_drawn (A : Ad) : Ct := fun ds μ Q _ => match ds with
  | [.mut p, .lst T] => ∃ (st : List D) (ts : List Int), T = ts.map D.int ∧ μ p = some (.lst st) ∧ StOk st ∧ ts.Nodup ∧ ts.length ≤ 40 ∧ ∀ (ps : List I2) (st' : List D), Gd ts ps → ps.length ≤ 80 → StOk st' → Q (.lst (ps.map pD)) (um μ p (.lst st'))
  | _ => False
abbrev s_law_drawn : Stmt := top 31
theorem sc_law_drawn : FnScope ["store", "tags", "way"] ["store", "tags"] (defScope s_law_drawn) := ⟨rfl, rfl, rfl, by decide +kernel, rfl, by decide +kernel, by decide +kernel⟩
def w_law_drawn (A : Ad) (E : EX) : WS := (wSeq (wAsg (wCall (c_law_take A) E (wCons (wVar 0) (wCons (wC (.int (4))) wNil))) (gN 2))
  (wSeq (wIf (wTe (wOp fEq (wVar 2) (wC (.int (0))))) (wRet (wCall (c_law_links A) E (wCons (wVar 0) (wCons (wVar 1) (wCons (wOp fMul (wC (.int (2))) (wCB fLen (wCons (wVar 1) wNil))) (wCons (wC (.int (0))) wNil)))))) wNext)
  (wSeq (wIf (wTe (wOp fEq (wVar 2) (wC (.int (1))))) (wRet (wCall (c_law_links A) E (wCons (wVar 0) (wCons (wVar 1) (wCons (wCB fLen (wCons (wVar 1) wNil)) (wCons (wC (.int (0))) wNil)))))) wNext)
  (wSeq (wIf (wTe (wOp fEq (wVar 2) (wC (.int (2))))) (wRet (wCall (c_law_links A) E (wCons (wVar 0) (wCons (wVar 1) (wCons (wOp fMul (wC (.int (2))) (wCB fLen (wCons (wVar 1) wNil))) (wCons (wC (.int (1))) wNil)))))) wNext)
  (wRet (wCall (c_law_shuffled A) E (wCons (wVar 0) (wCons (wCall (c_law_planted A) E (wCons (wVar 0) (wCons (wVar 1) wNil))) wNil))))))))
theorem pure_law_drawn (A : Ad) (ds μ Q E0) (h : c_law_drawn A ds μ Q E0) : w_law_drawn A (fun C fs _ μ => dwx E0 C fs μ) (rets Q) (st0 3 ds) μ := by
  unfold c_law_drawn at h
  split at h
  · rename_i p T
    obtain ⟨st, ts, rfl, hp, hst, nd, hl, h⟩ := h
    unfold w_law_drawn
    walk_at "w"
    refine ⟨st, hp, hst, bd_small (n := 2990) (by decide) (by decide), fun way st1 hs1 w0 w1 _ => ?_⟩
    dsimp only
    simp only [List.length_map, eqF_int, scal_int, true_and, if_dec]
    have lk : ∀ (m r : Int), 0 ≤ m → m ≤ 80 → c_law_links A [.mut p, .lst (ts.map D.int), .int m, .int r] (um μ p (.lst st1)) (fun d μ => dwn Q d μ) (fun C fs μ2 => dwx E0 C fs μ2) := fun m r h0 h1 => ⟨st1, ts, rfl, um_same, hs1, nd, hl, h0, by omega, fun ps st' hg hl' hs' => by
      rw [um_um]
      exact dwn.of (h ps st' hg (by omega) hs')⟩
    refine ite2 (fun c => ⟨mulL ⟨by omega, by omega⟩, lk (2 * ts.length) 0 (by omega) (by omega)⟩) fun c => ?_
    refine ite2 (fun c => lk ts.length 0 (by omega) (by omega)) fun c => ?_
    refine ite2 (fun c => ⟨mulL ⟨by omega, by omega⟩, lk (2 * ts.length) 1 (by omega) (by omega)⟩) fun c => ?_
    refine ⟨st1, ts, rfl, um_same, hs1, nd, hl, fun ps st' hg hl' hs' => ?_⟩
    refine ⟨st', um_same, hs', by rw [List.length_map]; omega, fun l' st2 pm hs2 => ?_⟩
    obtain ⟨qs, rfl, pm2⟩ := perm_mapP pm
    rw [um_um, um_um]
    exact dwn.of (h qs st2 (fun p hp => hg p (pm2.mem_iff.mp hp)) (by rw [pm2.length_eq]; exact hl') hs2)
  · exact h.elim
theorem len_law_drawn (A : Ad) : ∀ ds μ Q E, c_law_drawn A ds μ Q E → ds.length = 2 := by
  intro ds μ Q E h
  unfold c_law_drawn at h
  first | (split at h) | (split at h)
  all_goals first | rfl | exact h.elim
theorem ok_law_drawn {P : Program} {w : World} {K : PySem.W.Frag} {mg : Str → Option Value} {base : Heap} {A : Ad} (D : Dfn K mg "_law_drawn" "_law_drawn" s_law_drawn ["store", "tags"]) (T : Tx P w base K mg A) (G_law_shuffled : DfOk P w K mg base "_law_shuffled" 3 ["store", "things"] (c_law_shuffled A)) (G_law_planted : DfOk P w K mg base "_law_planted" 4 ["store", "tags"] (c_law_planted A)) (G_law_links : DfOk P w K mg base "_law_links" 3 ["store", "tags", "most", "ringless"] (c_law_links A)) (G_law_take : DfOk P w K mg base "_law_take" 2 ["store", "many"] (c_law_take A)) : DfOk P w K mg base "_law_drawn" 5 ["store", "tags"] (c_law_drawn A) := by
  obtain ⟨f, fd, F, hm, hb⟩ := D
  refine ⟨f, fd, okD F sc_law_drawn (by decide) (len_law_drawn A) ?_, hm, F.kp, hb⟩
  intro X W E cdv B outer s H Ex hX tk hp hr
  subst hX
  exact ⟨_, w_law_drawn A E, (scons (sset (i := 2) (ecall2 tk G_law_take (hr.mono (by decide)) (acons (ev 0) (acons ei anil))) sc_law_drawn.nd)
  (scons (sif (tc' op_eq do_eq (ev 2) ei) (sone (sret (ecall2 tk G_law_links (hr.mono (by decide)) (acons (ev 0) (acons (ev 1) (acons (emul ei (ecb call_len_seq dc_len T.b_len (acons (ev 1) anil))) (acons ei anil))))))) snil)
  (scons (sif (tc' op_eq do_eq (ev 2) ei) (sone (sret (ecall2 tk G_law_links (hr.mono (by decide)) (acons (ev 0) (acons (ev 1) (acons (ecb call_len_seq dc_len T.b_len (acons (ev 1) anil)) (acons ei anil))))))) snil)
  (scons (sif (tc' op_eq do_eq (ev 2) ei) (sone (sret (ecall2 tk G_law_links (hr.mono (by decide)) (acons (ev 0) (acons (ev 1) (acons (emul ei (ecb call_len_seq dc_len T.b_len (acons (ev 1) anil))) (acons ei anil))))))) snil)
  (sone (sret (ecall2 tk G_law_shuffled (hr.mono (by decide)) (acons (ev 0) (acons (ecall2 tk G_law_planted (hr.mono (by decide)) (acons (ev 0) (acons (ev 1) anil))) anil))))))))), fun ds μ Q E0 hc hE => by subst hE; exact pure_law_drawn A ds μ Q E0 hc⟩
end K14
set_option maxHeartbeats 800000
namespace K14
open PySem L2 DL
local macro_rules | `(tactic| walk_at "w") => `(tactic| simp only [wSeq, wAugD, wAugN, fSetI, fLenS, fInS, fSort, fSortD, fSortSetI, fSortSetP, fRem, wNext, wIf, wRet, wRetN, wDrop, wAsg, gN, wVar, wC, wOp, wUn, wNil, wCons, wCB, wTup, wLst, wLstF, wTe, tB0, wAnd, wOr, wNot, wAndV, wOrV, wNotV, wIfE, wCall, wCallG, wRaise, wFrz, fFrz, rets, fI, fI0, fAdd, fSub, fMul, fLt, fLe, fGt, fGe, fMod, fModN, fPow, fDiv, fDivG, fNeg, fEq, fNe, eqF_int, eqF_bl, eqF_str, scal_int, scal_bl, scal_str, fLen, sv, fIx, fAbs, fInt, fList, wSl, fSlL, oNo, oSo, lvr, lv, fCat, wMeL, fApp, fPop, fSetL, gSb, iLs, iTp, iR1, iR2, wFor, gTp, gCn, gNl, wPar, wBrk, wCnt, fIsi, wIsx, wLc, wYes, wip, wTr, truD, wTry, clrD, wFld, fieldsD, wSetF, wMeth, wMake, wIsX, wXf, wTryX, wRaiseL, wRaiseV, fCatM, fEqL, fStrI, fFmt, wJoin, wJs, wChain, wLc2, wLR, wProp, fRepT, wDIn, wDNewT, fSetD, iR3, gLs, fIns, fPopAt, fClear, fTuple, fMin2, fMaxL, fAny, iEn, wRev, fRev, wDNew, wDNewF, wDsp1, wDsp1F, fAddS, fIsN, fNotN, um_same, um_um, st0, List.map_cons, List.map_nil, List.length_cons, List.length_nil, List.getElem?_cons_zero, List.getElem?_cons_succ, List.set_cons_zero, List.set_cons_succ, List.cons_append, List.nil_append, List.replicate, atI_c0, atI_c1, atI_c2, atI_c3, atI_c4, atI_c5, atI_c6, ixN_70, ixN_71, ixN_72, ixN_73, ixN_74, ixN_75, ixN_76, Nat.reduceAdd, Int.reduceToNat, Int.reducePow, ite_T, ite_F, if_dec, if_ndec, if_nb, true_and, if_true, Bool.false_eq_true, if_false])
local macro_rules | `(tactic| walk_at "v") => `(tactic| simp only [wSeq, wAugD, wAugN, fSetI, fLenS, fInS, fSort, fSortD, fSortSetI, fSortSetP, fRem, wNext, wIf, wRet, wRetN, wDrop, wAsg, gN, wVar, wC, wOp, wUn, wNil, wCons, wCB, wTup, wLst, wLstF, wTe, tB0, wAnd, wOr, wNot, wAndV, wOrV, wNotV, wIfE, wCall, wCallG, wRaise, wFrz, fFrz, rets, fI, fI0, fAdd, fSub, fMul, fLt, fLe, fGt, fGe, fMod, fModN, fPow, fDiv, fDivG, fNeg, fEq, fNe, eqF_int, eqF_bl, eqF_str, scal_int, scal_bl, scal_str, fLen, sv, fIx, fAbs, fInt, fList, wSl, fSlL, oNo, oSo, lvr, lv, fCat, wMeL, fApp, fPop, fSetL, gSb, gTp, gCn, gNl, wPar, wBrk, wCnt, fIsi, wIsx, wYes, wip, wTr, truD, wTry, clrD, wFld, fieldsD, wSetF, wMeth, wMake, wIsX, wXf, wTryX, wRaiseL, wRaiseV, fCatM, fEqL, fStrI, fFmt, wJoin, wJs, wChain, wLR, wProp, fRepT, wDIn, wDNewT, fSetD, gLs, fIns, fPopAt, fClear, fTuple, fMin2, fMaxL, fAny, wRev, fRev, wDNew, wDNewF, wDsp1, wDsp1F, fAddS, fIsN, fNotN, um_same, um_um, st0, List.map_cons, List.map_nil, List.length_cons, List.length_nil, List.getElem?_cons_zero, List.getElem?_cons_succ, List.set_cons_zero, List.set_cons_succ, List.cons_append, List.nil_append, List.replicate, atI_c0, atI_c1, atI_c2, atI_c3, atI_c4, atI_c5, atI_c6, ixN_70, ixN_71, ixN_72, ixN_73, ixN_74, ixN_75, ixN_76, Nat.reduceAdd, Int.reduceToNat, Int.reducePow, ite_T, ite_F, if_dec, if_ndec, if_nb, true_and, if_true, Bool.false_eq_true, if_false])
local macro_rules | `(tactic| walk_at "u") => `(tactic| simp only [wSeq, wAugD, wAugN, fSetI, fLenS, fInS, fSort, fSortD, fSortSetI, fSortSetP, fRem, wNext, wIf, wRet, wRetN, wDrop, wAsg, gN, wVar, wC, wOp, wUn, wNil, wCons, wCB, wTup, wLst, wLstF, wTe, tB0, wAnd, wOr, wNot, wAndV, wOrV, wNotV, wIfE, wCall, wCallG, wRaise, rets, fI, fI0, fAdd, fSub, fMul, fLt, fLe, fGt, fGe, fMod, fModN, fPow, fDiv, fDivG, fNeg, fEq, fNe, eqF_int, eqF_bl, eqF_str, scal_int, scal_bl, scal_str, fLen, sv, fIx, fAbs, fInt, fList, wSl, fSlL, oNo, oSo, lvr, lv, fCat, wMeL, fApp, fPop, fSetL, gSb, gTp, gCn, gNl, wPar, wBrk, wCnt, fIsi, wIsx, wYes, wip, wTr, truD, wTry, clrD, wFld, fieldsD, wSetF, wMeth, wMake, wIsX, wXf, wTryX, wRaiseL, wRaiseV, fCatM, fEqL, fStrI, fFmt, wJoin, wJs, wChain, wLR, wProp, fRepT, wDIn, wDNewT, fSetD, gLs, fIns, fPopAt, fClear, fTuple, fMin2, fMaxL, fAny, wRev, fRev, wDNew, wDNewF, wDsp1, wDsp1F, fAddS, fIsN, fNotN, um_same, um_um, st0, List.map_cons, List.map_nil, List.length_cons, List.length_nil, List.getElem?_cons_zero, List.getElem?_cons_succ, List.set_cons_zero, List.set_cons_succ, List.cons_append, List.nil_append, List.replicate, atI_c0, atI_c1, atI_c2, atI_c3, atI_c4, atI_c5, atI_c6, ixN_70, ixN_71, ixN_72, ixN_73, ixN_74, ixN_75, ixN_76, Nat.reduceAdd, Int.reduceToNat, Int.reducePow, ite_T, ite_F, if_dec, if_ndec, if_nb, true_and, if_true, Bool.false_eq_true, if_false])
def dnL (ps : List I2) (t : Int) : List Int := (ps.filter fun p => decide (p.1 = t)).map (·.2)
/-! ### what is hidden, far on -/
theorem dnL_take {ps : List I2} {i : Nat} {p : I2} (h : ps[i]? = some p) (t : Int) : dnL (ps.take (i + 1)) t = dnL (ps.take i) t ++ (if t = p.1 then [p.2] else []) := by
  unfold dnL
  rw [List.take_succ, h, Option.toList_some, List.filter_append, List.map_append]
  congr 1
  by_cases c : t = p.1
  · rw [if_pos c]; simp [c]
  · rw [if_neg c]
    have : ¬ p.1 = t := fun e => c e.symm
    simp [this]
theorem dnL_len (ps : List I2) (t : Int) : (dnL ps t).length ≤ ps.length := by
  unfold dnL
  rw [List.length_map]
  exact List.length_filter_le _ _
theorem mem_dnL {ps : List I2} {t x : Int} : x ∈ dnL ps t ↔ (t, x) ∈ ps := by
  unfold dnL
  rw [List.mem_map]
  constructor
  · rintro ⟨p, hp, rfl⟩
    rw [List.mem_filter, decide_eq_true_eq] at hp
    obtain ⟨a, b⟩ := p
    obtain ⟨h1, h2⟩ := hp
    have h2 : a = t := h2
    rw [← h2]; exact h1
  · intro h
    exact ⟨(t, x), List.mem_filter.mpr ⟨h, decide_eq_true rfl⟩, rfl⟩
def TabOk (ts : List Int) (nb : Int → List Int) (M : Mu) (q : Addr) : Prop := ∃ kvs, M q = some (.dK kvs) ∧ ∀ t ∈ ts, ∃ c, getD' kvs (Sum.inl t) = some (.mut c) ∧ M c = some (.lst ((nb t).map D.int))
theorem TabOk.le {ts : List Int} {nb : Int → List Int} {M M' : Mu} {q : Addr} (h : TabOk ts nb M q) (l : le M M') : TabOk ts nb M' q := by
  obtain ⟨kvs, h1, h2⟩ := h
  exact ⟨kvs, l _ _ h1, fun t ht => by obtain ⟨c, a, b⟩ := h2 t ht; exact ⟨c, a, l _ _ b⟩⟩
theorem TabOk.get {ts : List Int} {nb : Int → List Int} {M : Mu} {q : Addr} {t : Int} (h : TabOk ts nb M q) (ht : t ∈ ts) : ∃ c, dget M (.mut q) (.int t) = some (some (.mut c)) ∧ M c = some (.lst ((nb t).map D.int)) := by
  obtain ⟨kvs, h1, h2⟩ := h
  obtain ⟨c, a, b⟩ := h2 t ht
  refine ⟨c, ?_, b⟩
  unfold dget
  dsimp only
  rw [h1]
  show some (getD' kvs (Sum.inl t)) = _
  rw [a]
def metK (fs : List Int) : List (Key × D) := fs.map fun x => (Sum.inl x, .int 1)
def metD (fs : List Int) : D := .dK (fs.map Sum.inl) (fs.map fun _ => .int 1)
theorem metK_get {fs : List Int} {s : Int} : getD' (metK fs) (Sum.inl s) = if s ∈ fs then some (.int 1) else none := by
  unfold metK
  rw [get_map (h := fun _ => .int 1)]
/-- the edge es of what was met fs from t -/
structure Ost (ts : List Int) (nb : Int → List Int) (t : Int) (fs es : List Int) : Prop where
  nd : fs.Nodup
  sub : ∀ x ∈ fs, x ∈ ts
  rch : ∀ x ∈ fs, Rp nb t x
  edg : ∀ x ∈ es, Rp nb t x ∧ x ∈ ts
  clo : ∀ y, y = t ∨ y ∈ fs → ∀ z ∈ nb y, z ∈ fs ∨ z ∈ es
theorem Ost.fin {ts : List Int} {nb : Int → List Int} {t : Int} {fs : List Int} (h : Ost ts nb t fs []) : ∀ x, x ∈ fs ↔ Rp nb t x := fun x => ⟨h.rch x, fun r => r.closed fun y hy z hz => (h.clo y hy z hz).resolve_right fun z => nomatch z⟩
/-- one more of the edge: what is left of it is rs, the next edge is ms -/
structure Oin (ts : List Int) (nb : Int → List Int) (t : Int) (fs rs ms : List Int) : Prop where
  nd : fs.Nodup
  sub : ∀ x ∈ fs, x ∈ ts
  rch : ∀ x ∈ fs, Rp nb t x
  edg : ∀ x ∈ ms, Rp nb t x ∧ x ∈ ts
  clo : ∀ y, y = t ∨ y ∈ fs → ∀ z ∈ nb y, z ∈ fs ∨ z ∈ rs ∨ z ∈ ms
theorem Oin.old {ts : List Int} {nb : Int → List Int} {t s : Int} {fs rs ms : List Int} (h : Oin ts nb t fs (s :: rs) ms) (hs : s ∈ fs) : Oin ts nb t fs rs ms := ⟨h.nd, h.sub, h.rch, h.edg, fun y hy z hz => by
  rcases h.clo y hy z hz with u | u | u
  · exact .inl u
  · rcases List.mem_cons.mp u with u | u
    · exact .inl (u ▸ hs)
    · exact .inr (.inl u)
  · exact .inr (.inr u)⟩
theorem Oin.new {ts : List Int} {nb : Int → List Int} {t s : Int} {fs rs ms : List Int} (hnb : ∀ x ∈ ts, ∀ y ∈ nb x, y ∈ ts) (h : Oin ts nb t fs (s :: rs) ms) (hs : s ∉ fs) (r : Rp nb t s) (hst : s ∈ ts) : Oin ts nb t (fs ++ [s]) rs (ms ++ nb s) := by
  refine ⟨?_, ?_, ?_, ?_, ?_⟩
  · exact List.nodup_append.mpr ⟨h.nd, by simp, fun x hx y hy e => hs (by rw [← List.mem_singleton.mp hy, ← e]; exact hx)⟩
  · intro x hx
    rcases List.mem_append.mp hx with z | z
    · exact h.sub x z
    · rw [List.mem_singleton.mp z]; exact hst
  · intro x hx
    rcases List.mem_append.mp hx with z | z
    · exact h.rch x z
    · rw [List.mem_singleton.mp z]; exact r
  · intro x hx
    rcases List.mem_append.mp hx with z | z
    · exact h.edg x z
    · exact ⟨.more r z, hnb s hst x z⟩
  · intro y hy z hz
    have old : y = t ∨ y ∈ fs → z ∈ fs ++ [s] ∨ z ∈ rs ∨ z ∈ ms ++ nb s := fun hy => by
      rcases h.clo y hy z hz with u | u | u
      · exact .inl (List.mem_append_left _ u)
      · rcases List.mem_cons.mp u with u | u
        · exact .inl (List.mem_append_right _ (List.mem_singleton.mpr u))
        · exact .inr (.inl u)
      · exact .inr (.inr (List.mem_append_left _ u))
    rcases hy with e | e
    · exact old (.inl e)
    · rcases List.mem_append.mp e with u | u
      · exact old (.inr u)
      · rw [List.mem_singleton.mp u] at hz
        exact .inr (.inr (List.mem_append_right _ hz))
theorem eqv_nil (es : List Int) : PyData.eqv (.list (es.map .int)) (.list []) = es.isEmpty := by
  cases es with
  | nil => decide
  | cons x l => first | rfl | (simp [PyData.eqv]; done)
def c_law_onward (A : Ad) : Ct := fun ds μ Q _ => match ds with
  | [.lst T, .lst Z] => ∃ (ts : List Int) (ps : List I2), T = ts.map D.int ∧ Z = ps.map pD ∧ ts.Nodup ∧ ts.length ≤ 40 ∧ ps.length ≤ 80 ∧ (∀ p ∈ ps, p.1 ∈ ts ∧ p.2 ∈ ts) ∧ ∀ F : Int → List Int, (∀ t ∈ ts, ∀ x, x ∈ F t ↔ Rp (dnL ps) t x) → Q (.dK (ts.map Sum.inl) (ts.map fun t => .dK ((F t).map Sum.inl) ((F t).map fun _ => .int 1))) μ
  | _ => False
abbrev s_law_onward : Stmt := top 27
theorem sc_law_onward : FnScope ["tags", "arrows", "down", "tag", "arrow", "row", "far", "met", "edge", "turn", "more", "one"] ["tags", "arrows"] (defScope s_law_onward) := ⟨rfl, rfl, rfl, by decide +kernel, rfl, by decide +kernel, by decide +kernel⟩
def w_law_onward_b1 (A : Ad) (E : EX) : WS := (wIf (wTe (wDIn true (wVar 11) (wVar 7))) (wSeq (wAsg (wC (.int (1))) (gSb fSetD (wVar 7) (wVar 11)))
  (wAsg (wOp fCat (wVar 10) (wOp fDGet (wVar 2) (wVar 11))) (gN 10))) wNext)
def w_law_onward_b2 (A : Ad) (E : EX) : WS := (wSeq (wIf (wTe (wOp fEqD (wVar 8) (wLstF wNil))) wBrk wNext)
  (wSeq (wAsg (wLstF wNil) (gN 10))
  (wSeq (wFor (iLs (wVar 8)) (gN 11) (w_law_onward_b1 A E))
  (wAsg (wVar 10) (gN 8)))))
def w_law_onward_b3 (A : Ad) (E : EX) : WS := (wSeq (wAsg wDNew (gN 7))
  (wSeq (wAsg (wFrz (wCB fList (wCons (wOp fDGet (wVar 2) (wVar 3)) wNil))) (gN 8))
  (wSeq (wFor (iR1 (wCons (wOp fAdd (wCB fLen (wCons (wVar 0) wNil)) (wC (.int (1)))) wNil)) (gN 9) (w_law_onward_b2 A E))
  (wAsg (wFrz (wVar 7)) (gSb fSetD (wVar 6) (wVar 3))))))
def w_law_onward_3 (A : Ad) (E : EX) : WS := (wSeq (wAsg wDNew (gN 6))
  (wSeq (wFor (iLs (wVar 0)) (gN 3) (w_law_onward_b3 A E))
  (wRet (wFrz (wVar 6)))))
def w_law_onward_b4 (A : Ad) (E : EX) : WS := (wSeq (wAsg (wOp fDGet (wVar 2) (wOp fIx (wVar 4) (wC (.int (0))))) (gN 5))
  (wDrop (wMeL fApp (wVar 5) (wCons (wOp fIx (wVar 4) (wC (.int (1)))) wNil))))
def w_law_onward_2 (A : Ad) (E : EX) : WS := (wSeq (wFor (iLs (wVar 1)) (gN 4) (w_law_onward_b4 A E))
  (w_law_onward_3 A E))
def w_law_onward_b5 (A : Ad) (E : EX) : WS := (wAsg (wLst wNil) (gSb fSetD (wVar 2) (wVar 3)))
def w_law_onward (A : Ad) (E : EX) : WS := (wSeq (wAsg wDNew (gN 2))
  (wSeq (wFor (iLs (wVar 0)) (gN 3) (w_law_onward_b5 A E))
  (w_law_onward_2 A E)))
theorem onward_turn (A : Ad) (E : EX) {ts : List Int} {nb : Int → List Int} {M : Mu} {q m : Addr} {t : Int} {P : D} {Ds : DEnds} {k : Nat} {r4 r5 r6 r9 r10 r11 : Option D} {fs es : List Int} (hnb : ∀ x ∈ ts, ∀ y ∈ nb x, y ∈ ts) (h80 : ∀ x, (nb x).length ≤ 80) (h40 : ts.length ≤ 40)
    (hM : TabOk ts nb M q) (hm : M m = none) (O : Ost ts nb t fs es) (ek : es = [] ∨ k ≤ fs.length) (hl : es.length ≤ 80 * (fs.length + 1))
    (hd : ∀ fs es r10 r11, Ost ts nb t fs es → (es = [] ∨ k + 1 ≤ fs.length) → es.length ≤ 80 * (fs.length + 1) → Ds.nx [some (.lst (ts.map D.int)), some P, some (.mut q), some (.int t), r4, r5, r6, some (.mut m), some (.lst (es.map D.int)), r9, r10, r11] (um M m (.dK (metK fs))))
    (hb : es = [] → Ds.bk [some (.lst (ts.map D.int)), some P, some (.mut q), some (.int t), r4, r5, r6, some (.mut m), some (.lst (es.map D.int)), r9, r10, r11] (um M m (.dK (metK fs)))) :
    w_law_onward_b2 A E Ds [some (.lst (ts.map D.int)), some P, some (.mut q), some (.int t), r4, r5, r6, some (.mut m), some (.lst (es.map D.int)), r9, r10, r11] (um M m (.dK (metK fs))) := by
  unfold w_law_onward_b2
  walk_at "u"
  refine ⟨by decide, .list (es.map .int), .list [], ?_, rfl, shaped_ints es, rfl, ?_⟩
  · show (toPs (es.map D.int)).map PyData.list = _
    rw [toPs_ints]
    rfl
  rw [eqv_nil]
  dsimp only
  cases es with
  | nil =>
    simp only [List.isEmpty_nil, if_true]
    exact hb rfl
  | cons e0 es0 =>
    generalize hE : e0 :: es0 = es at *
    have ne : es.isEmpty = false := by rw [← hE]; rfl
    have ek : k ≤ fs.length := ek.resolve_left fun e => by rw [e] at hE; cases hE
    simp only [ne, Bool.false_eq_true, if_false]
    refine ⟨by decide, ?_⟩
    refine for_lv2 (d := .lst (es.map D.int)) (l := es.map D.int) rfl rfl (fun j ρ μ' => ∃ (fs' ms : List Int) (r11 : Option D), Oin ts nb t fs' (es.drop j) ms ∧ (ms = [] ∨ k + 1 ≤ fs'.length) ∧ k ≤ fs'.length ∧ ms.length ≤ 80 * fs'.length ∧ μ' = um M m (.dK (metK fs')) ∧ ρ = [some (.lst (ts.map D.int)), some P, some (.mut q), some (.int t), r4, r5, r6, some (.mut m), some (.lst (es.map D.int)), r9, some (.lst (ms.map D.int)), r11]) ⟨fs, [], _, ⟨O.nd, O.sub, O.rch, (fun x hx => nomatch hx), fun y hy z hz => (O.clo y hy z hz).imp id .inl⟩, .inl rfl, ek, Nat.zero_le _, rfl, rfl⟩ (fun _ _ _ _ => rfl) ?_ ?_
    · rintro j e ρ μ' he ⟨fs', ms, r11, I, mk, kf, ml, rfl, rfl⟩
      obtain ⟨s, hs, rfl⟩ := map_at he
      obtain ⟨hj, es_⟩ := List.getElem?_eq_some_iff.mp hs
      have dr : es.drop j = s :: es.drop (j + 1) := by rw [List.drop_eq_getElem_cons hj, es_]
      have hr := O.edg s (List.mem_of_getElem? hs)
      rw [dr] at I
      have hg : dget (um M m (.dK (metK fs'))) (.mut m) (.int s) = some (if s ∈ fs' then some (.int 1) else none) := by
        unfold dget
        dsimp only
        rw [um_same]
        show some (getD' (metK fs') (Sum.inl s)) = _
        rw [metK_get]
      unfold w_law_onward_b1
      walk_at "w"
      refine ⟨_, hg, ?_⟩
      by_cases c : s ∈ fs'
      · simp only [c, if_true, Option.isSome_some, Bool.not_true]
        exact wk.of ⟨fs', ms, _, I.old c, mk, kf, ml, rfl, rfl⟩
      · simp only [c, if_false, Option.isSome_none, Bool.not_false, if_true]
        have lt : fs'.length < ts.length := by
          have := nodup_le (s :: fs') ts (List.nodup_cons.mpr ⟨c, I.nd⟩) fun x hx => (List.mem_cons.mp hx).elim (fun e => by rw [e]; exact hr.2) (I.sub x)
          exact this
        refine ⟨by unfold metK; rw [List.length_map]; omega, Sum.inl s, rfl, ?_⟩
        obtain ⟨c', h1, h2⟩ := (hM.le (le.um (m := .dK (putKD (metK fs') (Sum.inl s) (.int 1))) hm)).get hr.2
        refine ⟨_, h1, ?_⟩
        dsimp only
        rw [h2]
        dsimp only
        have hns := h80 s
        refine ⟨by rw [List.length_map, List.length_map]; omega, wk.of ⟨fs' ++ [s], ms ++ nb s, some (.int s), I.new hnb c hr.1 hr.2, .inr (by rw [List.length_append]; show k + 1 ≤ _ + 1; omega), by rw [List.length_append]; omega, by rw [List.length_append, List.length_append]; show _ ≤ 80 * (_ + 1); omega, ?_, ?_⟩⟩
        · unfold metK
          rw [put_new (h := fun _ => D.int 1) c, List.map_append]
          rfl
        · rw [List.map_append]
    · rintro ρ μ' ⟨fs', ms, r11, I, mk, kf, ml, rfl, rfl⟩
      rw [List.length_map, List.drop_length] at I
      walk_at "w"
      exact hd fs' ms _ _ ⟨I.nd, I.sub, I.rch, I.edg, fun y hy z hz => (I.clo y hy z hz).imp id fun u => u.resolve_left fun v => nomatch v⟩ mk (by omega)
theorem onward3 (A : Ad) {ts : List Int} {nb : Int → List Int} {M : Mu} {q : Addr} {P : D} {Q : D → Mu → Prop} {E0 : Addr → List (Str × D) → Mu → Prop} {r3 r4 r5 r6 r7 r8 r9 r10 r11 : Option D} (nd : ts.Nodup) (hnb : ∀ x ∈ ts, ∀ y ∈ nb x, y ∈ ts) (h80 : ∀ x, (nb x).length ≤ 80) (h40 : ts.length ≤ 40)
    (hM : TabOk ts nb M q) (hQ : ∀ F : Int → List Int, (∀ t ∈ ts, ∀ x, x ∈ F t ↔ Rp nb t x) → dwn Q (.dK (ts.map Sum.inl) (ts.map fun t => metD (F t))) M) :
    w_law_onward_3 A (fun C fs x μ => dwx E0 C fs μ) (rets Q) [some (.lst (ts.map D.int)), some P, some (.mut q), r3, r4, r5, r6, r7, r8, r9, r10, r11] M := by
  unfold w_law_onward_3
  walk_at "v"
  intro f hf
  have hM : ∀ X, TabOk ts nb (um M f X) q := fun X => hM.le (le.um hf)
  refine for_lv2 (d := .lst (ts.map D.int)) (l := ts.map D.int) rfl rfl (fun i ρ μ' => ∃ (F : Int → List Int) (r3 r7 r8 r9 r10 r11 : Option D), (∀ t ∈ ts.take i, ∀ x, x ∈ F t ↔ Rp nb t x) ∧ μ' = um M f (.dK ((ts.take i).map fun t => (Sum.inl t, metD (F t)))) ∧ ρ = [some (.lst (ts.map D.int)), some P, some (.mut q), r3, r4, r5, some (.mut f), r7, r8, r9, r10, r11]) ⟨fun _ => [], _, _, _, _, _, _, (fun t ht => by simp at ht), by rw [List.take_zero]; rfl, rfl⟩ (fun _ _ _ _ => rfl) ?_ ?_
  · rintro i e ρ μ' he ⟨F, r3, r7, r8, r9, r10, r11, hF, rfl, rfl⟩
    obtain ⟨t, ht, rfl⟩ := map_at he
    have htm := List.mem_of_getElem? ht
    unfold w_law_onward_b3
    walk_at "v"
    intro m hm
    have hmf : m ≠ f := fun e => by rw [e, um_same] at hm; cases hm
    obtain ⟨c, h1, h2⟩ := ((hM (.dK ((ts.take i).map fun t => (Sum.inl t, metD (F t))))).le (le.um (m := .dK []) hm)).get htm
    refine ⟨_, h1, ?_⟩
    dsimp only
    rw [h2]
    dsimp only
    intro p hp
    rw [rm_um hp]
    simp only [wFor, iR1, wOp, wCB, fLen, sv, wCons, wNil, wVar, wC, fAdd, fI0, List.getElem?_cons_zero, List.getElem?_cons_succ]
    have htt := hnb t htm
    have h8 := h80 t
    have after : ∀ (fs : List Int) (r8 r9 r10 r11 : Option D), (∀ x, x ∈ fs ↔ Rp nb t x) → wAsg (wUn fFrz (wVar 7)) (gSb fSetD (wVar 6) (wVar 3)) { nx := wk fun ρ μ' => ∃ (F : Int → List Int) (r3 r7 r8 r9 r10 r11 : Option D), (∀ t ∈ ts.take (i + 1), ∀ x, x ∈ F t ↔ Rp nb t x) ∧ μ' = um M f (.dK ((ts.take (i + 1)).map fun t => (Sum.inl t, metD (F t)))) ∧ ρ = [some (.lst (ts.map D.int)), some P, some (.mut q), r3, r4, r5, some (.mut f), r7, r8, r9, r10, r11], rt := fun d μ => dwn Q d μ, bk := wRet (wUn fFrz (wVar 6)) { nx := fun x μ => dwn Q D.non μ, rt := fun d μ => dwn Q d μ }, ct := wk fun ρ μ' => ∃ (F : Int → List Int) (r3 r7 r8 r9 r10 r11 : Option D), (∀ t ∈ ts.take (i + 1), ∀ x, x ∈ F t ↔ Rp nb t x) ∧ μ' = um M f (.dK ((ts.take (i + 1)).map fun t => (Sum.inl t, metD (F t)))) ∧ ρ = [some (.lst (ts.map D.int)), some P, some (.mut q), r3, r4, r5, some (.mut f), r7, r8, r9, r10, r11] } [some (.lst (ts.map D.int)), some P, some (.mut q), some (.int t), r4, r5, some (.mut f), some (.mut m), r8, r9, r10, r11] (um (um M f (.dK ((ts.take i).map fun t => (Sum.inl t, metD (F t))))) m (.dK (metK fs))) := by
      intro fs r8 r9 r10 r11 hfs
      walk_at "w"
      rw [rm_um hm, um_same]
      dsimp only
      refine ⟨by rw [List.length_map, List.length_take]; omega, Sum.inl t, rfl, ?_⟩
      have nt := not_take nd ht
      refine wk.of ⟨fun x => if x = t then fs else F x, _, _, _, _, _, _, fun x hx => ?_, ?_, rfl⟩
      · rw [List.take_succ, ht, Option.toList_some, List.mem_append, List.mem_singleton] at hx
        by_cases c : x = t
        · subst c; simp only [if_true]; exact hfs
        · simp only [c, if_false]; exact hF x (hx.resolve_right c)
      · rw [um_um]
        congr 2
        unfold metK
        rw [List.map_map, List.map_map]
        show putKD _ (Sum.inl t) (metD fs) = _
        rw [put_new (h := fun t => metD (F t)) nt, List.take_succ, ht, Option.toList_some, List.map_append]
        refine congr (congrArg _ (List.map_congr_left fun x hx => ?_)) ?_
        · have : ¬ x = t := fun e => nt (e ▸ hx)
          simp only [this, if_false]
        · simp
    refine ⟨⟨by omega, by rw [List.length_map]; omega⟩, fun j ρ μ' => ∃ (fs es : List Int) (r9 r10 r11 : Option D), Ost ts nb t fs es ∧ (es = [] ∨ j ≤ fs.length) ∧ es.length ≤ 80 * (fs.length + 1) ∧ μ' = um (um M f (.dK ((ts.take i).map fun t => (Sum.inl t, metD (F t))))) m (.dK (metK fs)) ∧ ρ = [some (.lst (ts.map D.int)), some P, some (.mut q), some (.int t), r4, r5, some (.mut f), some (.mut m), some (.lst (es.map D.int)), r9, r10, r11], ⟨[], nb t, _, _, _, ⟨.nil, (fun x z => nomatch z), (fun x z => nomatch z), fun x hx => ⟨.one hx, htt x hx⟩, fun y hy z hz => .inr ?_⟩, .inr (Nat.zero_le _), by simp; omega, rfl, rfl⟩, fun _ _ _ _ => trivial, ?_, ?_⟩
    · rcases hy with rfl | u
      · exact hz
      · cases u
    · rintro j d ρ μ' hd ⟨fs, es, r9, r10, r11, O, ek, hl, rfl, rfl⟩
      simp only [gN, List.set_cons_zero, List.set_cons_succ]
      exact onward_turn A _ hnb h80 h40 (hM _) hm O ek hl (fun fs es r10 r11 O ek hl => wk.of ⟨fs, es, _, _, _, O, ek, hl, rfl, rfl⟩) fun e => by
        subst e
        exact after fs _ _ _ _ O.fin
    · rintro ρ μ' ⟨fs, es, r9, r10, r11, O, ek, hl, rfl, rfl⟩
      rw [fixi, rng_len, List.length_map] at ek
      have len := nodup_le fs ts O.nd O.sub
      obtain rfl : es = [] := ek.resolve_right (by omega)
      exact after fs _ _ _ _ O.fin
  · rintro ρ μ' ⟨F, r3, r7, r8, r9, r10, r11, hF, rfl, rfl⟩
    rw [List.length_map, List.take_length] at hF ⊢
    walk_at "v"
    rw [rm_um hf, List.map_map, List.map_map]
    exact hQ F hF
theorem pure_law_onward (A : Ad) (ds μ Q E0) (h : c_law_onward A ds μ Q E0) : w_law_onward A (fun C fs _ μ => dwx E0 C fs μ) (rets Q) (st0 12 ds) μ := by
  unfold c_law_onward at h
  split at h
  · rename_i T Z
    obtain ⟨ts, ps, rfl, rfl, nd, hl, hz, hg, h⟩ := h
    unfold w_law_onward
    walk_at "v"
    intro q hq
    refine for_lv2 (d := .lst (ts.map D.int)) (l := ts.map D.int) rfl rfl (fun i ρ μ' => ∃ (cs : List Addr) (r3 : Option D), cs.length = i ∧ (q :: cs).Nodup ∧ (∀ c ∈ cs, μ c = none) ∧ μ' = um (umz μ cs (List.replicate i [])) q (.dK (((ts.take i).map fun x => (Sum.inl x : Key)).zip (cs.map D.mut))) ∧ ρ = [some (.lst (ts.map D.int)), some (.lst (ps.map pD)), some (.mut q), r3, none, none, none, none, none, none, none, none]) ⟨[], _, rfl, by simp, (fun c z => nomatch z), by rw [List.take_zero]; unfold umz; rfl, rfl⟩ (fun _ _ _ _ => rfl) ?_ ?_
    · rintro i d ρ μ' hd ⟨cs, r3, hcl, hnd, hfr, rfl, rfl⟩
      obtain ⟨t, ht, rfl⟩ := map_at hd
      have hi := (List.getElem?_eq_some_iff.mp ht).1
      unfold w_law_onward_b5
      walk_at "w"
      refine ⟨by decide, fun c hc => ?_⟩
      have cq : c ≠ q := fun e => by rw [e, um_same] at hc; cases hc
      have hnd2 := List.nodup_cons.mp hnd
      rw [um_ne cq] at hc
      have ccs : c ∉ cs := fun z => by
        obtain ⟨k, hk, e⟩ := List.getElem_of_mem z
        have := umz_get (μ := μ) (ls := List.replicate i []) (l := []) hnd2.2 (List.getElem?_eq_getElem hk) (by rw [List.getElem?_replicate, if_pos (by omega)])
        rw [e, hc] at this
        cases this
      rw [umz_not ccs] at hc
      rw [um_ne (Ne.symm cq), um_same]
      dsimp only
      refine ⟨?_, Sum.inl t, rfl, wk.of ⟨cs ++ [c], _, by simp [hcl], ?_, ?_, ?_, rfl⟩⟩
      · rw [List.length_zip, List.length_map, List.length_take]
        omega
      · refine List.nodup_cons.mpr ⟨fun z => ?_, ?_⟩
        · rcases List.mem_append.mp z with z | z
          · exact hnd2.1 z
          · exact cq (List.mem_singleton.mp z).symm
        · refine List.nodup_append.mpr ⟨hnd2.2, by simp, fun x hx y hy => ?_⟩
          rw [List.mem_singleton.mp hy]
          exact fun e => ccs (by rw [← e]; exact hx)
      · intro x hx
        rcases List.mem_append.mp hx with z | z
        · exact hfr x z
        · rw [List.mem_singleton.mp z]; exact hc
      · rw [um_comm (Ne.symm cq), um_um, put_zip (not_take nd ht), show ([] :: List.replicate i [] : List (List D)) = List.replicate i [] ++ [[]] by rw [← List.replicate_succ, List.replicate_succ'], umz_app (by simp [hcl]) ccs]
        congr 2
        rw [List.take_succ, ht, Option.toList_some, List.map_append, List.map_append, List.zip_append (by rw [List.length_map, List.length_map, List.length_take]; omega)]
        rfl
    · rintro ρ μ' ⟨cs, r3, hcl, hnd, hfr, rfl, rfl⟩
      rw [List.length_map] at hcl
      rw [List.length_map, List.take_length]
      have hnd2 := List.nodup_cons.mp hnd
      dsimp only
      unfold w_law_onward_2 wSeq
      generalize hK : ((ts.map fun x => (Sum.inl x : Key)).zip (cs.map D.mut)) = kvs
      refine for_lv2 (d := .lst (ps.map pD)) (l := ps.map pD) rfl rfl (fun i ρ' μ' => μ' = um (umz μ cs (ts.map fun t => (dnL (ps.take i) t).map D.int)) q (.dK kvs) ∧ ∃ r4 r5, ρ' = [some (.lst (ts.map D.int)), some (.lst (ps.map pD)), some (.mut q), r3, r4, r5, none, none, none, none, none, none]) ⟨?_, _, _, rfl⟩ (fun _ _ _ _ => rfl) ?_ ?_
      · congr 2
        rw [List.take_zero]
        refine List.ext_getElem? fun i => ?_
        rw [List.getElem?_replicate, List.getElem?_map]
        by_cases c : i < ts.length
        · rw [if_pos c, List.getElem?_eq_getElem c]; rfl
        · rw [if_neg c, List.getElem?_eq_none (by omega)]; rfl
      · rintro i e ρ' μ' he ⟨rfl, r4, r5, rfl⟩
        obtain ⟨p, hp, rfl⟩ := map_at he
        obtain ⟨j, hj, ej⟩ := List.getElem_of_mem (hg p (List.mem_of_getElem? hp)).1
        have tj : ts[j]? = some p.1 := by rw [List.getElem?_eq_getElem hj, ej]
        obtain ⟨c, cj⟩ : ∃ c, cs[j]? = some c := ⟨_, List.getElem?_eq_getElem (by omega)⟩
        have cq : c ≠ q := fun e => hnd2.1 (by rw [← e]; exact List.mem_of_getElem? cj)
        unfold w_law_onward_b4 pD
        walk_at "w"
        have hc : (um (umz μ cs (ts.map fun t => (dnL (ps.take i) t).map D.int)) q (.dK kvs)) c = some (.lst ((dnL (ps.take i) p.1).map D.int)) := by
          rw [um_ne cq]
          exact umz_get hnd2.2 cj (by rw [List.getElem?_map, tj]; rfl)
        have hcs : cs.length = (ts.map fun t => (dnL (ps.take i) t).map D.int).length := by rw [List.length_map, hcl]
        refine ⟨.mut c, ?_, ⟨c, _, rfl, hc⟩, ?_⟩
        · unfold dget
          dsimp only
          rw [um_same]
          show some (getD' kvs (Sum.inl p.1)) = _
          rw [← hK, get_zip nd tj cj]
        · dsimp only
          rw [hc]
          refine ⟨?_, wk.of ⟨?_, _, _, rfl⟩⟩
          · rw [List.length_map]
            have := dnL_len (ps.take i) p.1
            rw [List.length_take] at this
            omega
          · rw [um_comm (Ne.symm cq), umz_set hnd2.2 hcs cj]
            congr 2
            have := map_set (f := fun t => (dnL (ps.take i) t).map D.int) (g := fun t => (dnL (ps.take (i + 1)) t).map D.int) nd tj fun x hx => by
              show (dnL (ps.take (i + 1)) x).map D.int = _
              rw [dnL_take hp, if_neg hx, List.append_nil]
            rw [← this]
            congr 1
            show _ = (dnL (ps.take (i + 1)) p.1).map D.int
            rw [dnL_take hp, if_pos rfl, List.map_append]
            rfl
      · rintro ρ' μ' ⟨rfl, r4, r5, rfl⟩
        rw [List.length_map, List.take_length]
        dsimp only
        refine onward3 A nd (nb := dnL ps) (fun x _ y hy => (hg _ (mem_dnL.mp hy)).2) (fun x => Nat.le_trans (dnL_len ps x) hz) hl ⟨kvs, um_same, fun t ht => ?_⟩ fun F hF => ⟨μ, ?_, h F hF⟩
        · obtain ⟨j, hj, ej⟩ := List.getElem_of_mem ht
          have tj : ts[j]? = some t := by rw [List.getElem?_eq_getElem hj, ej]
          obtain ⟨c, cj⟩ : ∃ c, cs[j]? = some c := ⟨_, List.getElem?_eq_getElem (by omega)⟩
          have cq : c ≠ q := fun e => hnd2.1 (by rw [← e]; exact List.mem_of_getElem? cj)
          refine ⟨c, by rw [← hK, get_zip nd tj cj], ?_⟩
          rw [um_ne cq]
          exact umz_get hnd2.2 cj (by rw [List.getElem?_map, tj]; rfl)
        · exact (le_umz hfr hnd2.2).trans (le.um (by rw [umz_not hnd2.1]; exact hq))
  · exact h.elim
theorem len_law_onward (A : Ad) : ∀ ds μ Q E, c_law_onward A ds μ Q E → ds.length = 2 := by
  intro ds μ Q E h
  unfold c_law_onward at h
  first | (split at h) | (split at h)
  all_goals first | rfl | exact h.elim
theorem ok_law_onward {P : Program} {w : World} {K : PySem.W.Frag} {mg : Str → Option Value} {base : Heap} {A : Ad} (D : Dfn K mg "_law_onward" "_law_onward" s_law_onward ["tags", "arrows"]) (T : Tx P w base K mg A)  : DfOk P w K mg base "_law_onward" 1 ["tags", "arrows"] (c_law_onward A) := by
  obtain ⟨f, fd, F, hm, hb⟩ := D
  refine ⟨f, fd, okD F sc_law_onward (by decide) (len_law_onward A) ?_, hm, F.kp, hb⟩
  intro X W E cdv B outer s H Ex hX tk hp hr
  subst hX
  exact ⟨_, w_law_onward A E, (scons (sset (i := 2) ednew sc_law_onward.nd)
  (scons (sfor hp (il (ev 0)) (gnm 3 sc_law_onward.nd) (sone (sasg (elst anil) (gsd (Room.units1 hr) (ev 2) (ev 3)))))
  (scons (sfor hp (il (ev 1)) (gnm 4 sc_law_onward.nd) (scons (sset (i := 5) (edget (Room.units1 hr) (ev 2) (eix (ev 4) ei)) sc_law_onward.nd)
  (sone (sexpr (eapp (ev 5) (acons (eix (ev 4) ei) anil))))))
  (scons (sset (i := 6) ednew sc_law_onward.nd)
  (scons (sfor hp (il (ev 0)) (gnm 3 sc_law_onward.nd) (scons (sset (i := 7) ednew sc_law_onward.nd)
  (scons (sset (i := 8) (efrz (ecty call_list_of dc_list T.b_list (acons (edget (Room.units1 hr) (ev 2) (ev 3)) anil))) sc_law_onward.nd)
  (scons (sfor hp (ir1 T.b_range (acons (eadd (ecb call_len_seq dc_len T.b_len (acons (ev 0) anil)) ei) anil)) (gnm 9 sc_law_onward.nd) (scons (sif (tc' (op_eqD hr.units) do_eqD (ev 8) (elstF anil)) (sone sbrk) snil)
  (scons (sset (i := 10) (elstF anil) sc_law_onward.nd)
  (scons (sfor hp (il (ev 8)) (gnm 11 sc_law_onward.nd) (sone (sif (tdnin (Room.units1 hr) (ev 11) (ev 7)) (scons (sasg ei (gsd (Room.units1 hr) (ev 7) (ev 11)))
  (sone (sset (i := 10) (ecat (ev 10) (edget (Room.units1 hr) (ev 2) (ev 11))) sc_law_onward.nd))) snil)))
  (sone (sset (i := 8) (ev 10) sc_law_onward.nd))))))
  (sone (sasg (efrz (ev 7)) (gsd (Room.units1 hr) (ev 6) (ev 3))))))))
  (sone (sret (efrz (ev 6))))))))), fun ds μ Q E0 hc hE => by subst hE; exact pure_law_onward A ds μ Q E0 hc⟩
end K14
set_option maxHeartbeats 800000
namespace K14
open PySem L2 DL
local macro_rules | `(tactic| walk_at "w") => `(tactic| simp only [wSeq, wAugD, wAugN, fSetI, fLenS, fInS, fSort, fSortD, fSortSetI, fSortSetP, fRem, wNext, wIf, wRet, wRetN, wDrop, wAsg, gN, wVar, wC, wOp, wUn, wNil, wCons, wCB, wTup, wLst, wLstF, wTe, tB0, wAnd, wOr, wNot, wAndV, wOrV, wNotV, wIfE, wCall, wCallG, wRaise, wFrz, fFrz, rets, fI, fI0, fAdd, fSub, fMul, fLt, fLe, fGt, fGe, fMod, fModN, fPow, fDiv, fDivG, fNeg, fEq, fNe, eqF_int, eqF_bl, eqF_str, scal_int, scal_bl, scal_str, fLen, sv, fIx, fAbs, fInt, fList, wSl, fSlL, oNo, oSo, lvr, lv, fCat, wMeL, fApp, fPop, fSetL, gSb, iLs, iTp, iR1, iR2, wFor, gTp, gCn, gNl, wPar, wBrk, wCnt, fIsi, wIsx, wLc, wYes, wip, wTr, truD, wTry, clrD, wFld, fieldsD, wSetF, wMeth, wMake, wIsX, wXf, wTryX, wRaiseL, wRaiseV, fCatM, fEqL, fNeL, fStrI, fFmt, wJoin, wJs, wChain, wLc2, wLR, wProp, fRepT, wDIn, wDNewT, fSetD, iR3, gLs, fIns, fPopAt, fClear, fTuple, fMin2, fMaxL, fAny, iEn, wRev, fRev, wDNew, wDNewF, wDsp1, wDsp1F, fAddS, fIsN, fNotN, um_same, um_um, st0, List.map_cons, List.map_nil, List.length_cons, List.length_nil, List.getElem?_cons_zero, List.getElem?_cons_succ, List.set_cons_zero, List.set_cons_succ, List.cons_append, List.nil_append, List.replicate, atI_c0, atI_c1, atI_c2, atI_c3, atI_c4, atI_c5, atI_c6, ixN_70, ixN_71, ixN_72, ixN_73, ixN_74, ixN_75, ixN_76, Nat.reduceAdd, Int.reduceToNat, Int.reducePow, ite_T, ite_F, if_dec, if_ndec, if_nb, true_and, if_true, Bool.false_eq_true, if_false])
local macro_rules | `(tactic| walk_at "v") => `(tactic| simp only [wSeq, wAugD, wAugN, fSetI, fLenS, fInS, fSort, fSortD, fSortSetI, fSortSetP, fRem, wNext, wIf, wRet, wRetN, wDrop, wAsg, gN, wVar, wC, wOp, wUn, wNil, wCons, wCB, wTup, wLst, wLstF, wTe, tB0, wAnd, wOr, wNot, wAndV, wOrV, wNotV, wIfE, wCall, wCallG, wRaise, wFrz, fFrz, rets, fI, fI0, fAdd, fSub, fMul, fLt, fLe, fGt, fGe, fMod, fModN, fPow, fDiv, fDivG, fNeg, fEq, fNe, eqF_int, eqF_bl, eqF_str, scal_int, scal_bl, scal_str, fLen, sv, fIx, fAbs, fInt, fList, wSl, fSlL, oNo, oSo, lvr, lv, fCat, wMeL, fApp, fPop, fSetL, gSb, gTp, gCn, gNl, wPar, wBrk, wCnt, fIsi, wIsx, wYes, wip, wTr, truD, wTry, clrD, wFld, fieldsD, wSetF, wMeth, wMake, wIsX, wXf, wTryX, wRaiseL, wRaiseV, fCatM, fEqL, fNeL, fStrI, fFmt, wJoin, wJs, wChain, wLR, wProp, fRepT, wDIn, wDNewT, fSetD, gLs, fIns, fPopAt, fClear, fTuple, fMin2, fMaxL, fAny, wRev, fRev, wDNew, wDNewF, wDsp1, wDsp1F, fAddS, fIsN, fNotN, um_same, um_um, st0, List.map_cons, List.map_nil, List.length_cons, List.length_nil, List.getElem?_cons_zero, List.getElem?_cons_succ, List.set_cons_zero, List.set_cons_succ, List.cons_append, List.nil_append, List.replicate, atI_c0, atI_c1, atI_c2, atI_c3, atI_c4, atI_c5, atI_c6, ixN_70, ixN_71, ixN_72, ixN_73, ixN_74, ixN_75, ixN_76, Nat.reduceAdd, Int.reduceToNat, Int.reducePow, ite_T, ite_F, if_dec, if_ndec, if_nb, true_and, if_true, Bool.false_eq_true, if_false])
local macro_rules | `(tactic| walk_at "u") => `(tactic| simp only [wSeq, wAugD, wAugN, fSetI, fLenS, fInS, fSort, fSortD, fSortSetI, fSortSetP, fRem, wNext, wIf, wRet, wRetN, wDrop, wAsg, gN, wVar, wC, wOp, wUn, wNil, wCons, wCB, wTup, wLst, wLstF, wTe, tB0, wAnd, wOr, wNot, wAndV, wOrV, wNotV, wIfE, wCall, wCallG, wRaise, rets, fI, fI0, fAdd, fSub, fMul, fLt, fLe, fGt, fGe, fMod, fModN, fPow, fDiv, fDivG, fNeg, fEq, fNe, eqF_int, eqF_bl, eqF_str, scal_int, scal_bl, scal_str, fLen, sv, fIx, fAbs, fInt, fList, wSl, fSlL, oNo, oSo, lvr, lv, fCat, wMeL, fApp, fPop, fSetL, gSb, gTp, gCn, gNl, wPar, wBrk, wCnt, fIsi, wIsx, wYes, wip, wTr, truD, wTry, clrD, wFld, fieldsD, wSetF, wMeth, wMake, wIsX, wXf, wTryX, wRaiseL, wRaiseV, fCatM, fEqL, fNeL, fStrI, fFmt, wJoin, wJs, wChain, wLR, wProp, fRepT, wDIn, wDNewT, fSetD, gLs, fIns, fPopAt, fClear, fTuple, fMin2, fMaxL, fAny, wRev, fRev, wDNew, wDNewF, wDsp1, wDsp1F, fAddS, fIsN, fNotN, um_same, um_um, st0, List.map_cons, List.map_nil, List.length_cons, List.length_nil, List.getElem?_cons_zero, List.getElem?_cons_succ, List.set_cons_zero, List.set_cons_succ, List.cons_append, List.nil_append, List.replicate, atI_c0, atI_c1, atI_c2, atI_c3, atI_c4, atI_c5, atI_c6, ixN_70, ixN_71, ixN_72, ixN_73, ixN_74, ixN_75, ixN_76, Nat.reduceAdd, Int.reduceToNat, Int.reducePow, ite_T, ite_F, if_dec, if_ndec, if_nb, true_and, if_true, Bool.false_eq_true, if_false])
def farD (ts : List Int) (F : Int → List Int) : D := .dK (ts.map Sum.inl) (ts.map fun t => metD (F t))
theorem getf_get {μ : Mu} {fs : List Int} {x : Int} : dget μ (metD fs) (.int x) = some (if x ∈ fs then some (.int 1) else none) := by
  have e : ((fs.map (Sum.inl : Int → Key)).zip (fs.map fun _ => D.int 1)) = fs.map fun x => (Sum.inl x, .int 1) := by
    rw [List.zip_map']
  show some (getD' ((fs.map (Sum.inl : Int → Key)).zip (fs.map fun _ => D.int 1)) (Sum.inl x)) = _
  rw [e, get_map (h := fun _ => .int 1)]
theorem far_get {μ : Mu} {ts : List Int} {F : Int → List Int} {t : Int} (h : t ∈ ts) : dget μ (farD ts F) (.int t) = some (some (metD (F t))) := by
  have e : ((ts.map (Sum.inl : Int → Key)).zip (ts.map fun t => metD (F t))) = ts.map fun t => (Sum.inl t, metD (F t)) := by
    rw [List.zip_map']
  show some (getD' ((ts.map (Sum.inl : Int → Key)).zip (ts.map fun t => metD (F t))) (Sum.inl t)) = _
  rw [e, get_map (h := fun t => metD (F t)), if_pos h]
def rowsD (cl : List (List Int)) : List D := cl.map fun c => .lst (c.map D.int)
def c_law_classes (A : Ad) : Ct := fun ds μ Q _ => match ds with
  | [.lst T, fd] => ∃ (ts : List Int) (nb : Int → List Int) (F : Int → List Int), T = ts.map D.int ∧ fd = farD ts F ∧ ts.Nodup ∧ ts.length ≤ 40 ∧ (∀ t ∈ ts, ∀ x, x ∈ F t ↔ Rp nb t x) ∧ Q (.lst (rowsD (clsT (srt ts) nb ts.length))) μ
  | _ => False
abbrev s_law_classes : Stmt := top 28
theorem sc_law_classes : FnScope ["tags", "far", "classes", "placed", "tag", "row", "other"] ["tags", "far"] (defScope s_law_classes) := ⟨rfl, rfl, rfl, by decide +kernel, rfl, by decide +kernel, by decide +kernel⟩
def w_law_classes_3 (A : Ad) (E : EX) : WS := (wRet (wFrz (wVar 2)))
def w_law_classes_b1 (A : Ad) (E : EX) : WS := (wAsg (wC (.int (1))) (gSb fSetD (wVar 3) (wVar 6)))
def w_law_classes_b2 (A : Ad) (E : EX) : WS := (wIf (wTe (wDIn true (wVar 4) (wVar 3))) (wSeq (wAsg (wFrz (wLc (iLs (wFrz (wCB fSort (wCons (wVar 0) wNil)))) 6 [6] (wOr (wTe (wOp fEq (wVar 6) (wVar 4))) (wAnd (wTe (wDIn false (wVar 6) (wOp fDGet (wVar 1) (wVar 4)))) (wTe (wDIn false (wVar 4) (wOp fDGet (wVar 1) (wVar 6)))))) (wVar 6))) (gN 5))
  (wSeq (wFor (iLs (wVar 5)) (gN 6) (w_law_classes_b1 A E))
  (wDrop (wMeL fApp (wVar 2) (wCons (wVar 5) wNil))))) wNext)
def w_law_classes_2 (A : Ad) (E : EX) : WS := (wSeq (wFor (iLs (wFrz (wCB fSort (wCons (wVar 0) wNil)))) (gN 4) (w_law_classes_b2 A E))
  (w_law_classes_3 A E))
def w_law_classes (A : Ad) (E : EX) : WS := (wSeq (wAsg (wLst wNil) (gN 2))
  (wSeq (wAsg wDNew (gN 3))
  (w_law_classes_2 A E)))
theorem pure_law_classes (A : Ad) (ds μ Q E0) (h : c_law_classes A ds μ Q E0) : w_law_classes A (fun C fs _ μ => dwx E0 C fs μ) (rets Q) (st0 7 ds) μ := by
  unfold c_law_classes at h
  split at h
  · rename_i T fd
    obtain ⟨ts, nb, F, rfl, rfl, nd, hl, hF, h⟩ := h
    unfold w_law_classes
    walk_at "v"
    refine ⟨by decide, fun c hc p hp => ?_⟩
    have hpc : p ≠ c := fun e => by rw [e, um_same] at hp; cases hp
    rw [um_ne hpc] at hp
    unfold w_law_classes_2 wSeq
    simp only [wFor, iLs, wUn, wCB, wCons, wNil, wVar, List.getElem?_cons_zero, List.getElem?_cons_succ]
    refine ⟨_, ts, rfl, rfl, fun r hr => ?_⟩
    unfold fFrz
    dsimp only
    rw [um_same]
    dsimp only
    rw [rm_um hr]
    have hsl : (srt ts).length = ts.length := srt_len ts
    have snd : (srt ts).Nodup := (srt_perm ts).nodup_iff.mpr nd
    have sm : ∀ x, x ∈ srt ts ↔ x ∈ ts := fun x => mem_srt
    rw [← hsl] at h hl
    have hF : ∀ t ∈ srt ts, ∀ x, decide (x ∈ F t) = rpB nb t x := fun t ht x => by
      rw [Bool.eq_iff_iff, decide_eq_true_eq, rpB_iff]
      exact hF t ((sm t).mp ht) x
    have gc : ∀ X Y, um (um μ c X) p Y c = some X := fun X Y => by rw [um_ne (Ne.symm hpc), um_same]
    refine ⟨fun i ρ μ' => ∃ r4 r5 r6, μ' = um (um μ c (.lst (rowsD (clsT (srt ts) nb i)))) p (.dK (metK (clsT (srt ts) nb i).flatten)) ∧ ρ = [some (.lst (ts.map D.int)), some (farD ts F), some (.mut c), some (.mut p), r4, r5, r6], ⟨_, _, _, rfl, rfl⟩, fun _ _ _ _ => trivial, ?_, ?_⟩
    · rintro i e ρ μ' he ⟨r4, r5, r6, rfl, rfl⟩
      rw [fixi] at he
      obtain ⟨t, ht, rfl⟩ := map_at he
      have hts := List.mem_of_getElem? ht
      have hi := (List.getElem?_eq_some_iff.mp ht).1
      have C := Cin.all (nb := nb) snd i (by omega)
      simp only [gN, List.set_cons_zero, List.set_cons_succ]
      rw [clsT_succ ht]
      generalize clsT (srt ts) nb i = acc at *
      have accl : acc.length ≤ 40 := by have := C.len; omega
      have fl : ∀ l : List Int, l.Nodup → (∀ x ∈ l, x ∈ srt ts) → l.length ≤ 40 := fun l h1 h2 => by have := nodup_le l (srt ts) h1 h2; omega
      have accs : ∀ x ∈ acc.flatten, x ∈ srt ts := fun x hx => by
        obtain ⟨c, hc, hxc⟩ := List.mem_flatten.mp hx
        obtain ⟨s, _, rfl⟩ := C.from_ c hc
        exact (mem_cof.mp hxc).1
      unfold w_law_classes_b2
      walk_at "u"
      refine ⟨if t ∈ acc.flatten then some (.int 1) else none, ?_, ?_⟩
      · unfold dget
        dsimp only
        rw [um_same]
        show some (getD' (metK acc.flatten) (Sum.inl t)) = _
        rw [metK_get]
      unfold stC
      by_cases c_1 : t ∈ acc.flatten
      · rw [if_pos c_1, if_pos c_1]
        simp only [Option.isSome_some, Bool.not_true, Bool.false_eq_true, if_false]
        exact wk.of ⟨_, _, _, rfl, rfl⟩
      · rw [if_neg c_1, if_neg c_1]
        simp only [Option.isSome_none, Bool.not_false, if_true]
        refine lc_frz (srt ts) D.int (fun x => decide (x = t) || (rpB nb t x && rpB nb x t)) D.int ⟨.fix ((srt ts).map D.int), rfl, trivial, fun R hR => ?_⟩ (by omega) (fun x hx μ1 R hle hR => ?_) (fun x hx _ μ1 R hle hR => hR) ?_
        · simp only [iLs, wUn, wCB, wCons, wNil, wVar, List.getElem?_cons_zero, List.getElem?_cons_succ]
          refine ⟨_, ts, rfl, rfl, fun r hr => ?_⟩
          unfold fFrz
          dsimp only
          rw [um_same]
          dsimp only
          rw [rm_um hr]
          exact hR
        · simp only [wip, wOr, wAnd, wTe, wOp, wVar, wDIn, List.getElem?_cons_zero, List.getElem?_cons_succ, List.set_cons_zero, List.set_cons_succ, fEq, scal_int, eqF_int, true_and, tB0]
          by_cases c2 : x = t
          · subst c2
            simp only [decide_true, Bool.true_or] at hR
            simp
            exact hR
          · have e1 : decide (x = t) = false := decide_eq_false c2
            rw [e1, Bool.false_or] at hR
            simp [c2]
            refine ⟨_, far_get ((sm t).mp hts), ?_⟩
            have g1 : ∀ (M : Mu) (fs : List Int) (x : Int), dget M (metD fs) (.int x) = some (if x ∈ fs then some (.int 1) else none) := fun M fs x => getf_get
            refine ⟨_, g1 _ _ _, ?_⟩
            have e2 : (if x ∈ F t then some (D.int 1) else none).isSome = rpB nb t x := by
              rw [← hF t hts x]
              by_cases c : x ∈ F t <;> simp [c]
            have e3 : (if t ∈ F x then some (D.int 1) else none).isSome = rpB nb x t := by
              rw [← hF x hx t]
              by_cases c : t ∈ F x <;> simp [c]
            rw [e2]
            cases c3 : rpB nb t x with
            | false =>
              rw [c3, Bool.false_and] at hR
              exact hR
            | true =>
              rw [c3, Bool.true_and] at hR
              refine ⟨_, far_get ((sm x).mp hx), _, g1 _ _ _, ?_⟩
              rw [e3]
              exact hR
        · have ec : (srt ts).filter (fun x => decide (x = t) || (rpB nb t x && rpB nb x t)) = cof (srt ts) nb t := rfl
          rw [ec]
          have cnd : (cof (srt ts) nb t).Nodup := cof_nd snd
          have newx : ∀ x ∈ cof (srt ts) nb t, x ∉ acc.flatten := fun x hx => cof_new C hts c_1 hx
          have l1 := fl acc.flatten C.nd accs
          have l2 := fl (cof (srt ts) nb t) cnd fun y hy => (mem_cof.mp hy).1
          refine for_lv2 (d := .lst ((cof (srt ts) nb t).map D.int)) (l := (cof (srt ts) nb t).map D.int) rfl rfl (fun j ρ μ' => ∃ r6, μ' = um (um μ c (.lst (rowsD acc))) p (.dK (metK (acc.flatten ++ (cof (srt ts) nb t).take j))) ∧ ρ = [some (.lst (ts.map D.int)), some (farD ts F), some (.mut c), some (.mut p), some (.int t), some (.lst ((cof (srt ts) nb t).map D.int)), r6]) ⟨_, by rw [List.take_zero, List.append_nil], rfl⟩ (fun _ _ _ _ => rfl) ?_ ?_
          · rintro j e ρ μ' he ⟨r6, rfl, rfl⟩
            obtain ⟨x, hx, rfl⟩ := map_at he
            have hxm := List.mem_of_getElem? hx
            have e2 : x ∉ acc.flatten ++ (cof (srt ts) nb t).take j := fun z => (List.mem_append.mp z).elim (newx x hxm) (not_take cnd hx)
            unfold w_law_classes_b1
            walk_at "w"
            refine ⟨?_, Sum.inl x, rfl, wk.of ⟨_, ?_, rfl⟩⟩
            · unfold metK
              rw [List.length_map, List.length_append, List.length_take]
              omega
            · unfold metK
              rw [put_new (h := fun _ => D.int 1) e2, List.take_succ, hx, Option.toList_some, ← List.append_assoc, List.map_append (l₂ := [x])]
              rfl
          · rintro ρ μ' ⟨r6, rfl, rfl⟩
            rw [List.length_map, List.take_length]
            walk_at "w"
            refine ⟨⟨c, _, rfl, gc _ _⟩, ?_⟩
            rw [gc]
            dsimp only
            refine ⟨by unfold rowsD; rw [List.length_map]; omega, wk.of ⟨_, _, _, ?_, rfl⟩⟩
            rw [um_comm hpc, um_um]
            have e1 : acc.flatten ++ cof (srt ts) nb t = (acc ++ [cof (srt ts) nb t]).flatten := by rw [List.flatten_append]; simp
            have e2 : rowsD acc ++ [.lst ((cof (srt ts) nb t).map D.int)] = rowsD (acc ++ [cof (srt ts) nb t]) := by unfold rowsD; rw [List.map_append]; rfl
            rw [e1, e2]
    · rintro ρ μ' ⟨r4, r5, r6, rfl, rfl⟩
      rw [fixi, List.length_map]
      unfold w_law_classes_3
      walk_at "w"
      rw [gc]
      dsimp only
      rw [um_comm (Ne.symm hpc), rm_um (by rw [um_ne (Ne.symm hpc)]; exact hc)]
      exact ⟨μ, le.um hp, h⟩
  · exact h.elim
theorem len_law_classes (A : Ad) : ∀ ds μ Q E, c_law_classes A ds μ Q E → ds.length = 2 := by
  intro ds μ Q E h
  unfold c_law_classes at h
  first | (split at h) | (split at h)
  all_goals first | rfl | exact h.elim
theorem ok_law_classes {P : Program} {w : World} {K : PySem.W.Frag} {mg : Str → Option Value} {base : Heap} {A : Ad} (D : Dfn K mg "_law_classes" "_law_classes" s_law_classes ["tags", "far"]) (T : Tx P w base K mg A)  : DfOk P w K mg base "_law_classes" 1 ["tags", "far"] (c_law_classes A) := by
  obtain ⟨f, fd, F, hm, hb⟩ := D
  refine ⟨f, fd, okD F sc_law_classes (by decide) (len_law_classes A) ?_, hm, F.kp, hb⟩
  intro X W E cdv B outer s H Ex hX tk hp hr
  subst hX
  exact ⟨_, w_law_classes A E, (scons (sset (i := 2) (elst anil) sc_law_classes.nd)
  (scons (sset (i := 3) ednew sc_law_classes.nd)
  (scons (sfor hp (il (efrz (ecb cr_sortedI dc_sort T.b_sorted (acons (ev 0) anil)))) (gnm 4 sc_law_classes.nd) (sone (sif (tdnin (Room.units1 hr) (ev 4) (ev 3)) (scons (ssetlcF sc_law_classes.nd 5 [("other", 6)] 6 (il (efrz (ecb cr_sortedI dc_sort T.b_sorted (acons (ev 0) anil)))) (fun _ _ _ _ _ => gnmP 6 sc_law_classes.nd) (fun _ _ _ _ _ => ⟨_, (tsone (tbo (tor (tc' op_eq do_eq (ev 6) (ev 4)) (tor1 (tbo (tand (tdin (Room.units1 hr) (ev 6) (edget (Room.units1 hr) (ev 1) (ev 4))) (tand1 (tdin (Room.units1 hr) (ev 4) (edget (Room.units1 hr) (ev 1) (ev 6))))))))))⟩) (fun _ _ _ _ _ => ⟨_, (ev 6)⟩))
  (scons (sfor hp (il (ev 5)) (gnm 6 sc_law_classes.nd) (sone (sasg ei (gsd (Room.units1 hr) (ev 3) (ev 6)))))
  (sone (sexpr (eapp (ev 2) (acons (ev 5) anil)))))) snil)))
  (sone (sret (efrz (ev 2))))))), fun ds μ Q E0 hc hE => by subst hE; exact pure_law_classes A ds μ Q E0 hc⟩
end K14
set_option maxHeartbeats 800000
namespace K14
open PySem L2 DL
local macro_rules | `(tactic| walk_at "w") => `(tactic| simp only [wSeq, wAugD, wAugN, fSetI, fLenS, fInS, fSort, fSortD, fSortSetI, fSortSetP, fRem, wNext, wIf, wRet, wRetN, wDrop, wAsg, gN, wVar, wC, wOp, wUn, wNil, wCons, wCB, wTup, wLst, wLstF, wTe, tB0, wAnd, wOr, wNot, wAndV, wOrV, wNotV, wIfE, wCall, wCallG, wRaise, wFrz, fFrz, rets, fI, fI0, fAdd, fSub, fMul, fLt, fLe, fGt, fGe, fMod, fModN, fPow, fDiv, fDivG, fNeg, fEq, fNe, eqF_int, eqF_bl, eqF_str, scal_int, scal_bl, scal_str, fLen, sv, fIx, fAbs, fInt, fList, wSl, fSlL, oNo, oSo, lvr, lv, fCat, wMeL, fApp, fPop, fSetL, gSb, iLs, iTp, iR1, iR2, wFor, gTp, gCn, gNl, wPar, wBrk, wCnt, fIsi, wIsx, wLc, wYes, wip, wTr, truD, wTry, clrD, wFld, fieldsD, wSetF, wMeth, wMake, wIsX, wXf, wTryX, wRaiseL, wRaiseV, fCatM, fEqL, fNeL, fStrI, fFmt, wJoin, wJs, wChain, wLc2, wLR, wProp, fRepT, wDIn, wDNewT, fSetD, iR3, gLs, fIns, fPopAt, fClear, fTuple, fMin2, fMaxL, fAny, iEn, wRev, fRev, wDNew, wDNewF, wDsp1, wDsp1F, fAddS, fIsN, fNotN, um_same, um_um, st0, List.map_cons, List.map_nil, List.length_cons, List.length_nil, List.getElem?_cons_zero, List.getElem?_cons_succ, List.set_cons_zero, List.set_cons_succ, List.cons_append, List.nil_append, List.replicate, atI_c0, atI_c1, atI_c2, atI_c3, atI_c4, atI_c5, atI_c6, ixN_70, ixN_71, ixN_72, ixN_73, ixN_74, ixN_75, ixN_76, Nat.reduceAdd, Int.reduceToNat, Int.reducePow, ite_T, ite_F, if_dec, if_ndec, if_nb, true_and, if_true, Bool.false_eq_true, if_false])
local macro_rules | `(tactic| walk_at "v") => `(tactic| simp only [wSeq, wAugD, wAugN, fSetI, fLenS, fInS, fSort, fSortD, fSortSetI, fSortSetP, fRem, wNext, wIf, wRet, wRetN, wDrop, wAsg, gN, wVar, wC, wOp, wUn, wNil, wCons, wCB, wTup, wLst, wLstF, wTe, tB0, wAnd, wOr, wNot, wAndV, wOrV, wNotV, wIfE, wCall, wCallG, wRaise, wFrz, fFrz, rets, fI, fI0, fAdd, fSub, fMul, fLt, fLe, fGt, fGe, fMod, fModN, fPow, fDiv, fDivG, fNeg, fEq, fNe, eqF_int, eqF_bl, eqF_str, scal_int, scal_bl, scal_str, fLen, sv, fIx, fAbs, fInt, fList, wSl, fSlL, oNo, oSo, lvr, lv, fCat, wMeL, fApp, fPop, fSetL, gSb, gTp, gCn, gNl, wPar, wBrk, wCnt, fIsi, wIsx, wYes, wip, wTr, truD, wTry, clrD, wFld, fieldsD, wSetF, wMeth, wMake, wIsX, wXf, wTryX, wRaiseL, wRaiseV, fCatM, fEqL, fNeL, fStrI, fFmt, wJoin, wJs, wChain, wLR, wProp, fRepT, wDIn, wDNewT, fSetD, gLs, fIns, fPopAt, fClear, fTuple, fMin2, fMaxL, fAny, wRev, fRev, wDNew, wDNewF, wDsp1, wDsp1F, fAddS, fIsN, fNotN, um_same, um_um, st0, List.map_cons, List.map_nil, List.length_cons, List.length_nil, List.getElem?_cons_zero, List.getElem?_cons_succ, List.set_cons_zero, List.set_cons_succ, List.cons_append, List.nil_append, List.replicate, atI_c0, atI_c1, atI_c2, atI_c3, atI_c4, atI_c5, atI_c6, ixN_70, ixN_71, ixN_72, ixN_73, ixN_74, ixN_75, ixN_76, Nat.reduceAdd, Int.reduceToNat, Int.reducePow, ite_T, ite_F, if_dec, if_ndec, if_nb, true_and, if_true, Bool.false_eq_true, if_false])
local macro_rules | `(tactic| walk_at "u") => `(tactic| simp only [wSeq, wAugD, wAugN, fSetI, fLenS, fInS, fSort, fSortD, fSortSetI, fSortSetP, fRem, wNext, wIf, wRet, wRetN, wDrop, wAsg, gN, wVar, wC, wOp, wUn, wNil, wCons, wCB, wTup, wLst, wLstF, wTe, tB0, wAnd, wOr, wNot, wAndV, wOrV, wNotV, wIfE, wCall, wCallG, wRaise, rets, fI, fI0, fAdd, fSub, fMul, fLt, fLe, fGt, fGe, fMod, fModN, fPow, fDiv, fDivG, fNeg, fEq, fNe, eqF_int, eqF_bl, eqF_str, scal_int, scal_bl, scal_str, fLen, sv, fIx, fAbs, fInt, fList, wSl, fSlL, oNo, oSo, lvr, lv, fCat, wMeL, fApp, fPop, fSetL, gSb, gTp, gCn, gNl, wPar, wBrk, wCnt, fIsi, wIsx, wYes, wip, wTr, truD, wTry, clrD, wFld, fieldsD, wSetF, wMeth, wMake, wIsX, wXf, wTryX, wRaiseL, wRaiseV, fCatM, fEqL, fNeL, fStrI, fFmt, wJoin, wJs, wChain, wLR, wProp, fRepT, wDIn, wDNewT, fSetD, gLs, fIns, fPopAt, fClear, fTuple, fMin2, fMaxL, fAny, wRev, fRev, wDNew, wDNewF, wDsp1, wDsp1F, fAddS, fIsN, fNotN, um_same, um_um, st0, List.map_cons, List.map_nil, List.length_cons, List.length_nil, List.getElem?_cons_zero, List.getElem?_cons_succ, List.set_cons_zero, List.set_cons_succ, List.cons_append, List.nil_append, List.replicate, atI_c0, atI_c1, atI_c2, atI_c3, atI_c4, atI_c5, atI_c6, ixN_70, ixN_71, ixN_72, ixN_73, ixN_74, ixN_75, ixN_76, Nat.reduceAdd, Int.reduceToNat, Int.reducePow, ite_T, ite_F, if_dec, if_ndec, if_nb, true_and, if_true, Bool.false_eq_true, if_false])
/-! ### rows of whole numbers as data -/
def rowP (c : List Int) : PyData := .list (c.map .int)
theorem toP_row (c : List Int) : toP (.lst (c.map D.int)) = some (rowP c) := by
  show (toPs (c.map D.int)).map PyData.list = _
  rw [toPs_ints]
  rfl
theorem toPs_rows : ∀ cl : List (List Int), toPs (rowsD cl) = some (cl.map rowP)
  | [] => rfl
  | c :: cl => by
    have ih := toPs_rows cl
    have e : rowsD (c :: cl) = .lst (c.map D.int) :: rowsD cl := rfl
    rw [e]
    unfold toPs
    rw [toP_row, ih]
    rfl
theorem toP_rows (cl : List (List Int)) : toP (.lst (rowsD cl)) = some (.list (cl.map rowP)) := by
  show (toPs (rowsD cl)).map PyData.list = _
  rw [toPs_rows]
  rfl
theorem shaped_row (c : List Int) : SeqAt.shaped (rowP c) = true := shaped_ints c
theorem lay_rows : ∀ L : List (List Int), PyData.canLayAll0 (L.map rowP) = true
  | [] => by simp [PyData.canLayAll0]
  | s :: L => by simp [PyData.canLayAll0, rowP, PyData.canLay0, lay_ints, lay_rows L]
theorem dep_rows : ∀ L : List (List Int), PyData.depthAll (L.map rowP) ≤ 1
  | [] => by simp [PyData.depthAll]
  | s :: L => by
    have := dep_rows L
    have e : PyData.depth (rowP s) = 1 := by simp [rowP, PyData.depth, dep_ints]
    rw [List.map_cons, PyData.depthAll, e]
    omega
theorem shaped_rows (L : List (List Int)) : SeqAt.shaped (.list (L.map rowP)) = true := by
  have := dep_rows L
  unfold SeqAt.shaped
  rw [PyData.canLay0, PyData.depth, lay_rows, Bool.true_and]
  exact decide_eq_true (by omega)
theorem eqv_row (a b : List Int) : PyData.eqv (rowP a) (rowP b) = decide (a = b) := by
  unfold rowP PyData.eqv
  exact eqv_ints a b
theorem eqv_nilG (es : List PyData) : PyData.eqv (.list es) (.list []) = es.isEmpty := by
  cases es with
  | nil => decide
  | cons x l => first | rfl | (simp [PyData.eqv]; done)
theorem rows_get {cl : List (List Int)} {i : Nat} {d : D} (h : (rowsD cl)[i]? = some d) : ∃ c, cl[i]? = some c ∧ d = .lst (c.map D.int) := by
  unfold rowsD at h
  rw [List.getElem?_map] at h
  cases e : cl[i]? with
  | none => rw [e] at h; cases h
  | some c => rw [e] at h; exact ⟨c, rfl, (Option.some.inj h).symm⟩
theorem head_at {c : List Int} (h : c ≠ []) : atI (c.map D.int) 0 = some (.int (c.headD 0)) := by
  have := atI_nat (c.map D.int) 0
  rw [show ((0 : Nat) : Int) = 0 from rfl] at this
  rw [this]
  cases c with
  | nil => exact absurd rfl h
  | cons x l => rfl
/-- ready: hides nothing that is left -/
def rdy (fr : Int → Int → Bool) (left : List (List Int)) (row : List Int) : Bool := (left.filter fun o => decide (o ≠ row) && fr (row.headD 0) (o.headD 0)).isEmpty
theorem ino_succ (fr : Int → Int → Bool) (n : Nat) (left : List (List Int)) : ino fr (n + 1) left = match left.filter (rdy fr left) with
    | [] => []
    | x :: _ => x :: ino fr n (left.filter fun row => decide (row ≠ x)) := rfl
theorem lc_frzU {α : Type} {wi : WI} {i : Nat} {vs : List Nat} {tt : WT} {te : WEx} {ρ : En} {μ : Mu} {Q : D → Mu → Prop} (L : List α) (f : α → D) (t : α → Bool) (h : α → D) (hw : ∃ k : Wk, k.items = L.map f ∧ k.ok μ ∧ ∀ R : Wk → Mu → Prop, R k μ → wi ρ μ R) (hz : L.length < 100000)
    (ht : ∀ x ∈ L, ∀ μ' R, le μ μ' → R (t x) μ' → tt ((wip ρ vs).set i (some (f x))) μ' R) (he : ∀ x ∈ L, t x = true → ∀ μ' R, le μ μ' → R (h x) μ' → te ((wip ρ vs).set i (some (f x))) μ' R) (q : Q (.lst ((L.filter t).map h)) μ) : wLc wi i vs tt te ρ μ (fun x μ1 => fFrz x μ1 Q) := lc_frz L f t h hw hz ht he q
theorem ite_some {x : Int} {l : List Int} {d : D} : (if x ∈ l then some d else none).isSome = decide (x ∈ l) := by
  by_cases c : x ∈ l <;> simp [c]
def c_law_in_order (A : Ad) : Ct := fun ds μ Q _ => match ds with
  | [.lst C, fd] => ∃ (ts : List Int) (nb : Int → List Int) (F : Int → List Int) (cl : List (List Int)), C = rowsD cl ∧ fd = farD ts F ∧ cl.length ≤ 40 ∧ (∀ c ∈ cl, c.headD 0 ∈ ts ∧ c ≠ []) ∧ (∀ t ∈ ts, ∀ x, x ∈ F t ↔ Rp nb t x) ∧ Q (.lst (rowsD (ino (rpB nb) cl.length cl))) μ
  | _ => False
abbrev s_law_in_order : Stmt := top 29
theorem sc_law_in_order : FnScope ["classes", "far", "left", "rows", "turn", "ready", "row", "other"] ["classes", "far"] (defScope s_law_in_order) := ⟨rfl, rfl, rfl, by decide +kernel, rfl, by decide +kernel, by decide +kernel⟩
def w_law_in_order_3 (A : Ad) (E : EX) : WS := (wRet (wFrz (wVar 3)))
def w_law_in_order_b1 (A : Ad) (E : EX) : WS := (wIf (wTe (wOp fEqD (wFrz (wLc (iLs (wVar 2)) 7 [7] (wAnd (wTe (wOp fNeD (wVar 7) (wVar 6))) (wTe (wDIn false (wOp fIx (wVar 7) (wC (.int (0)))) (wOp fDGet (wVar 1) (wOp fIx (wVar 6) (wC (.int (0)))))))) (wVar 7))) (wLstF wNil))) (wDrop (wMeL fApp (wVar 5) (wCons (wVar 6) wNil))) wNext)
def w_law_in_order_b2 (A : Ad) (E : EX) : WS := (wSeq (wAsg (wLst wNil) (gN 5))
  (wSeq (wFor (iLs (wVar 2)) (gN 6) (w_law_in_order_b1 A E))
  (wSeq (wIf (wTe (wOp fEqL (wVar 5) (wLstF wNil))) (wRet (wFrz (wVar 3))) wNext)
  (wSeq (wDrop (wMeL fApp (wVar 3) (wCons (wOp fIx (wVar 5) (wC (.int (0)))) wNil)))
  (wAsg (wFrz (wLc (iLs (wVar 2)) 6 [6] (wTe (wOp fNeD (wVar 6) (wOp fIx (wVar 5) (wC (.int (0)))))) (wVar 6))) (gN 2))))))
def w_law_in_order (A : Ad) (E : EX) : WS := (wSeq (wAsg (wFrz (wCB fList (wCons (wVar 0) wNil))) (gN 2))
  (wSeq (wAsg (wLst wNil) (gN 3))
  (wSeq (wFor (iR1 (wCons (wCB fLen (wCons (wVar 0) wNil)) wNil)) (gN 4) (w_law_in_order_b2 A E))
  (w_law_in_order_3 A E))))
theorem pure_law_in_order (A : Ad) (ds μ Q E0) (h : c_law_in_order A ds μ Q E0) : w_law_in_order A (fun C fs _ μ => dwx E0 C fs μ) (rets Q) (st0 8 ds) μ := by
  unfold c_law_in_order at h
  split at h
  · rename_i C fd
    obtain ⟨ts, nb, F, cl, rfl, rfl, hl, hh, hF, h⟩ := h
    unfold w_law_in_order
    walk_at "v"
    intro q hq
    rw [rm_um hq]
    refine ⟨by decide, fun p hp => ?_⟩
    simp only [wFor, iR1, wOp, wCB, fLen, sv, wCons, wNil, wVar, wC, fAdd, fI0, List.getElem?_cons_zero, List.getElem?_cons_succ]
    generalize hfr : rpB nb = fr at h
    have hF : ∀ t ∈ ts, ∀ x, decide (x ∈ F t) = fr t x := fun t ht x => by
      rw [← hfr, Bool.eq_iff_iff, decide_eq_true_eq, rpB_iff]
      exact hF t ht x
    have rl : ∀ c : List (List Int), (rowsD c).length = c.length := fun c => by unfold rowsD; rw [List.length_map]
    refine ⟨⟨by omega, by rw [rl]; omega⟩, fun i ρ μ' => ∃ (L rows : List (List Int)) (r4 r5 r6 r7 : Option D), L.length ≤ 40 ∧ (∀ c ∈ L, c ∈ cl) ∧ rows.length ≤ i ∧ rows ++ ino fr (cl.length - i) L = ino fr cl.length cl ∧ μ' = um μ p (.lst (rowsD rows)) ∧ ρ = [some (.lst (rowsD cl)), some (farD ts F), some (.lst (rowsD L)), some (.mut p), r4, r5, r6, r7], ⟨cl, [], _, _, _, _, hl, fun c hc => hc, Nat.le_refl _, rfl, rfl, rfl⟩, fun _ _ _ _ => trivial, ?_, ?_⟩
    · rintro i d ρ μ' hd ⟨L, rows, r4, r5, r6, r7, Ll, Lc, rwl, hrow, rfl, rfl⟩
      rw [fixi] at hd
      obtain ⟨hi, rfl⟩ := rng_at hd
      rw [rl] at hi
      have hi : i < cl.length := by omega
      unfold w_law_in_order_b2
      walk_at "v"
      refine ⟨by decide, fun a ha => ?_⟩
      have hap : a ≠ p := fun e => by rw [e, um_same] at ha; cases ha
      rw [um_ne hap] at ha
      refine for_lv2 (d := .lst (rowsD L)) (l := rowsD L) rfl rfl (fun j ρ μ' => ∃ (r6 r7 : Option D), μ' = um (um μ p (.lst (rowsD rows))) a (.lst (rowsD ((L.take j).filter (rdy fr L)))) ∧ ρ = [some (.lst (rowsD cl)), some (farD ts F), some (.lst (rowsD L)), some (.mut p), some (.int (0 + (i : Nat))), some (.mut a), r6, r7]) ⟨_, _, by rw [List.take_zero]; rfl, rfl⟩ (fun _ _ _ _ => rfl) ?_ ?_
      · rintro j e ρ μ' he ⟨r6, r7, rfl, rfl⟩
        obtain ⟨row, hrw, rfl⟩ := rows_get he
        have hrm := List.mem_of_getElem? hrw
        have hr := hh _ (Lc _ hrm)
        unfold w_law_in_order_b1
        walk_at "u"
        refine lc_frz L (fun c => .lst (c.map D.int)) (fun o => decide (o ≠ row) && fr (row.headD 0) (o.headD 0)) (fun c => .lst (c.map D.int)) ⟨.fix (rowsD L), rfl, trivial, fun R hR => ?_⟩ (by omega) (fun o ho μ1 R hle hR => ?_) (fun x hx _ μ1 R hle hR => hR) ?_
        · simp only [iLs, wVar, List.getElem?_cons_zero, List.getElem?_cons_succ]
          exact hR
        · have hho := hh _ (Lc _ ho)
          simp only [wip, wAnd, wTe, wOp, wVar, wC, wDIn, fIx, sv, head_at hho.2, head_at hr.2, List.getElem?_cons_zero, List.getElem?_cons_succ, List.set_cons_zero, List.set_cons_succ, tB0]
          refine ⟨_, _, toP_row o, toP_row row, shaped_row o, shaped_row row, ?_⟩
          rw [eqv_row]
          by_cases c2 : o = row
          · subst c2
            simp only [ne_eq, not_true_eq_false, decide_false, Bool.false_and] at hR
            simp
            exact hR
          · have e1 : decide (o ≠ row) = true := decide_eq_true c2
            rw [e1, Bool.true_and] at hR
            simp only [c2, decide_false, Bool.not_false, if_true]
            refine ⟨_, far_get hr.1, ?_⟩
            have g1 : ∀ (M : Mu) (fs : List Int) (x : Int), dget M (metD fs) (.int x) = some (if x ∈ fs then some (.int 1) else none) := fun M fs x => getf_get
            refine ⟨_, g1 _ _ _, ?_⟩
            rw [ite_some, hF _ hr.1]
            exact hR
        · refine ⟨by decide, _, .list [], toP_rows _, rfl, shaped_rows _, rfl, ?_⟩
          rw [eqv_nilG]
          have eb : ((L.filter fun o => decide (o ≠ row) && fr (row.headD 0) (o.headD 0)).map rowP).isEmpty = rdy fr L row := by
            unfold rdy
            rw [List.isEmpty_map]
          rw [eb]
          have tk : (L.take (j + 1)).filter (rdy fr L) = (L.take j).filter (rdy fr L) ++ (if rdy fr L row = true then [row] else []) := by
            rw [List.take_succ, hrw, Option.toList_some, List.filter_append]
            congr 1
            by_cases c : rdy fr L row = true
            · rw [if_pos c, List.filter_cons_of_pos c]; rfl
            · rw [if_neg c, List.filter_cons_of_neg c]; rfl
          by_cases c : rdy fr L row = true
          · rw [if_pos c] at tk
            dsimp only
            rw [if_pos c, um_same]
            have hlen : ((L.take j).filter (rdy fr L)).length ≤ 40 := Nat.le_trans (List.length_filter_le _ _) (by rw [List.length_take]; omega)
            refine ⟨⟨a, _, rfl, um_same⟩, ?_⟩
            dsimp only
            refine ⟨by rw [rl]; omega, wk.of ⟨_, _, ?_, rfl⟩⟩
            rw [um_um, tk]
            congr 2
            unfold rowsD
            rw [List.map_append]
            rfl
          · rw [if_neg c, List.append_nil] at tk
            dsimp only
            rw [if_neg c]
            exact wk.of ⟨_, _, by rw [tk], rfl⟩
      · rintro ρ μ' ⟨r6, r7, rfl, rfl⟩
        rw [rl, List.take_length]
        walk_at "u"
        have gp : ∀ X Y, um (um μ p X) a Y p = some X := fun X Y => by rw [um_ne (Ne.symm hap), um_same]
        refine ⟨by decide, _, _, .list [], rfl, toPs_rows _, rfl, shaped_rows _, rfl, ?_⟩
        rw [eqv_nilG]
        obtain ⟨n, hn⟩ : ∃ n, cl.length - i = n + 1 := ⟨cl.length - i - 1, by omega⟩
        have hn2 : cl.length - (i + 1) = n := by omega
        rw [hn, ino_succ] at hrow
        rw [List.isEmpty_map]
        cases q : L.filter (rdy fr L) with
        | nil =>
          rw [q] at hrow
          simp only [List.isEmpty_nil, if_true]
          unfold fFrz
          dsimp only
          rw [gp]
          dsimp only
          have hrow : rows = ino fr cl.length cl := by rw [← hrow, List.append_nil]
          rw [um_comm (Ne.symm hap), rm_um (by rw [um_ne (Ne.symm hap)]; exact hp), hrow]
          exact ⟨μ, le.um ha, h⟩
        | cons x X =>
          rw [q] at hrow
          have hx : x ∈ L := (List.mem_filter.mp (q ▸ List.mem_cons_self)).1
          simp only [List.isEmpty_cons, Bool.false_eq_true, if_false]
          refine ⟨⟨p, _, rfl, gp _ _⟩, ?_⟩
          have a0 : atI (rowsD (x :: X)) 0 = some (.lst (x.map D.int)) := atI_nat (rowsD (x :: X)) 0
          rw [a0]
          dsimp only
          rw [gp]
          dsimp only
          refine ⟨by rw [rl]; omega, ?_⟩
          have er : rowsD rows ++ [.lst (x.map D.int)] = rowsD (rows ++ [x]) := by unfold rowsD; rw [List.map_append]; rfl
          rw [er, um_comm hap, um_um]
          refine lc_frzU L (fun c => .lst (c.map D.int)) (fun row => decide (row ≠ x)) (fun c => .lst (c.map D.int)) ⟨.fix (rowsD L), rfl, trivial, fun R hR => ?_⟩ (by omega) (fun o ho μ1 R hle hR => ?_) (fun x hx _ μ1 R hle hR => hR) ?_
          · simp only [iLs, wVar, List.getElem?_cons_zero, List.getElem?_cons_succ]
            exact hR
          · simp only [wip, wTe, wOp, wVar, wC, List.getElem?_cons_zero, List.getElem?_cons_succ, List.set_cons_zero, List.set_cons_succ]
            refine fIx_cell (hle a _ um_same) a0 ⟨_, _, toP_row o, toP_row x, shaped_row o, shaped_row x, ?_⟩
            rw [eqv_row]
            have : (!decide (o = x)) = decide (o ≠ x) := by simp
            rw [this]
            exact hR
          · refine ⟨_, um μ p (.lst (rowsD (rows ++ [x]))), leE.refl, le.um (by rw [um_ne hap]; exact ha), L.filter fun row => decide (row ≠ x), rows ++ [x], _, _, _, _, Nat.le_trans (List.length_filter_le _ _) Ll, fun c hc => Lc c (List.mem_filter.mp hc).1, by rw [List.length_append]; show _ + 1 ≤ _; omega, ?_, rfl, rfl⟩
            rw [hn2, List.append_assoc]
            exact hrow
    · rintro ρ μ' ⟨L, rows, r4, r5, r6, r7, Ll, Lc, rwl, hrow, rfl, rfl⟩
      rw [fixi, rng_len, rl] at hrow
      have e0 : cl.length - ((cl.length : Nat) : Int).toNat = 0 := by omega
      rw [e0] at hrow
      unfold w_law_in_order_3
      walk_at "v"
      rw [rm_um hp]
      have hrow : rows = ino fr cl.length cl := by rw [← hrow]; unfold ino; rw [List.append_nil]
      rw [hrow]
      exact dwn.of h
  · exact h.elim
theorem len_law_in_order (A : Ad) : ∀ ds μ Q E, c_law_in_order A ds μ Q E → ds.length = 2 := by
  intro ds μ Q E h
  unfold c_law_in_order at h
  first | (split at h) | (split at h)
  all_goals first | rfl | exact h.elim
theorem ok_law_in_order {P : Program} {w : World} {K : PySem.W.Frag} {mg : Str → Option Value} {base : Heap} {A : Ad} (D : Dfn K mg "_law_in_order" "_law_in_order" s_law_in_order ["classes", "far"]) (T : Tx P w base K mg A)  : DfOk P w K mg base "_law_in_order" 1 ["classes", "far"] (c_law_in_order A) := by
  obtain ⟨f, fd, F, hm, hb⟩ := D
  refine ⟨f, fd, okD F sc_law_in_order (by decide) (len_law_in_order A) ?_, hm, F.kp, hb⟩
  intro X W E cdv B outer s H Ex hX tk hp hr
  subst hX
  exact ⟨_, w_law_in_order A E, (scons (sset (i := 2) (efrz (ecty call_list_of dc_list T.b_list (acons (ev 0) anil))) sc_law_in_order.nd)
  (scons (sset (i := 3) (elst anil) sc_law_in_order.nd)
  (scons (sfor hp (ir1 T.b_range (acons (ecb call_len_seq dc_len T.b_len (acons (ev 0) anil)) anil)) (gnm 4 sc_law_in_order.nd) (scons (sset (i := 5) (elst anil) sc_law_in_order.nd)
  (scons (sfor hp (il (ev 2)) (gnm 6 sc_law_in_order.nd) (sone (sif (tc' (op_eqD hr.units) do_eqD (efrz (elc sc_law_in_order.nd [("other", 7)] 7 (il (ev 2)) (fun _ _ _ _ _ => gnmP 7 sc_law_in_order.nd) (fun _ _ _ _ _ => ⟨_, (tsone (tbo (tand (tc' (op_neD hr.units) do_neD (ev 7) (ev 6)) (tand1 (tdin (Room.units1 hr) (eix (ev 7) ei) (edget (Room.units1 hr) (ev 1) (eix (ev 6) ei)))))))⟩) (fun _ _ _ _ _ => ⟨_, (ev 7)⟩))) (elstF anil)) (sone (sexpr (eapp (ev 5) (acons (ev 6) anil)))) snil)))
  (scons (sif (tc' (op_eqD hr.units) do_eqL (ev 5) (elstF anil)) (sone (sret (efrz (ev 3)))) snil)
  (scons (sexpr (eapp (ev 3) (acons (eix (ev 5) ei) anil)))
  (sone (ssetlcF sc_law_in_order.nd 2 [("row", 6)] 6 (il (ev 2)) (fun _ _ _ _ _ => gnmP 6 sc_law_in_order.nd) (fun _ _ _ _ _ => ⟨_, (tsone (tc' (op_neD hr.units) do_neD (ev 6) (eix (ev 5) ei)))⟩) (fun _ _ _ _ _ => ⟨_, (ev 6)⟩))))))))
  (sone (sret (efrz (ev 3))))))), fun ds μ Q E0 hc hE => by subst hE; exact pure_law_in_order A ds μ Q E0 hc⟩
end K14
set_option maxHeartbeats 800000
namespace K14
open PySem L2 DL
/-! ### the two answers are one -/
theorem Rp.mono {nb nb2 : Int → List Int} (e : ∀ x y, y ∈ nb x → y ∈ nb2 x) {x y : Int} (h : Rp nb x y) : Rp nb2 x y := by
  induction h with
  | one m => exact .one (e _ _ m)
  | more _ m ih => exact .more ih (e _ _ m)
theorem rp_turn {ps : List I2} {x y : Int} : rpB (dnL ps) x y = rpB (dirL (setP ps)) y x := by
  rw [Bool.eq_iff_iff, rpB_iff, rpB_iff]
  exact ⟨Rp.turn fun a b h => mem_dirL.mpr (mem_setP.mpr (mem_dnL.mp h)), Rp.turn fun a b h => mem_dnL.mpr (mem_setP.mp (mem_dirL.mp h))⟩
theorem cof_turn (U : List Int) (ps : List I2) (t : Int) : cof U (dnL ps) t = cof U (dirL (setP ps)) t := by
  unfold cof
  refine List.filter_congr fun x _ => ?_
  rw [rp_turn, rp_turn, Bool.and_comm]
theorem cls_turn (U : List Int) (ps : List I2) (n : Nat) : clsT U (dnL ps) n = clsT U (dirL (setP ps)) n := by
  unfold clsT
  congr 1
  funext acc t
  unfold stC
  rw [cof_turn]
theorem srt_set {ts : List Int} (nd : ts.Nodup) : srt ts = setI ts := setI_uniq (fun k => mem_srt) (by
  have hnd : (srt ts).Nodup := (srt_perm ts).nodup_iff.mpr nd
  exact List.Pairwise.imp (fun ⟨a, b⟩ => by omega) (List.Pairwise.and (srt_pw ts) hnd))
noncomputable def duC (ts : List Int) (ps : List I2) : List (List Int) := clsT (srt ts) (dnL ps) ts.length
theorem duC_eq {ts : List Int} {ps : List I2} (nd : ts.Nodup) : duC ts ps = clsA (setI ts) (setP ps) := by
  unfold duC clsA
  rw [cls_turn, srt_set nd, ← srt_set nd, srt_len]
structure DuC (ts : List Int) (ps : List I2) : Prop where
  nd : (duC ts ps).flatten.Nodup
  ne : ∀ c ∈ duC ts ps, c ≠ []
  sub : ∀ x, x ∈ (duC ts ps).flatten ↔ x ∈ ts
  len : (duC ts ps).length ≤ ts.length
  cls : ∀ c ∈ duC ts ps, ∀ x ∈ c, ∀ y ∈ c, Eq2 (dnL ps) x y
theorem DuC.of {ts : List Int} {ps : List I2} (nd : ts.Nodup) : DuC ts ps := by
  have snd : (srt ts).Nodup := (srt_perm ts).nodup_iff.mpr nd
  have C := Cin.all (nb := dnL ps) snd ts.length (by rw [srt_len]; exact Nat.le_refl _)
  have tk : (srt ts).take ts.length = srt ts := by rw [← srt_len ts, List.take_length]
  refine ⟨C.nd, fun c hc e => ?_, fun x => ⟨fun h => ?_, fun h => C.each x (by rw [tk]; exact mem_srt.mpr h)⟩, C.len, fun c hc x hx y hy => ?_⟩
  · obtain ⟨s, hs, e2⟩ := C.from_ c hc
    have : s ∈ cof (srt ts) (dnL ps) s := mem_cof.mpr ⟨mem_take hs, .inl rfl⟩
    rw [← e2, e] at this
    cases this
  · obtain ⟨c, hc, hx⟩ := List.mem_flatten.mp h
    obtain ⟨s, hs, e2⟩ := C.from_ c hc
    rw [e2] at hx
    exact mem_srt.mp (mem_cof.mp hx).1
  · obtain ⟨s, hs, e2⟩ := C.from_ c hc
    rw [e2] at hx hy
    exact (mem_cof.mp hx).2.symm.trans (mem_cof.mp hy).2
theorem up_all {α : Type} (d : α) (cl : List α) : (upI cl.length).map (fun i => cl.getD i.toNat d) = cl := by
  unfold upI
  rw [List.map_map]
  refine List.ext_getElem (by simp) fun i h1 h2 => ?_
  rw [List.getElem_map, List.getElem_range]
  show cl.getD ((i : Nat) : Int).toNat d = _
  rw [List.getD_eq_getElem?_getD, Int.toNat_natCast, List.getElem?_eq_getElem h2]
  rfl
theorem due_eq {ts : List Int} {ps : List I2} (nd : ts.Nodup) (hg : ∀ p ∈ ps, p.1 ∈ ts ∧ p.2 ∈ ts) : ino (rpB (dnL ps)) (duC ts ps).length (duC ts ps) = grps (setI ts) (setP ps) := by
  have H := DuC.of (ps := ps) nd
  have hd : ∀ c ∈ duC ts ps, c.headD 0 ∈ c := fun c hc => by
    cases c with
    | nil => exact absurd rfl (H.ne _ hc)
    | cons x l => exact List.mem_cons_self
  have e1 := ino_lay (cl := duC ts ps) (ps := setP ps) (fr := rpB (dnL ps)) H.nd H.ne (fun p hp => ⟨(H.sub _).mpr (hg p (mem_setP.mp hp)).1, (H.sub _).mpr (hg p (mem_setP.mp hp)).2⟩)
    (fun p hp c hc d hd' h1 h2 => by
      rw [rpB_iff]
      have s1 : Rp (dnL ps) p.1 p.2 := .one (mem_dnL.mpr (mem_setP.mp hp))
      have a := H.cls c hc _ (hd c hc) _ h1
      have b := H.cls d hd' _ h2 _ (hd d hd')
      have s2 : Rp (dnL ps) (c.headD 0) p.2 := by
        rcases a with a | a
        · rw [← a]; exact s1
        · exact a.1.trans s1
      rcases b with b | b
      · rw [b]; exact s2
      · exact s2.trans b.1)
    (fun x y h => by
      rw [rpB_iff] at h
      refine h.mono fun a b hb => ?_
      have := mem_dnL.mp hb
      exact mem_dnL.mpr (mem_setP.mpr this)) (duC ts ps).length (upI (duC ts ps).length) (upI_nd _) (fun i hi => mem_upI.mp hi) (fun p hp n _ => n (by
      unfold qps at hp
      obtain ⟨q, hq, rfl⟩ := List.mem_map.mp hp
      have hq := (List.mem_filter.mp hq).1
      exact mem_upI.mpr ⟨_, cix_lt ((H.sub _).mpr (hg q (mem_setP.mp hq)).1), rfl⟩))
  rw [up_all] at e1
  rw [e1]
  unfold grps grpL
  rw [← duC_eq nd, srt_up]
theorem mix_eq {ts : List Int} {ps : List I2} (nd : ts.Nodup) : (srt ts).filter (fun t => rpB (dnL ps) t t) = tang (setI ts) (setP ps) := by
  unfold tang
  rw [srt_set nd]
  exact List.filter_congr fun x _ => rp_turn
end K14
set_option maxHeartbeats 800000
namespace K14
open PySem L2 DL
local macro_rules | `(tactic| walk_at "w") => `(tactic| simp only [wSeq, wAugD, wAugN, fSetI, fLenS, fInS, fSort, fSortD, fSortSetI, fSortSetP, fRem, wNext, wIf, wRet, wRetN, wDrop, wAsg, gN, wVar, wC, wOp, wUn, wNil, wCons, wCB, wTup, wLst, wLstF, wTe, tB0, wAnd, wOr, wNot, wAndV, wOrV, wNotV, wIfE, wCall, wCallG, wRaise, wFrz, fFrz, rets, fI, fI0, fAdd, fSub, fMul, fLt, fLe, fGt, fGe, fMod, fModN, fPow, fDiv, fDivG, fNeg, fEq, fNe, eqF_int, eqF_bl, eqF_str, scal_int, scal_bl, scal_str, fLen, sv, fIx, fAbs, fInt, fList, wSl, fSlL, oNo, oSo, lvr, lv, fCat, wMeL, fApp, fPop, fSetL, gSb, iLs, iTp, iR1, iR2, wFor, gTp, gCn, gNl, wPar, wBrk, wCnt, fIsi, wIsx, wLc, wYes, wip, wTr, truD, wTry, clrD, wFld, fieldsD, wSetF, wMeth, wMake, wIsX, wXf, wTryX, wRaiseL, wRaiseV, fCatM, fEqL, fNeL, fStrI, fFmt, wJoin, wJs, wChain, wLc2, wLR, wProp, fRepT, wDIn, wDNewT, fSetD, iR3, gLs, fIns, fPopAt, fClear, fTuple, fMin2, fMaxL, fAny, iEn, wRev, fRev, wDNew, wDNewF, wDsp1, wDsp1F, fAddS, fIsN, fNotN, um_same, um_um, st0, List.map_cons, List.map_nil, List.length_cons, List.length_nil, List.getElem?_cons_zero, List.getElem?_cons_succ, List.set_cons_zero, List.set_cons_succ, List.cons_append, List.nil_append, List.replicate, atI_c0, atI_c1, atI_c2, atI_c3, atI_c4, atI_c5, atI_c6, ixN_70, ixN_71, ixN_72, ixN_73, ixN_74, ixN_75, ixN_76, Nat.reduceAdd, Int.reduceToNat, Int.reducePow, ite_T, ite_F, if_dec, if_ndec, if_nb, true_and, if_true, Bool.false_eq_true, if_false])
local macro_rules | `(tactic| walk_at "v") => `(tactic| simp only [wSeq, wAugD, wAugN, fSetI, fLenS, fInS, fSort, fSortD, fSortSetI, fSortSetP, fRem, wNext, wIf, wRet, wRetN, wDrop, wAsg, gN, wVar, wC, wOp, wUn, wNil, wCons, wCB, wTup, wLst, wLstF, wTe, tB0, wAnd, wOr, wNot, wAndV, wOrV, wNotV, wIfE, wCall, wCallG, wRaise, wFrz, fFrz, rets, fI, fI0, fAdd, fSub, fMul, fLt, fLe, fGt, fGe, fMod, fModN, fPow, fDiv, fDivG, fNeg, fEq, fNe, eqF_int, eqF_bl, eqF_str, scal_int, scal_bl, scal_str, fLen, sv, fIx, fAbs, fInt, fList, wSl, fSlL, oNo, oSo, lvr, lv, fCat, wMeL, fApp, fPop, fSetL, gSb, gTp, gCn, gNl, wPar, wBrk, wCnt, fIsi, wIsx, wYes, wip, wTr, truD, wTry, clrD, wFld, fieldsD, wSetF, wMeth, wMake, wIsX, wXf, wTryX, wRaiseL, wRaiseV, fCatM, fEqL, fNeL, fStrI, fFmt, wJoin, wJs, wChain, wLR, wProp, fRepT, wDIn, wDNewT, fSetD, gLs, fIns, fPopAt, fClear, fTuple, fMin2, fMaxL, fAny, wRev, fRev, wDNew, wDNewF, wDsp1, wDsp1F, fAddS, fIsN, fNotN, um_same, um_um, st0, List.map_cons, List.map_nil, List.length_cons, List.length_nil, List.getElem?_cons_zero, List.getElem?_cons_succ, List.set_cons_zero, List.set_cons_succ, List.cons_append, List.nil_append, List.replicate, atI_c0, atI_c1, atI_c2, atI_c3, atI_c4, atI_c5, atI_c6, ixN_70, ixN_71, ixN_72, ixN_73, ixN_74, ixN_75, ixN_76, Nat.reduceAdd, Int.reduceToNat, Int.reducePow, ite_T, ite_F, if_dec, if_ndec, if_nb, true_and, if_true, Bool.false_eq_true, if_false])
local macro_rules | `(tactic| walk_at "u") => `(tactic| simp only [wSeq, wAugD, wAugN, fSetI, fLenS, fInS, fSort, fSortD, fSortSetI, fSortSetP, fRem, wNext, wIf, wRet, wRetN, wDrop, wAsg, gN, wVar, wC, wOp, wUn, wNil, wCons, wCB, wTup, wLst, wLstF, wTe, tB0, wAnd, wOr, wNot, wAndV, wOrV, wNotV, wIfE, wCall, wCallG, wRaise, rets, fI, fI0, fAdd, fSub, fMul, fLt, fLe, fGt, fGe, fMod, fModN, fPow, fDiv, fDivG, fNeg, fEq, fNe, eqF_int, eqF_bl, eqF_str, scal_int, scal_bl, scal_str, fLen, sv, fIx, fAbs, fInt, fList, wSl, fSlL, oNo, oSo, lvr, lv, fCat, wMeL, fApp, fPop, fSetL, gSb, gTp, gCn, gNl, wPar, wBrk, wCnt, fIsi, wIsx, wYes, wip, wTr, truD, wTry, clrD, wFld, fieldsD, wSetF, wMeth, wMake, wIsX, wXf, wTryX, wRaiseL, wRaiseV, fCatM, fEqL, fNeL, fStrI, fFmt, wJoin, wJs, wChain, wLR, wProp, fRepT, wDIn, wDNewT, fSetD, gLs, fIns, fPopAt, fClear, fTuple, fMin2, fMaxL, fAny, wRev, fRev, wDNew, wDNewF, wDsp1, wDsp1F, fAddS, fIsN, fNotN, um_same, um_um, st0, List.map_cons, List.map_nil, List.length_cons, List.length_nil, List.getElem?_cons_zero, List.getElem?_cons_succ, List.set_cons_zero, List.set_cons_succ, List.cons_append, List.nil_append, List.replicate, atI_c0, atI_c1, atI_c2, atI_c3, atI_c4, atI_c5, atI_c6, ixN_70, ixN_71, ixN_72, ixN_73, ixN_74, ixN_75, ixN_76, Nat.reduceAdd, Int.reduceToNat, Int.reducePow, ite_T, ite_F, if_dec, if_ndec, if_nb, true_and, if_true, Bool.false_eq_true, if_false])
theorem prs_tup (ps : List I2) : ps.map pD = (ps.map fun p => [p.1, p.2]).map fun s => D.tup (s.map D.int) := by
  rw [List.map_map]
  rfl
theorem toPs_prs (ps : List I2) : toPs (ps.map pD) = some ((ps.map fun p => [p.1, p.2]).map pI) := by
  rw [prs_tup, toPs_tups]
theorem toP_prs (ps : List I2) : toP (.lst (ps.map pD)) = some (.list ((ps.map fun p => [p.1, p.2]).map pI)) := by
  show (toPs (ps.map pD)).map PyData.list = _
  rw [toPs_prs]
  rfl
theorem toP_row' (c : List Int) : toP (.lst (c.map D.int)) = some (.list (c.map .int)) := toP_row c
def c_law_web (A : Ad) : Ct := fun ds μ Q _ => match ds with
  | [.lst T, .lst Z] => ∃ (ts : List Int) (ps : List I2), T = ts.map D.int ∧ Z = ps.map pD ∧ ts.Nodup ∧ ts.length ≤ 40 ∧ ps.length ≤ 80 ∧ Gd ts ps ∧ ∀ a, μ a = none → Q (.mut a) (um μ a (.ins (A.g "Web") (webF (setI ts) (setP ps))))
  | _ => False
abbrev s_law_web : Stmt := top 32
theorem sc_law_web : FnScope ["tags", "arrows", "one", "two", "web"] ["tags", "arrows"] (defScope s_law_web) := ⟨rfl, rfl, rfl, by decide +kernel, rfl, by decide +kernel, by decide +kernel⟩
def w_law_web (A : Ad) (E : EX) : WS := (wSeq (wAsg (wCB fList (wCons (wVar 0) wNil)) (gN 2))
  (wSeq (wAsg (wCB fList (wCons (wVar 1) wNil)) (gN 3))
  (wSeq (wAsg (wMake (A.g "Web") (c_Web___init__ A) E (wCons (wVar 2) (wCons (wVar 3) wNil))) (gN 4))
  (wSeq (wIf (wOr (wTe (wOp fNeL (wVar 2) (wVar 0))) (wTe (wOp fNeL (wVar 3) (wVar 1)))) (wRet (wC .non)) wNext)
  (wSeq (wDrop (wMeL fClear (wVar 2) wNil))
  (wSeq (wDrop (wMeL fClear (wVar 3) wNil))
  (wRet (wVar 4))))))))
theorem pure_law_web (A : Ad) (ds μ Q E0) (h : c_law_web A ds μ Q E0) : w_law_web A (fun C fs _ μ => dwx E0 C fs μ) (rets Q) (st0 5 ds) μ := by
  unfold c_law_web at h
  split at h
  · rename_i T Z
    obtain ⟨ts, ps, rfl, rfl, nd, hl, hz, hg, h⟩ := h
    unfold w_law_web
    walk_at "u"
    intro p hp q hq r hr
    have hqp : q ≠ p := fun e => by rw [e, um_same] at hq; cases hq
    have hrq : r ≠ q := fun e => by rw [e, um_same] at hr; cases hr
    have hrp : r ≠ p := fun e => by rw [e, um_ne (Ne.symm hqp), um_same] at hr; cases hr
    rw [um_ne hqp] at hq
    rw [um_ne hrq, um_ne hrp] at hr
    have gp : ∀ X Y Z, um (um (um μ p X) q Y) r Z p = some X := fun X Y Z => by rw [um_ne (Ne.symm hrp), um_ne (Ne.symm hqp), um_same]
    have gq : ∀ X Y Z, um (um (um μ p X) q Y) r Z q = some Y := fun X Y Z => by rw [um_ne (Ne.symm hrq), um_same]
    have l1 : ∀ Z d l, d = .mut p ∧ l = ts.map D.int → lv (um (um (um μ p (.lst (ts.map D.int))) q (.lst (ps.map pD))) r Z) d = some l := fun Z d l e => by
      rw [e.1, e.2]
      unfold lv
      dsimp only
      rw [gp]
    have l2 : ∀ Z d l, d = .mut q ∧ l = ps.map pD → lv (um (um (um μ p (.lst (ts.map D.int))) q (.lst (ps.map pD))) r Z) d = some l := fun Z d l e => by
      rw [e.1, e.2]
      unfold lv
      dsimp only
      rw [gq]
    refine ⟨ts, ps, l1 _ _ _ ⟨rfl, rfl⟩, l2 _ _ _ ⟨rfl, rfl⟩, by omega, by omega, hg, Nat.le_trans (setI_len ts) hl, um_same, rfl, ?_⟩
    rw [um_um, gp]
    dsimp only
    refine ⟨_, _, _, rfl, toPs_ints ts, toP_row' ts, shaped_ints ts, shaped_ints ts, ?_⟩
    rw [if_pos (by rw [PyData.eqv, eqv_ints]; simp)]
    rw [gq]
    dsimp only
    refine ⟨_, _, _, rfl, toPs_prs ps, toP_prs ps, shaped_tups _, shaped_tups _, ?_⟩
    rw [if_pos (by rw [PyData.eqv, eqv_tups]; simp)]
    refine ⟨⟨p, _, rfl, gp _ _ _⟩, ?_⟩
    have gq2 : ∀ X Y Z W, um (um (um (um μ p X) q Y) r Z) p W q = some Y := fun X Y Z W => by rw [um_ne hqp, gq]
    refine ⟨⟨q, _, rfl, gq2 _ _ _ _⟩, ?_⟩
    rw [gq2]
    dsimp only
    rw [um_comm hrp, um_comm hqp, um_um, um_comm hrq, um_um]
    refine ⟨um μ r (.ins (A.g "Web") (webF (setI ts) (setP ps))), ?_, h r hr⟩
    exact le.um2 ((le.um hp).trans (le.um (by rw [um_ne hqp]; exact hq)))
  · exact h.elim
theorem len_law_web (A : Ad) : ∀ ds μ Q E, c_law_web A ds μ Q E → ds.length = 2 := by
  intro ds μ Q E h
  unfold c_law_web at h
  first | (split at h) | (split at h)
  all_goals first | rfl | exact h.elim
theorem ok_law_web {P : Program} {w : World} {K : PySem.W.Frag} {mg : Str → Option Value} {base : Heap} {A : Ad} (D : Dfn K mg "_law_web" "_law_web" s_law_web ["tags", "arrows"]) (T : Tx P w base K mg A)  (M_Web : DfK P w K mg base "Web" (A.g "Web") 5 ["self", "tags", "arrows"] (c_Web___init__ A)) : DfOk P w K mg base "_law_web" 7 ["tags", "arrows"] (c_law_web A) := by
  obtain ⟨f, fd, F, hm, hb⟩ := D
  refine ⟨f, fd, okD F sc_law_web (by decide) (len_law_web A) ?_, hm, F.kp, hb⟩
  intro X W E cdv B outer s H Ex hX tk hp hr
  subst hX
  exact ⟨_, w_law_web A E, (scons (sset (i := 2) (ecty call_list_of dc_list T.b_list (acons (ev 0) anil)) sc_law_web.nd)
  (scons (sset (i := 3) (ecty call_list_of dc_list T.b_list (acons (ev 1) anil)) sc_law_web.nd)
  (scons (sset (i := 4) (emake tk M_Web (hr.mono (by decide)) (acons (ev 2) (acons (ev 3) anil))) sc_law_web.nd)
  (scons (sif (tbo (tor (tc' (op_neD hr.units) do_neL (ev 2) (ev 0)) (tor1 (tc' (op_neD hr.units) do_neL (ev 3) (ev 1))))) (sone (sret en)) snil)
  (scons (sexpr (emeL0 (m := "") PySem.F.slot_list_clear PySem.F.type_list_clear mt_clear dm_clear (ev 2)))
  (scons (sexpr (emeL0 (m := "") PySem.F.slot_list_clear PySem.F.type_list_clear mt_clear dm_clear (ev 3)))
  (sone (sret (ev 4))))))))), fun ds μ Q E0 hc hE => by subst hE; exact pure_law_web A ds μ Q E0 hc⟩
end K14
set_option maxHeartbeats 800000
namespace K14
open PySem L2 DL
local macro_rules | `(tactic| walk_at "w") => `(tactic| simp only [wSeq, wAugD, wAugN, fSetI, fLenS, fInS, fSort, fSortD, fSortSetI, fSortSetP, fRem, wNext, wIf, wRet, wRetN, wDrop, wAsg, gN, wVar, wC, wOp, wUn, wNil, wCons, wCB, wTup, wLst, wLstF, wTe, tB0, wAnd, wOr, wNot, wAndV, wOrV, wNotV, wIfE, wCall, wCallG, wRaise, wFrz, fFrz, rets, fI, fI0, fAdd, fSub, fMul, fLt, fLe, fGt, fGe, fMod, fModN, fPow, fDiv, fDivG, fNeg, fEq, fNe, eqF_int, eqF_bl, eqF_str, scal_int, scal_bl, scal_str, fLen, sv, fIx, fAbs, fInt, fList, wSl, fSlL, oNo, oSo, lvr, lv, fCat, wMeL, fApp, fPop, fSetL, gSb, iLs, iTp, iR1, iR2, wFor, gTp, gCn, gNl, wPar, wBrk, wCnt, fIsi, wIsx, wLc, wYes, wip, wTr, truD, wTry, clrD, wFld, fieldsD, wSetF, wMeth, wMake, wIsX, wXf, wTryX, wRaiseL, wRaiseV, fCatM, fEqL, fNeL, fStrI, fFmt, wJoin, wJs, wChain, wLc2, wLR, wProp, fRepT, wDIn, wDNewT, fSetD, iR3, gLs, fIns, fPopAt, fClear, fTuple, fMin2, fMaxL, fAny, iEn, wRev, fRev, wDNew, wDNewF, wDsp1, wDsp1F, fAddS, fIsN, fNotN, um_same, um_um, st0, List.map_cons, List.map_nil, List.length_cons, List.length_nil, List.getElem?_cons_zero, List.getElem?_cons_succ, List.set_cons_zero, List.set_cons_succ, List.cons_append, List.nil_append, List.replicate, atI_c0, atI_c1, atI_c2, atI_c3, atI_c4, atI_c5, atI_c6, ixN_70, ixN_71, ixN_72, ixN_73, ixN_74, ixN_75, ixN_76, Nat.reduceAdd, Int.reduceToNat, Int.reducePow, ite_T, ite_F, if_dec, if_ndec, if_nb, true_and, if_true, Bool.false_eq_true, if_false])
local macro_rules | `(tactic| walk_at "v") => `(tactic| simp only [wSeq, wAugD, wAugN, fSetI, fLenS, fInS, fSort, fSortD, fSortSetI, fSortSetP, fRem, wNext, wIf, wRet, wRetN, wDrop, wAsg, gN, wVar, wC, wOp, wUn, wNil, wCons, wCB, wTup, wLst, wLstF, wTe, tB0, wAnd, wOr, wNot, wAndV, wOrV, wNotV, wIfE, wCall, wCallG, wRaise, wFrz, fFrz, rets, fI, fI0, fAdd, fSub, fMul, fLt, fLe, fGt, fGe, fMod, fModN, fPow, fDiv, fDivG, fNeg, fEq, fNe, eqF_int, eqF_bl, eqF_str, scal_int, scal_bl, scal_str, fLen, sv, fIx, fAbs, fInt, fList, wSl, fSlL, oNo, oSo, lvr, lv, fCat, wMeL, fApp, fPop, fSetL, gSb, gTp, gCn, gNl, wPar, wBrk, wCnt, fIsi, wIsx, wYes, wip, wTr, truD, wTry, clrD, wFld, fieldsD, wSetF, wMeth, wMake, wIsX, wXf, wTryX, wRaiseL, wRaiseV, fCatM, fEqL, fNeL, fStrI, fFmt, wJoin, wJs, wChain, wLR, wProp, fRepT, wDIn, wDNewT, fSetD, gLs, fIns, fPopAt, fClear, fTuple, fMin2, fMaxL, fAny, wRev, fRev, wDNew, wDNewF, wDsp1, wDsp1F, fAddS, fIsN, fNotN, um_same, um_um, st0, List.map_cons, List.map_nil, List.length_cons, List.length_nil, List.getElem?_cons_zero, List.getElem?_cons_succ, List.set_cons_zero, List.set_cons_succ, List.cons_append, List.nil_append, List.replicate, atI_c0, atI_c1, atI_c2, atI_c3, atI_c4, atI_c5, atI_c6, ixN_70, ixN_71, ixN_72, ixN_73, ixN_74, ixN_75, ixN_76, Nat.reduceAdd, Int.reduceToNat, Int.reducePow, ite_T, ite_F, if_dec, if_ndec, if_nb, true_and, if_true, Bool.false_eq_true, if_false])
local macro_rules | `(tactic| walk_at "u") => `(tactic| simp only [wSeq, wAugD, wAugN, fSetI, fLenS, fInS, fSort, fSortD, fSortSetI, fSortSetP, fRem, wNext, wIf, wRet, wRetN, wDrop, wAsg, gN, wVar, wC, wOp, wUn, wNil, wCons, wCB, wTup, wLst, wLstF, wTe, tB0, wAnd, wOr, wNot, wAndV, wOrV, wNotV, wIfE, wCall, wCallG, wRaise, rets, fI, fI0, fAdd, fSub, fMul, fLt, fLe, fGt, fGe, fMod, fModN, fPow, fDiv, fDivG, fNeg, fEq, fNe, eqF_int, eqF_bl, eqF_str, scal_int, scal_bl, scal_str, fLen, sv, fIx, fAbs, fInt, fList, wSl, fSlL, oNo, oSo, lvr, lv, fCat, wMeL, fApp, fPop, fSetL, gSb, gTp, gCn, gNl, wPar, wBrk, wCnt, fIsi, wIsx, wYes, wip, wTr, truD, wTry, clrD, wFld, fieldsD, wSetF, wMeth, wMake, wIsX, wXf, wTryX, wRaiseL, wRaiseV, fCatM, fEqL, fNeL, fStrI, fFmt, wJoin, wJs, wChain, wLR, wProp, fRepT, wDIn, wDNewT, fSetD, gLs, fIns, fPopAt, fClear, fTuple, fMin2, fMaxL, fAny, wRev, fRev, wDNew, wDNewF, wDsp1, wDsp1F, fAddS, fIsN, fNotN, um_same, um_um, st0, List.map_cons, List.map_nil, List.length_cons, List.length_nil, List.getElem?_cons_zero, List.getElem?_cons_succ, List.set_cons_zero, List.set_cons_succ, List.cons_append, List.nil_append, List.replicate, atI_c0, atI_c1, atI_c2, atI_c3, atI_c4, atI_c5, atI_c6, ixN_70, ixN_71, ixN_72, ixN_73, ixN_74, ixN_75, ixN_76, Nat.reduceAdd, Int.reduceToNat, Int.reducePow, ite_T, ite_F, if_dec, if_ndec, if_nb, true_and, if_true, Bool.false_eq_true, if_false])
theorem pds_ints : ∀ l : List Int, pds (l.map D.int) = true
  | [] => rfl
  | x :: l => by
    show (pd (.int x) && pds (l.map D.int)) = true
    rw [pds_ints l]
    rfl
theorem szs_ints : ∀ l : List Int, szs (l.map D.int) = l.length
  | [] => rfl
  | x :: l => by
    show szD (.int x) + szs (l.map D.int) = l.length + 1
    rw [szs_ints l, Nat.add_comm]
    rfl
theorem pds_rows : ∀ cl : List (List Int), pds (rowsD cl) = true
  | [] => rfl
  | c :: cl => by
    show (pds (c.map D.int) && pds (rowsD cl)) = true
    rw [pds_rows cl, pds_ints]
    rfl
theorem szs_rows {B : Nat} : ∀ cl : List (List Int), (∀ c ∈ cl, c.length ≤ B) → szs (rowsD cl) ≤ cl.length * (B + 1)
  | [], _ => Nat.zero_le _
  | c :: cl, h => by
    have ih := szs_rows cl fun d hd => h d (List.mem_cons_of_mem _ hd)
    have h1 := h c List.mem_cons_self
    show (1 + szs (c.map D.int)) + szs (rowsD cl) ≤ (cl.length + 1) * (B + 1)
    rw [szs_ints, Nat.add_mul, Nat.one_mul]
    omega
theorem RD.row {M : Mu} {p : Addr} {l : List Int} (h : M p = some (.lst (l.map D.int))) : RD M (.mut p) (.lst (l.map D.int)) := .cell h rfl fun i d x h1 h2 => by
  obtain rfl : d = x := Option.some.inj (h1.symm.trans h2)
  obtain ⟨y, _, rfl⟩ := map_at h1
  exact .pure rfl
theorem same_row {A : Ad} {M : Mu} {p : Addr} {l : List Int} {Q E} (h : M p = some (.lst (l.map D.int))) (hl : l.length ≤ 1000) (q : Q (.bl true) M) : c_law_same A [.mut p, .lst (l.map D.int)] M Q E :=
  ⟨_, .row h, pds_ints l, by show 1 + szs (l.map D.int) < 100000; rw [szs_ints]; omega, fun b hb => by
    obtain rfl : b = true := hb.mpr rfl
    exact q⟩
theorem same_rows {A : Ad} {M : Mu} {p : Addr} {cs : List Addr} {rows : List (List Int)} {Q E} (h : M p = some (.lst (cs.map D.mut))) (hl : cs.length = rows.length) (hc : ∀ (i : Nat) c l, cs[i]? = some c → rows[i]? = some l → M c = some (.lst (l.map D.int))) (h40 : rows.length ≤ 40) (hr : ∀ c ∈ rows, c.length ≤ 40) (q : Q (.bl true) M) : c_law_same A [.mut p, .lst (rowsD rows)] M Q E :=
  ⟨.lst (rowsD rows), .cell h (by unfold rowsD; rw [List.length_map, List.length_map, hl]) fun i d x h1 h2 => by
    obtain ⟨c, hc1, rfl⟩ := map_at h1
    obtain ⟨l, hl1, rfl⟩ := rows_get h2
    exact .row (hc i c l hc1 hl1), pds_rows rows, by
      show 1 + szs (rowsD rows) < 100000
      have := szs_rows rows hr
      have : rows.length * (40 + 1) ≤ 40 * 41 := Nat.mul_le_mul_right _ h40
      omega, fun b hb => by
    obtain rfl : b = true := hb.mpr rfl
    exact q⟩
theorem ino_len (fr : Int → Int → Bool) : ∀ (n : Nat) (left : List (List Int)), (ino fr n left).length ≤ n
  | 0, _ => Nat.le_refl _
  | n + 1, left => by
    rw [ino_succ]
    split
    · exact Nat.zero_le _
    · exact Nat.succ_le_succ (ino_len fr n _)
theorem ino_sub (fr : Int → Int → Bool) : ∀ (n : Nat) (left : List (List Int)), ∀ c ∈ ino fr n left, c ∈ left
  | 0, _, c, h => nomatch h
  | n + 1, left, c, h => by
    rw [ino_succ] at h
    split at h
    · cases h
    · rename_i x X e
      rcases List.mem_cons.mp h with rfl | h
      · exact (List.mem_filter.mp (e ▸ List.mem_cons_self)).1
      · exact (List.mem_filter.mp (ino_sub fr n _ c h)).1
theorem grps_bd {ts : List Int} {ps : List I2} (nd : ts.Nodup) (hg : ∀ p ∈ ps, p.1 ∈ ts ∧ p.2 ∈ ts) : (grps (setI ts) (setP ps)).length ≤ ts.length ∧ ∀ c ∈ grps (setI ts) (setP ps), c.length ≤ ts.length := by
  have H := DuC.of (ps := ps) nd
  rw [← due_eq nd hg]
  refine ⟨Nat.le_trans (ino_len _ _ _) H.len, fun c hc => ?_⟩
  have hc := ino_sub _ _ _ c hc
  exact nodup_le c ts ((List.pairwise_flatten.mp H.nd).1 c hc) fun x hx => (H.sub x).mp (List.mem_flatten.mpr ⟨c, hc, hx⟩)
def c_law_right (A : Ad) : Ct := fun ds μ Q _ => match ds with
  | [.mut q, .lst T, .lst Z] => ∃ (ts : List Int) (ps : List I2), T = ts.map D.int ∧ Z = ps.map pD ∧ ts.Nodup ∧ ts.length ≤ 40 ∧ ps.length ≤ 80 ∧ Gd ts ps ∧ μ q = some (.ins (A.g "Web") (webF (setI ts) (setP ps))) ∧ Q (.bl true) μ
  | _ => False
abbrev s_law_right : Stmt := top 33
theorem sc_law_right : FnScope ["web", "tags", "arrows", "far", "due", "mixed", "tag", "told", "row", "more"] ["web", "tags", "arrows"] (defScope s_law_right) := ⟨rfl, rfl, rfl, by decide +kernel, rfl, by decide +kernel, by decide +kernel⟩
def w_law_right_6 (A : Ad) (E : EX) : WS := (wSeq (wDrop (wMeL fApp (wVar 7) (wCons (wLst wNil) wNil)))
  (wSeq (wAsg (wCall (c_tangled A) E (wCons (wVar 0) wNil)) (gN 9))
  (wSeq (wDrop (wMeL fApp (wVar 9) (wCons (wC (.int (7))) wNil)))
  (wRet (wAndV (wCall (c_law_same A) E (wCons (wCall (c_tangled A) E (wCons (wVar 0) wNil)) (wCons (wVar 5) wNil))) (wCall (c_law_same A) E (wCons (wCall (c_groups A) E (wCons (wVar 0) wNil)) (wCons (wVar 4) wNil))))))))
def w_law_right_b1 (A : Ad) (E : EX) : WS := (wDrop (wMeL fApp (wVar 8) (wCons (wC (.int (7))) wNil)))
def w_law_right_5 (A : Ad) (E : EX) : WS := (wSeq (wFor (iLs (wVar 7)) (gN 8) (w_law_right_b1 A E))
  (w_law_right_6 A E))
def w_law_right_4 (A : Ad) (E : EX) : WS := (wSeq (wIf (wOr (wNot (wTe (wCall (c_law_same A) E (wCons (wVar 7) (wCons (wVar 4) wNil))))) (wNot (wTe (wCall (c_law_same A) E (wCons (wCall (c_tangled A) E (wCons (wVar 0) wNil)) (wCons (wVar 5) wNil)))))) (wRet (wC (.bl false))) wNext)
  (w_law_right_5 A E))
def w_law_right_3 (A : Ad) (E : EX) : WS := (wSeq (wAsg (wCall (c_groups A) E (wCons (wVar 0) wNil)) (gN 7))
  (w_law_right_4 A E))
def w_law_right_2 (A : Ad) (E : EX) : WS := (wSeq (wAsg (wFrz (wLc (iLs (wFrz (wCB fSort (wCons (wVar 1) wNil)))) 6 [6] (wTe (wDIn false (wVar 6) (wOp fDGet (wVar 3) (wVar 6)))) (wVar 6))) (gN 5))
  (w_law_right_3 A E))
def w_law_right (A : Ad) (E : EX) : WS := (wSeq (wAsg (wCall (c_law_onward A) E (wCons (wVar 1) (wCons (wVar 2) wNil))) (gN 3))
  (wSeq (wAsg (wCall (c_law_in_order A) E (wCons (wCall (c_law_classes A) E (wCons (wVar 1) (wCons (wVar 3) wNil))) (wCons (wVar 3) wNil))) (gN 4))
  (w_law_right_2 A E)))
theorem pure_law_right (A : Ad) (ds μ Q E0) (h : c_law_right A ds μ Q E0) : w_law_right A (fun C fs _ μ => dwx E0 C fs μ) (rets Q) (st0 10 ds) μ := by
  unfold c_law_right at h
  split at h
  · rename_i q T Z
    obtain ⟨ts, ps, rfl, rfl, nd, hl, hz, hg, hq, h⟩ := h
    unfold w_law_right
    walk_at "u"
    have hg2 : ∀ p ∈ ps, p.1 ∈ ts ∧ p.2 ∈ ts := fun p hp => ⟨(hg p hp).1, (hg p hp).2.1⟩
    have H := DuC.of (ps := ps) nd
    have hd : ∀ c ∈ duC ts ps, c.headD 0 ∈ c := fun c hc => by
      cases c with
      | nil => exact absurd rfl (H.ne _ hc)
      | cons x l => exact List.mem_cons_self
    refine ⟨ts, ps, rfl, rfl, nd, hl, hz, hg2, fun F hF => ?_⟩
    refine ⟨ts, dnL ps, F, rfl, rfl, nd, hl, hF, ?_⟩
    refine ⟨ts, dnL ps, F, duC ts ps, rfl, rfl, Nat.le_trans H.len hl, fun c hc => ⟨(H.sub _).mp (List.mem_flatten.mpr ⟨c, hc, hd c hc⟩), H.ne c hc⟩, hF, ?_⟩
    rw [due_eq nd hg2]
    unfold w_law_right_2
    dsimp only
    unfold wSeq wAsg
    refine lc_frz (srt ts) D.int (fun t => rpB (dnL ps) t t) D.int ⟨.fix ((srt ts).map D.int), rfl, trivial, fun R hR => ?_⟩ (by rw [srt_len]; omega) (fun x hx μ1 R hle hR => ?_) (fun x hx _ μ1 R hle hR => hR) ?_
    · simp only [iLs, wUn, wFrz, wCB, wCons, wNil, wVar, List.getElem?_cons_zero, List.getElem?_cons_succ]
      refine ⟨_, ts, rfl, rfl, fun r hr => ?_⟩
      unfold fFrz
      dsimp only
      rw [um_same]
      dsimp only
      rw [rm_um hr]
      exact hR
    · have hxt := mem_srt.mp hx
      simp only [wip, wTe, wOp, wVar, wDIn, List.getElem?_cons_zero, List.getElem?_cons_succ, List.set_cons_zero, List.set_cons_succ, tB0]
      refine ⟨_, far_get hxt, ?_⟩
      have g1 : ∀ (M : Mu) (fs : List Int) (x : Int), dget M (metD fs) (.int x) = some (if x ∈ fs then some (.int 1) else none) := fun M fs x => getf_get
      refine ⟨_, g1 _ _ _, ?_⟩
      have e : decide (x ∈ F x) = rpB (dnL ps) x x := by
        rw [Bool.eq_iff_iff, decide_eq_true_eq, rpB_iff]
        exact hF x hxt x
      rw [ite_some, e]
      exact hR
    rw [mix_eq nd]
    have bd := grps_bd nd hg2
    have t40 : (tang (setI ts) (setP ps)).length ≤ 1000 := by
      have := List.length_filter_le (fun t => rpB (dirL (setP ps)) t t) (setI ts)
      have := setI_len ts
      unfold tang
      omega
    have hT : ∀ (M : Mu) Q' E', le μ M → (∀ p, M p = none → Q' (.mut p) (um M p (.lst ((tang (setI ts) (setP ps)).map D.int)))) → c_tangled A [.mut q] M Q' E' := fun M Q' E' hle hQ => ⟨setI ts, setP ps, hle _ _ hq, setI_pw ts, Nat.le_trans (setI_len ts) hl, Nat.le_trans (setP_len ps) (by omega), fun p hp => ⟨mem_setI.mpr (hg2 p (mem_setP.mp hp)).1, mem_setI.mpr (hg2 p (mem_setP.mp hp)).2⟩, hQ⟩
    have hG : ∀ (M : Mu) Q' E', le μ M → (∀ (p : Addr) (cs : List Addr), (p :: cs).Nodup → (∀ a ∈ p :: cs, M a = none) → cs.length = (grps (setI ts) (setP ps)).length → Q' (.mut p) (um (umz M cs ((grps (setI ts) (setP ps)).map fun c => c.map D.int)) p (.lst (cs.map D.mut)))) → c_groups A [.mut q] M Q' E' := fun M Q' E' hle hQ => ⟨setI ts, setP ps, hle _ _ hq, setI_pw ts, Nat.le_trans (setI_len ts) hl, Nat.le_trans (setP_len ps) (by omega), fun p hp => ⟨mem_setI.mpr (hg2 p (mem_setP.mp hp)).1, mem_setI.mpr (hg2 p (mem_setP.mp hp)).2⟩, hQ⟩
    generalize tang (setI ts) (setP ps) = mx at *
    generalize grps (setI ts) (setP ps) = rows at *
    have rowsOk : ∀ (M : Mu) (p : Addr) (cs : List Addr), (p :: cs).Nodup → cs.length = rows.length → ∀ (i : Nat) c l, cs[i]? = some c → rows[i]? = some l → (um (umz M cs (rows.map fun c => c.map D.int)) p (.lst (cs.map D.mut))) c = some (.lst (l.map D.int)) := fun M p cs hnd hl2 i c l h1 h2 => by
      have hnd := List.nodup_cons.mp hnd
      have cp : c ≠ p := fun e => hnd.1 (by rw [← e]; exact List.mem_of_getElem? h1)
      rw [um_ne cp]
      exact umz_get hnd.2 h1 (by rw [List.getElem?_map, h2]; rfl)
    simp only [gN, List.set_cons_zero, List.set_cons_succ]
    unfold w_law_right_3
    walk_at "u"
    refine hG _ _ _ le.refl fun p cs hnd hfr hcl => ?_
    have hnd2 := List.nodup_cons.mp hnd
    have le1 : ∀ ls X, le μ (um (umz μ cs ls) p X) := fun ls X => (le_umz (fun a ha => hfr a (List.mem_cons_of_mem _ ha)) hnd2.2).trans (le.um (by rw [umz_not hnd2.1]; exact hfr p List.mem_cons_self))
    unfold w_law_right_4
    walk_at "u"
    refine same_rows um_same hcl (rowsOk _ _ _ hnd hcl) (by omega) (fun c hc => by have := bd.2 c hc; omega) ?_
    dsimp only
    rw [if_pos rfl]
    refine hT _ _ _ (le1 _ _) fun t1 ht1 => same_row um_same t40 ?_
    dsimp only
    rw [if_pos rfl]
    have tp : t1 ≠ p := fun e => by rw [e, um_same] at ht1; cases ht1
    rw [um_ne tp] at ht1
    have tcs : t1 ∉ cs := fun z => by
      obtain ⟨k, hk, e⟩ := List.getElem_of_mem z
      have := umz_get (μ := μ) (ls := rows.map fun c => c.map D.int) hnd2.2 (List.getElem?_eq_getElem hk) (List.getElem?_eq_getElem (by rw [List.length_map]; omega))
      rw [e, ht1] at this
      cases this
    rw [umz_not tcs] at ht1
    have le2 : ∀ ls X Y, le μ (um (um (umz μ cs ls) p X) t1 Y) := fun ls X Y => (le1 ls X).trans (le.um (by rw [um_ne tp, umz_not tcs]; exact ht1))
    unfold w_law_right_5 wSeq
    refine for_lv2 (d := .mut p) (l := cs.map D.mut) (by unfold lv; dsimp only; rw [um_ne (Ne.symm tp), um_same]) rfl (fun i ρ μ' => ∃ (ls : List (List D)) (r8 : Option D), ls.length = cs.length ∧ (∀ l ∈ ls, l.length ≤ 40 + i) ∧ μ' = um (um (umz μ cs ls) p (.lst (cs.map D.mut))) t1 (.lst (mx.map D.int)) ∧ ρ = [some (.mut q), some (.lst (ts.map D.int)), some (.lst (ps.map pD)), some (farD ts F), some (.lst (rowsD rows)), some (.lst (mx.map D.int)), none, some (.mut p), r8, none]) ⟨_, _, by rw [List.length_map, hcl], fun l hl' => ?_, rfl, rfl⟩ (fun i ρ μ' ⟨ls, r8, _, _, e, _⟩ => by rw [e]; unfold lv; dsimp only; rw [um_ne (Ne.symm tp), um_same]) ?_ ?_
    · obtain ⟨c, hc, rfl⟩ := List.mem_map.mp hl'
      rw [List.length_map]
      have := bd.2 c hc
      omega
    · rintro i e ρ μ' he ⟨ls, r8, hls, hlb, rfl, rfl⟩
      obtain ⟨c, hc, rfl⟩ := map_at he
      have hi := (List.getElem?_eq_some_iff.mp hc).1
      have cp : c ≠ p := fun e => hnd2.1 (by rw [← e]; exact List.mem_of_getElem? hc)
      have ct : c ≠ t1 := fun e => tcs (by rw [← e]; exact List.mem_of_getElem? hc)
      obtain ⟨l, hl3⟩ : ∃ l, ls[i]? = some l := ⟨_, List.getElem?_eq_getElem (by omega)⟩
      have gc : ∀ X Y, um (um (umz μ cs ls) p X) t1 Y c = some (.lst l) := fun X Y => by
        rw [um_ne ct, um_ne cp]
        exact umz_get hnd2.2 hc hl3
      unfold w_law_right_b1
      walk_at "u"
      refine ⟨⟨c, _, rfl, gc _ _⟩, ?_⟩
      rw [gc]
      dsimp only
      have b1 := hlb l (List.mem_of_getElem? hl3)
      refine ⟨by omega, wk.of ⟨ls.set i (l ++ [.int 7]), _, by rw [List.length_set, hls], fun m hm => ?_, ?_, rfl⟩⟩
      · rcases List.mem_or_eq_of_mem_set hm with z | z
        · have := hlb m z; omega
        · rw [z, List.length_append, List.length_singleton]; omega
      · rw [um_comm (Ne.symm ct), um_comm (Ne.symm cp), umz_set hnd2.2 hls.symm hc]
    · rintro ρ μ' ⟨ls, r8, hls, hlb, rfl, rfl⟩
      dsimp only
      unfold w_law_right_6
      walk_at "u"
      have gp : ∀ X Y, um (um (umz μ cs ls) p X) t1 Y p = some X := fun X Y => by rw [um_ne (Ne.symm tp), um_same]
      refine ⟨⟨p, _, rfl, gp _ _⟩, by decide, fun c hc => ?_⟩
      have cp : c ≠ p := fun e => by rw [e, gp] at hc; cases hc
      rw [um_ne (Ne.symm cp), gp]
      dsimp only
      refine ⟨by rw [List.length_map]; omega, ?_⟩
      have le3 : le μ (um (um (um (um (umz μ cs ls) p (.lst (cs.map D.mut))) t1 (.lst (mx.map D.int))) c (.lst [])) p (.lst (cs.map D.mut ++ [.mut c]))) := by
        rw [um_comm cp, um_comm tp, um_um]
        have ct : c ≠ t1 := fun e => by rw [e, um_same] at hc; cases hc
        rw [um_ne ct, um_ne cp] at hc
        refine (le2 ls _ _).trans (le.um ?_)
        rw [um_ne ct, um_ne cp]
        exact hc
      refine hT _ _ _ le3 fun t2 ht2 => ⟨⟨t2, _, rfl, um_same⟩, ?_⟩
      dsimp only
      rw [um_same]
      dsimp only
      refine ⟨by rw [List.length_map]; omega, ?_⟩
      rw [um_um]
      refine hT _ _ _ (le3.trans (le.um ht2)) fun t3 ht3 => same_row um_same t40 ?_
      dsimp only
      rw [if_pos rfl]
      have le4 := (le3.trans (le.um (m := .lst (mx.map D.int ++ [.int 7])) ht2)).trans (le.um (m := .lst (mx.map D.int)) ht3)
      refine hG _ _ _ le4 fun p2 cs2 hnd3 hfr3 hcl3 => ?_
      refine same_rows um_same hcl3 (rowsOk _ _ _ hnd3 hcl3) (by omega) (fun c hc => by have := bd.2 c hc; omega) ?_
      refine ⟨μ, le4.trans ?_, h⟩
      have hnd4 := List.nodup_cons.mp hnd3
      exact (le_umz (fun a ha => hfr3 a (List.mem_cons_of_mem _ ha)) hnd4.2).trans (le.um (by rw [umz_not hnd4.1]; exact hfr3 p2 List.mem_cons_self))
  · exact h.elim
theorem len_law_right (A : Ad) : ∀ ds μ Q E, c_law_right A ds μ Q E → ds.length = 3 := by
  intro ds μ Q E h
  unfold c_law_right at h
  first | (split at h) | (split at h)
  all_goals first | rfl | exact h.elim
theorem ok_law_right {P : Program} {w : World} {K : PySem.W.Frag} {mg : Str → Option Value} {base : Heap} {A : Ad} (D : Dfn K mg "_law_right" "_law_right" s_law_right ["web", "tags", "arrows"]) (T : Tx P w base K mg A) (G_law_same : DfOk P w K mg base "_law_same" 2 ["told", "wanted"] (c_law_same A)) (G_groups : DfOk P w K mg base "groups" 3 ["web"] (c_groups A)) (G_tangled : DfOk P w K mg base "tangled" 3 ["web"] (c_tangled A)) (G_law_in_order : DfOk P w K mg base "_law_in_order" 1 ["classes", "far"] (c_law_in_order A)) (G_law_classes : DfOk P w K mg base "_law_classes" 1 ["tags", "far"] (c_law_classes A)) (G_law_onward : DfOk P w K mg base "_law_onward" 1 ["tags", "arrows"] (c_law_onward A)) : DfOk P w K mg base "_law_right" 4 ["web", "tags", "arrows"] (c_law_right A) := by
  obtain ⟨f, fd, F, hm, hb⟩ := D
  refine ⟨f, fd, okD F sc_law_right (by decide) (len_law_right A) ?_, hm, F.kp, hb⟩
  intro X W E cdv B outer s H Ex hX tk hp hr
  subst hX
  exact ⟨_, w_law_right A E, (scons (sset (i := 3) (ecall2 tk G_law_onward (hr.mono (by decide)) (acons (ev 1) (acons (ev 2) anil))) sc_law_right.nd)
  (scons (sset (i := 4) (ecall2 tk G_law_in_order (hr.mono (by decide)) (acons (ecall2 tk G_law_classes (hr.mono (by decide)) (acons (ev 1) (acons (ev 3) anil))) (acons (ev 3) anil))) sc_law_right.nd)
  (scons (ssetlcF sc_law_right.nd 5 [("tag", 6)] 6 (il (efrz (ecb cr_sortedI dc_sort T.b_sorted (acons (ev 1) anil)))) (fun _ _ _ _ _ => gnmP 6 sc_law_right.nd) (fun _ _ _ _ _ => ⟨_, (tsone (tdin (Room.units1 hr) (ev 6) (edget (Room.units1 hr) (ev 3) (ev 6))))⟩) (fun _ _ _ _ _ => ⟨_, (ev 6)⟩))
  (scons (sset (i := 7) (ecall2 tk G_groups (hr.mono (by decide)) (acons (ev 0) anil)) sc_law_right.nd)
  (scons (sif (tbo (tor (tnot (tval (ecall2 tk G_law_same (hr.mono (by decide)) (acons (ev 7) (acons (ev 4) anil))))) (tor1 (tnot (tval (ecall2 tk G_law_same (hr.mono (by decide)) (acons (ecall2 tk G_tangled (hr.mono (by decide)) (acons (ev 0) anil)) (acons (ev 5) anil)))))))) (sone (sret eb)) snil)
  (scons (sfor hp (il (ev 7)) (gnm 8 sc_law_right.nd) (sone (sexpr (eapp (ev 8) (acons ei anil)))))
  (scons (sexpr (eapp (ev 7) (acons (elst anil) anil)))
  (scons (sset (i := 9) (ecall2 tk G_tangled (hr.mono (by decide)) (acons (ev 0) anil)) sc_law_right.nd)
  (scons (sexpr (eapp (ev 9) (acons ei anil)))
  (sone (sret (eand (ecall2 tk G_law_same (hr.mono (by decide)) (acons (ecall2 tk G_tangled (hr.mono (by decide)) (acons (ev 0) anil)) (acons (ev 5) anil))) (eone (ecall2 tk G_law_same (hr.mono (by decide)) (acons (ecall2 tk G_groups (hr.mono (by decide)) (acons (ev 0) anil)) (acons (ev 4) anil)))))))))))))))), fun ds μ Q E0 hc hE => by subst hE; exact pure_law_right A ds μ Q E0 hc⟩
end K14
set_option maxHeartbeats 800000
namespace K14
open PySem L2 DL
local macro_rules | `(tactic| walk_at "w") => `(tactic| simp only [wSeq, wAugD, wAugN, fSetI, fLenS, fInS, fSort, fSortD, fSortSetI, fSortSetP, fRem, wNext, wIf, wRet, wRetN, wDrop, wAsg, gN, wVar, wC, wOp, wUn, wNil, wCons, wCB, wTup, wLst, wLstF, wTe, tB0, wAnd, wOr, wNot, wAndV, wOrV, wNotV, wIfE, wCall, wCallG, wRaise, wFrz, fFrz, rets, fI, fI0, fAdd, fSub, fMul, fLt, fLe, fGt, fGe, fMod, fModN, fPow, fDiv, fDivG, fNeg, fEq, fNe, eqF_int, eqF_bl, eqF_str, scal_int, scal_bl, scal_str, fLen, sv, fIx, fAbs, fInt, fList, wSl, fSlL, oNo, oSo, lvr, lv, fCat, wMeL, fApp, fPop, fSetL, gSb, iLs, iTp, iR1, iR2, wFor, gTp, gCn, gNl, wPar, wBrk, wCnt, fIsi, wIsx, wLc, wYes, wip, wTr, truD, wTry, clrD, wFld, fieldsD, wSetF, wMeth, wMake, wIsX, wXf, wTryX, wRaiseL, wRaiseV, fCatM, fEqL, fNeL, fStrI, fFmt, wJoin, wJs, wChain, wLc2, wLR, wProp, fRepT, wDIn, wDNewT, fSetD, iR3, gLs, fIns, fPopAt, fClear, fTuple, fMin2, fMaxL, fAny, iEn, wRev, fRev, wDNew, wDNewF, wDsp1, wDsp1F, fAddS, fIsN, fNotN, um_same, um_um, st0, List.map_cons, List.map_nil, List.length_cons, List.length_nil, List.getElem?_cons_zero, List.getElem?_cons_succ, List.set_cons_zero, List.set_cons_succ, List.cons_append, List.nil_append, List.replicate, atI_c0, atI_c1, atI_c2, atI_c3, atI_c4, atI_c5, atI_c6, ixN_70, ixN_71, ixN_72, ixN_73, ixN_74, ixN_75, ixN_76, Nat.reduceAdd, Int.reduceToNat, Int.reducePow, ite_T, ite_F, if_dec, if_ndec, if_nb, true_and, if_true, Bool.false_eq_true, if_false])
local macro_rules | `(tactic| walk_at "v") => `(tactic| simp only [wSeq, wAugD, wAugN, fSetI, fLenS, fInS, fSort, fSortD, fSortSetI, fSortSetP, fRem, wNext, wIf, wRet, wRetN, wDrop, wAsg, gN, wVar, wC, wOp, wUn, wNil, wCons, wCB, wTup, wLst, wLstF, wTe, tB0, wAnd, wOr, wNot, wAndV, wOrV, wNotV, wIfE, wCall, wCallG, wRaise, wFrz, fFrz, rets, fI, fI0, fAdd, fSub, fMul, fLt, fLe, fGt, fGe, fMod, fModN, fPow, fDiv, fDivG, fNeg, fEq, fNe, eqF_int, eqF_bl, eqF_str, scal_int, scal_bl, scal_str, fLen, sv, fIx, fAbs, fInt, fList, wSl, fSlL, oNo, oSo, lvr, lv, fCat, wMeL, fApp, fPop, fSetL, gSb, gTp, gCn, gNl, wPar, wBrk, wCnt, fIsi, wIsx, wYes, wip, wTr, truD, wTry, clrD, wFld, fieldsD, wSetF, wMeth, wMake, wIsX, wXf, wTryX, wRaiseL, wRaiseV, fCatM, fEqL, fNeL, fStrI, fFmt, wJoin, wJs, wChain, wLR, wProp, fRepT, wDIn, wDNewT, fSetD, gLs, fIns, fPopAt, fClear, fTuple, fMin2, fMaxL, fAny, wRev, fRev, wDNew, wDNewF, wDsp1, wDsp1F, fAddS, fIsN, fNotN, um_same, um_um, st0, List.map_cons, List.map_nil, List.length_cons, List.length_nil, List.getElem?_cons_zero, List.getElem?_cons_succ, List.set_cons_zero, List.set_cons_succ, List.cons_append, List.nil_append, List.replicate, atI_c0, atI_c1, atI_c2, atI_c3, atI_c4, atI_c5, atI_c6, ixN_70, ixN_71, ixN_72, ixN_73, ixN_74, ixN_75, ixN_76, Nat.reduceAdd, Int.reduceToNat, Int.reducePow, ite_T, ite_F, if_dec, if_ndec, if_nb, true_and, if_true, Bool.false_eq_true, if_false])
local macro_rules | `(tactic| walk_at "u") => `(tactic| simp only [wSeq, wAugD, wAugN, fSetI, fLenS, fInS, fSort, fSortD, fSortSetI, fSortSetP, fRem, wNext, wIf, wRet, wRetN, wDrop, wAsg, gN, wVar, wC, wOp, wUn, wNil, wCons, wCB, wTup, wLst, wLstF, wTe, tB0, wAnd, wOr, wNot, wAndV, wOrV, wNotV, wIfE, wCall, wCallG, wRaise, rets, fI, fI0, fAdd, fSub, fMul, fLt, fLe, fGt, fGe, fMod, fModN, fPow, fDiv, fDivG, fNeg, fEq, fNe, eqF_int, eqF_bl, eqF_str, scal_int, scal_bl, scal_str, fLen, sv, fIx, fAbs, fInt, fList, wSl, fSlL, oNo, oSo, lvr, lv, fCat, wMeL, fApp, fPop, fSetL, gSb, gTp, gCn, gNl, wPar, wBrk, wCnt, fIsi, wIsx, wYes, wip, wTr, truD, wTry, clrD, wFld, fieldsD, wSetF, wMeth, wMake, wIsX, wXf, wTryX, wRaiseL, wRaiseV, fCatM, fEqL, fNeL, fStrI, fFmt, wJoin, wJs, wChain, wLR, wProp, fRepT, wDIn, wDNewT, fSetD, gLs, fIns, fPopAt, fClear, fTuple, fMin2, fMaxL, fAny, wRev, fRev, wDNew, wDNewF, wDsp1, wDsp1F, fAddS, fIsN, fNotN, um_same, um_um, st0, List.map_cons, List.map_nil, List.length_cons, List.length_nil, List.getElem?_cons_zero, List.getElem?_cons_succ, List.set_cons_zero, List.set_cons_succ, List.cons_append, List.nil_append, List.replicate, atI_c0, atI_c1, atI_c2, atI_c3, atI_c4, atI_c5, atI_c6, ixN_70, ixN_71, ixN_72, ixN_73, ixN_74, ixN_75, ixN_76, Nat.reduceAdd, Int.reduceToNat, Int.reducePow, ite_T, ite_F, if_dec, if_ndec, if_nb, true_and, if_true, Bool.false_eq_true, if_false])
def c_law (A : Ad) : Ct := fun ds μ Q _ => match ds with
  | [.lsr l] => ∃ ns : List Int, l = ns.map D.int ∧ ns.length ≤ 63 ∧ Q (.bl true) μ
  | _ => False
abbrev s_law : Stmt := top 34
theorem sc_law : FnScope ["script", "store", "many", "tags", "arrows", "web", "over", "arrow", "turned_v"] ["script"] (defScope s_law) := ⟨rfl, rfl, rfl, by decide +kernel, rfl, by decide +kernel, by decide +kernel⟩
def w_law_8 (A : Ad) (E : EX) : WS := (wSeq (wAsg (wCall (c_law_web A) E (wCons (wVar 3) (wCons (wVar 6) wNil))) (gN 8))
  (wSeq (wIf (wOr (wTe (wOp fIsN (wVar 8) (wC .non))) (wNot (wTe (wCall (c_law_right A) E (wCons (wVar 8) (wCons (wVar 3) (wCons (wVar 6) wNil))))))) (wRet (wC (.bl false))) wNext)
  (wRet (wCall (c_law_right A) E (wCons (wVar 5) (wCons (wVar 3) (wCons (wVar 4) wNil)))))))
def w_law_7 (A : Ad) (E : EX) : WS := (wSeq (wAsg (wFrz (wLc (iLs (wVar 4)) 7 [7] wYes (wTup (wCons (wOp fIx (wVar 7) (wC (.int (1)))) (wCons (wOp fIx (wVar 7) (wC (.int (0)))) wNil))))) (gN 6))
  (w_law_8 A E))
def w_law_6 (A : Ad) (E : EX) : WS := (wSeq (wIf (wOr (wTe (wOp fIsN (wVar 5) (wC .non))) (wNot (wTe (wCall (c_law_right A) E (wCons (wVar 5) (wCons (wVar 3) (wCons (wVar 4) wNil))))))) (wRet (wC (.bl false))) wNext)
  (w_law_7 A E))
def w_law_5 (A : Ad) (E : EX) : WS := (wSeq (wAsg (wCall (c_law_web A) E (wCons (wVar 3) (wCons (wVar 4) wNil))) (gN 5))
  (w_law_6 A E))
def w_law_4 (A : Ad) (E : EX) : WS := (wSeq (wAsg (wCall (c_law_drawn A) E (wCons (wVar 1) (wCons (wVar 3) wNil))) (gN 4))
  (w_law_5 A E))
def w_law_3 (A : Ad) (E : EX) : WS := (wSeq (wAsg (wCall (c_law_web_tags A) E (wCons (wVar 1) (wCons (wVar 2) wNil))) (gN 3))
  (w_law_4 A E))
def w_law (A : Ad) (E : EX) : WS := (wSeq (wAsg (wCall (c_law_store A) E (wCons (wVar 0) wNil)) (gN 1))
  (wSeq (wAsg (wCall (c_law_take A) E (wCons (wVar 1) (wCons (wC (.int (9))) wNil))) (gN 2))
  (wSeq (wIf (wTe (wCall (c_law_rare A) E (wCons (wVar 1) (wCons (wC (.int (16))) wNil)))) (wAsg (wOp fAdd (wC (.int (20))) (wCall (c_law_take A) E (wCons (wVar 1) (wCons (wC (.int (21))) wNil)))) (gN 2)) wNext)
  (w_law_3 A E))))
theorem pure_law (A : Ad) (ds μ Q E0) (h : c_law A ds μ Q E0) : w_law A (fun C fs _ μ => dwx E0 C fs μ) (rets Q) (st0 9 ds) μ := by
  unfold c_law at h
  split at h
  · rename_i l
    obtain ⟨ns, rfl, hl, h⟩ := h
    unfold w_law
    walk_at "u"
    refine ⟨ns, rfl, hl, fun p st hst hp => ?_⟩
    have r3 : ∀ (many : Int) (st : List D), 0 ≤ many → many ≤ 40 → StOk st → w_law_3 A (fun C fs x μ => dwx E0 C fs μ) (rets Q) [some (.lsr (ns.map D.int)), some (.mut p), some (.int many), none, none, none, none, none, none] (um μ p (.lst st)) := by
      intro many st m0 m1 hst
      unfold w_law_3
      walk_at "u"
      refine ⟨st, um_same, hst, m0, m1, fun ts st nd tl hst => ?_⟩
      rw [um_um]
      unfold w_law_4
      walk_at "u"
      have tl : ts.length ≤ 40 := by omega
      refine ⟨st, ts, rfl, um_same, hst, nd, tl, fun ps st hg pl hst => ?_⟩
      rw [um_um]
      unfold w_law_5
      walk_at "u"
      refine ⟨ts, ps, rfl, rfl, nd, tl, pl, hg, fun q hq => ?_⟩
      unfold w_law_6
      walk_at "u"
      have isn : ∀ a, isN (.mut a) = false := fun a => rfl
      have right : ∀ (M : Mu) (a : Addr) (ps : List I2) Q' E', ps.length ≤ 80 → Gd ts ps → M a = some (.ins (A.g "Web") (webF (setI ts) (setP ps))) → Q' (.bl true) M → c_law_right A [.mut a, .lst (ts.map D.int), .lst (ps.map pD)] M Q' E' := fun M a ps Q' E' pl hg ha hQ => ⟨ts, ps, rfl, rfl, nd, tl, pl, hg, ha, hQ⟩
      rw [isn, if_neg (by decide)]
      refine right _ _ _ _ _ pl hg um_same ?_
      dsimp only
      rw [if_pos rfl]
      unfold w_law_7 wSeq wAsg
      refine lc_frz ps pD (fun _ => true) (fun p => pD (p.2, p.1)) ⟨.fix (ps.map pD), rfl, trivial, fun R hR => ?_⟩ (by omega) (fun x hx μ1 R hle hR => hR) (fun x hx _ μ1 R hle hR => ?_) ?_
      · simp only [iLs, wVar, List.getElem?_cons_zero, List.getElem?_cons_succ]
        exact hR
      · unfold pD
        walk_at "u"
        exact ⟨by decide, hR⟩
      have eo : (ps.filter fun _ => true).map (fun p => pD (p.2, p.1)) = (ps.map fun p => (p.2, p.1)).map pD := by
        rw [List.filter_eq_self.mpr (fun _ _ => rfl), List.map_map]
        rfl
      rw [eo]
      have go : Gd ts (ps.map fun p => (p.2, p.1)) := fun p hp => by
        obtain ⟨x, hx, rfl⟩ := List.mem_map.mp hp
        have := hg x hx
        exact ⟨this.2.1, this.1, fun e => this.2.2 e.symm⟩
      have lo : (ps.map fun p => (p.2, p.1)).length ≤ 80 := by rw [List.length_map]; exact pl
      simp only [gN, List.set_cons_zero, List.set_cons_succ]
      unfold w_law_8
      walk_at "u"
      refine ⟨ts, ps.map fun p => (p.2, p.1), rfl, rfl, nd, tl, lo, go, fun q2 hq2 => ?_⟩
      have qq : q ≠ q2 := fun e => by rw [← e, um_same] at hq2; cases hq2
      dsimp only
      rw [isn, if_neg (by decide)]
      refine right _ _ _ _ _ lo go um_same ?_
      dsimp only
      rw [if_pos rfl]
      refine right _ _ _ _ _ pl hg (by rw [um_ne qq, um_same]) ?_
      exact ⟨μ, (le.um hp).trans ((le.um hq).trans (le.um hq2)), h⟩
    have bd : ∀ n : Int, 0 ≤ n → n ≤ 100 → Bd 3000 n := fun n h0 h1 => bd_small (n := 2990) (by omega) (by omega)
    refine ⟨st, um_same, hst, bd _ (by decide) (by decide), fun many st1 hs1 m0 m1 _ => ?_⟩
    have m1 := m1 (by decide)
    rw [um_um]
    refine ⟨st1, um_same, hs1, bd _ (by decide) (by decide), fun b st2 hs2 => ?_⟩
    rw [um_um]
    dsimp only
    cases b with
    | false =>
      rw [if_neg (by decide)]
      exact r3 _ _ m0 (by omega) hs2
    | true =>
      rw [if_pos rfl]
      refine ⟨st2, um_same, hs2, bd _ (by decide) (by decide), fun n st3 hs3 n0 n1 _ => ?_⟩
      have n1 := n1 (by decide)
      rw [um_um]
      exact r3 _ _ (by omega) (by omega) hs3
  · exact h.elim
theorem len_law (A : Ad) : ∀ ds μ Q E, c_law A ds μ Q E → ds.length = 1 := by
  intro ds μ Q E h
  unfold c_law at h
  first | (split at h) | (split at h)
  all_goals first | rfl | exact h.elim
theorem ok_law {P : Program} {w : World} {K : PySem.W.Frag} {mg : Str → Option Value} {base : Heap} {A : Ad} (D : Dfn K mg "law" "law" s_law ["script"]) (T : Tx P w base K mg A) (G_law_right : DfOk P w K mg base "_law_right" 4 ["web", "tags", "arrows"] (c_law_right A)) (G_law_web : DfOk P w K mg base "_law_web" 7 ["tags", "arrows"] (c_law_web A)) (G_law_drawn : DfOk P w K mg base "_law_drawn" 5 ["store", "tags"] (c_law_drawn A)) (G_law_web_tags : DfOk P w K mg base "_law_web_tags" 4 ["store", "many"] (c_law_web_tags A)) (G_law_rare : DfOk P w K mg base "_law_rare" 3 ["store", "many"] (c_law_rare A)) (G_law_take : DfOk P w K mg base "_law_take" 2 ["store", "many"] (c_law_take A)) (G_law_store : DfOk P w K mg base "_law_store" 2 ["script"] (c_law_store A)) : DfOk P w K mg base "law" 8 ["script"] (c_law A) := by
  obtain ⟨f, fd, F, hm, hb⟩ := D
  refine ⟨f, fd, okD F sc_law (by decide) (len_law A) ?_, hm, F.kp, hb⟩
  intro X W E cdv B outer s H Ex hX tk hp hr
  subst hX
  exact ⟨_, w_law A E, (scons (sset (i := 1) (ecall2 tk G_law_store (hr.mono (by decide)) (acons (ev 0) anil)) sc_law.nd)
  (scons (sset (i := 2) (ecall2 tk G_law_take (hr.mono (by decide)) (acons (ev 1) (acons ei anil))) sc_law.nd)
  (scons (sif (tval (ecall2 tk G_law_rare (hr.mono (by decide)) (acons (ev 1) (acons ei anil)))) (sone (sset (i := 2) (eadd ei (ecall2 tk G_law_take (hr.mono (by decide)) (acons (ev 1) (acons ei anil)))) sc_law.nd)) snil)
  (scons (sset (i := 3) (ecall2 tk G_law_web_tags (hr.mono (by decide)) (acons (ev 1) (acons (ev 2) anil))) sc_law.nd)
  (scons (sset (i := 4) (ecall2 tk G_law_drawn (hr.mono (by decide)) (acons (ev 1) (acons (ev 3) anil))) sc_law.nd)
  (scons (sset (i := 5) (ecall2 tk G_law_web (hr.mono (by decide)) (acons (ev 3) (acons (ev 4) anil))) sc_law.nd)
  (scons (sif (tbo (tor (tc' op_isN do_isN (ev 5) en) (tor1 (tnot (tval (ecall2 tk G_law_right (hr.mono (by decide)) (acons (ev 5) (acons (ev 3) (acons (ev 4) anil))))))))) (sone (sret eb)) snil)
  (scons (ssetlcF sc_law.nd 6 [("arrow", 7)] 7 (il (ev 4)) (fun _ _ _ _ _ => gnmP 7 sc_law.nd) (fun _ _ _ _ _ => ⟨_, tsnil⟩) (fun _ _ _ _ _ => ⟨_, (etup (acons (eix (ev 7) ei) (acons (eix (ev 7) ei) anil)))⟩))
  (scons (sset (i := 8) (ecall2 tk G_law_web (hr.mono (by decide)) (acons (ev 3) (acons (ev 6) anil))) sc_law.nd)
  (scons (sif (tbo (tor (tc' op_isN do_isN (ev 8) en) (tor1 (tnot (tval (ecall2 tk G_law_right (hr.mono (by decide)) (acons (ev 8) (acons (ev 3) (acons (ev 6) anil))))))))) (sone (sret eb)) snil)
  (sone (sret (ecall2 tk G_law_right (hr.mono (by decide)) (acons (ev 5) (acons (ev 3) (acons (ev 4) anil)))))))))))))))), fun ds μ Q E0 hc hE => by subst hE; exact pure_law A ds μ Q E0 hc⟩
theorem okx_law {P : Program} {w : World} {K : PySem.W.Frag} {mg : Str → Option Value} {base : Heap} {A : Ad} {f : Addr} {fd : FuncData} (F : Fun K "law" "law" s_law f fd) (T : Tx P w base K mg A) (G_law_right : DfOk P w K mg base "_law_right" 4 ["web", "tags", "arrows"] (c_law_right A)) (G_law_web : DfOk P w K mg base "_law_web" 7 ["tags", "arrows"] (c_law_web A)) (G_law_drawn : DfOk P w K mg base "_law_drawn" 5 ["store", "tags"] (c_law_drawn A)) (G_law_web_tags : DfOk P w K mg base "_law_web_tags" 4 ["store", "many"] (c_law_web_tags A)) (G_law_rare : DfOk P w K mg base "_law_rare" 3 ["store", "many"] (c_law_rare A)) (G_law_take : DfOk P w K mg base "_law_take" 2 ["store", "many"] (c_law_take A)) (G_law_store : DfOk P w K mg base "_law_store" 2 ["script"] (c_law_store A)) : FnOk P w K mg base (L2N.CX P w) 8 f fd ["script"] (spD K (c_law A)) := by
  refine okD F sc_law (by decide) (len_law A) ?_
  intro X W E cdv B outer s H Ex hX tk hp hr
  subst hX
  exact ⟨_, w_law A E, (scons (sset (i := 1) (ecall2 tk G_law_store (hr.mono (by decide)) (acons (ev 0) anil)) sc_law.nd)
  (scons (sset (i := 2) (ecall2 tk G_law_take (hr.mono (by decide)) (acons (ev 1) (acons ei anil))) sc_law.nd)
  (scons (sif (tval (ecall2 tk G_law_rare (hr.mono (by decide)) (acons (ev 1) (acons ei anil)))) (sone (sset (i := 2) (eadd ei (ecall2 tk G_law_take (hr.mono (by decide)) (acons (ev 1) (acons ei anil)))) sc_law.nd)) snil)
  (scons (sset (i := 3) (ecall2 tk G_law_web_tags (hr.mono (by decide)) (acons (ev 1) (acons (ev 2) anil))) sc_law.nd)
  (scons (sset (i := 4) (ecall2 tk G_law_drawn (hr.mono (by decide)) (acons (ev 1) (acons (ev 3) anil))) sc_law.nd)
  (scons (sset (i := 5) (ecall2 tk G_law_web (hr.mono (by decide)) (acons (ev 3) (acons (ev 4) anil))) sc_law.nd)
  (scons (sif (tbo (tor (tc' op_isN do_isN (ev 5) en) (tor1 (tnot (tval (ecall2 tk G_law_right (hr.mono (by decide)) (acons (ev 5) (acons (ev 3) (acons (ev 4) anil))))))))) (sone (sret eb)) snil)
  (scons (ssetlcF sc_law.nd 6 [("arrow", 7)] 7 (il (ev 4)) (fun _ _ _ _ _ => gnmP 7 sc_law.nd) (fun _ _ _ _ _ => ⟨_, tsnil⟩) (fun _ _ _ _ _ => ⟨_, (etup (acons (eix (ev 7) ei) (acons (eix (ev 7) ei) anil)))⟩))
  (scons (sset (i := 8) (ecall2 tk G_law_web (hr.mono (by decide)) (acons (ev 3) (acons (ev 6) anil))) sc_law.nd)
  (scons (sif (tbo (tor (tc' op_isN do_isN (ev 8) en) (tor1 (tnot (tval (ecall2 tk G_law_right (hr.mono (by decide)) (acons (ev 8) (acons (ev 3) (acons (ev 6) anil))))))))) (sone (sret eb)) snil)
  (sone (sret (ecall2 tk G_law_right (hr.mono (by decide)) (acons (ev 5) (acons (ev 3) (acons (ev 4) anil)))))))))))))))), fun ds μ Q E0 hc hE => by subst hE; exact pure_law A ds μ Q E0 hc⟩
end K14
set_option maxHeartbeats 8000000
namespace K14
open PySem L2 DL PySem.Spec PyProof.Rows
theorem joined {P : Program} {w : World} {K : PySem.W.Frag} {mg : Str → Option Value} {base : Heap} {A : Ad} {f : Addr} {fd : FuncData} (T : Tx P w base K mg A) (F : Fun K "law" "law" s_law f fd)
    (d_check_web : Dfn K mg "check_web" "check_web" s_check_web ["tags", "arrows"])
    (d_gathered : Dfn K mg "gathered" "gathered" s_gathered ["tags", "pairs"])
    (d_reached : Dfn K mg "reached" "reached" s_reached ["table", "tag"])
    (d_laid_out : Dfn K mg "laid_out" "laid_out" s_laid_out ["tags", "arrows"])
    (d_groups : Dfn K mg "groups" "groups" s_groups ["web"])
    (d_tangled : Dfn K mg "tangled" "tangled" s_tangled ["web"])
    (d_law_mix : Dfn K mg "_law_mix" "_law_mix" s_law_mix ["number"])
    (d_law_store : Dfn K mg "_law_store" "_law_store" s_law_store ["script"])
    (d_law_take : Dfn K mg "_law_take" "_law_take" s_law_take ["store", "many"])
    (d_law_rare : Dfn K mg "_law_rare" "_law_rare" s_law_rare ["store", "many"])
    (d_law_shuffled : Dfn K mg "_law_shuffled" "_law_shuffled" s_law_shuffled ["store", "things"])
    (d_law_web_tags : Dfn K mg "_law_web_tags" "_law_web_tags" s_law_web_tags ["store", "many"])
    (d_law_links : Dfn K mg "_law_links" "_law_links" s_law_links ["store", "tags", "most", "ringless"])
    (d_law_number : Dfn K mg "_law_number" "_law_number" s_law_number ["told"])
    (d_law_same : Dfn K mg "_law_same" "_law_same" s_law_same ["told", "wanted"])
    (d_law_onward : Dfn K mg "_law_onward" "_law_onward" s_law_onward ["tags", "arrows"])
    (d_law_classes : Dfn K mg "_law_classes" "_law_classes" s_law_classes ["tags", "far"])
    (d_law_in_order : Dfn K mg "_law_in_order" "_law_in_order" s_law_in_order ["classes", "far"])
    (d_law_planted : Dfn K mg "_law_planted" "_law_planted" s_law_planted ["store", "tags"])
    (d_law_drawn : Dfn K mg "_law_drawn" "_law_drawn" s_law_drawn ["store", "tags"])
    (d_law_web : Dfn K mg "_law_web" "_law_web" s_law_web ["tags", "arrows"])
    (d_law_right : Dfn K mg "_law_right" "_law_right" s_law_right ["web", "tags", "arrows"])
    {f_Web___init__ : Addr} {fd_Web___init__ : FuncData} (F_Web___init__ : Fun K "__init__" "Web.__init__" s_Web___init__ f_Web___init__ fd_Web___init__) (B_Web___init__ : Binds K fd_Web___init__ ["self", "tags", "arrows"] [])
    (mk_Web : Mk K (A.g "Web") f_Web___init__) (gl_Web : mg "Web" = some (.ref (A.g "Web")))
    {f_Web_tags : Addr} {fd_Web_tags : FuncData} (F_Web_tags : Fun K "tags" "Web.tags" s_Web_tags f_Web_tags fd_Web_tags) (B_Web_tags : Binds K fd_Web_tags ["self"] [])
    {p_Web_tags : Addr} (R_Web_tags : PropOf K (A.g "Web") "tags" p_Web_tags f_Web_tags)
    {f_Web_arrows : Addr} {fd_Web_arrows : FuncData} (F_Web_arrows : Fun K "arrows" "Web.arrows" s_Web_arrows f_Web_arrows fd_Web_arrows) (B_Web_arrows : Binds K fd_Web_arrows ["self"] [])
    {p_Web_arrows : Addr} (R_Web_arrows : PropOf K (A.g "Web") "arrows" p_Web_arrows f_Web_arrows)
    (Cl_Web : Cls K (A.g "Web"))
    (Na_Web_own_arrows : NoAttr K (A.g "Web") "own_arrows")
    (Na_Web_own_tags : NoAttr K (A.g "Web") "own_tags") : FnOk P w K mg base (L2N.CX P w) 8 f fd ["script"] (spD K (c_law A)) := by
  have g_law_mix := ok_law_mix (P := P) (w := w) (K := K) (mg := mg) (base := base) (A := A) (D := d_law_mix) (T := T)
  have g_law_store := ok_law_store (P := P) (w := w) (K := K) (mg := mg) (base := base) (A := A) (D := d_law_store) (T := T) (G_law_mix := g_law_mix)
  have g_law_take := ok_law_take (P := P) (w := w) (K := K) (mg := mg) (base := base) (A := A) (D := d_law_take) (T := T) (G_law_mix := g_law_mix)
  have g_law_rare := ok_law_rare (P := P) (w := w) (K := K) (mg := mg) (base := base) (A := A) (D := d_law_rare) (T := T) (G_law_take := g_law_take)
  have g_law_number := ok_law_number (P := P) (w := w) (K := K) (mg := mg) (base := base) (A := A) (D := d_law_number) (T := T)
  have g_law_same := ok_law_same (P := P) (w := w) (K := K) (mg := mg) (base := base) (A := A) (D := d_law_same) (T := T) (G_law_number := g_law_number)
  have g_check_web := ok_check_web (P := P) (w := w) (K := K) (mg := mg) (base := base) (A := A) (D := d_check_web) (T := T)
  have g_gathered := ok_gathered (P := P) (w := w) (K := K) (mg := mg) (base := base) (A := A) (D := d_gathered) (T := T)
  have g_reached := ok_reached (P := P) (w := w) (K := K) (mg := mg) (base := base) (A := A) (D := d_reached) (T := T)
  have g_laid_out := ok_laid_out (P := P) (w := w) (K := K) (mg := mg) (base := base) (A := A) (D := d_laid_out) (T := T) (G_gathered := g_gathered)
  have M_Web := DfK.mk (⟨_, _, okm_Web___init__ (P := P) (w := w) (K := K) (mg := mg) (base := base) (A := A) (F := F_Web___init__) (T := T) (G_check_web := g_check_web) (Cl_Web := Cl_Web) (Na_Web_own_arrows := Na_Web_own_arrows) (Na_Web_own_tags := Na_Web_own_tags), mk_Web, gl_Web, B_Web___init__⟩ : ∃ f fd, FnOk P w K mg base (L2N.CX P w) _ f fd _ (spD K (c_Web___init__ A)) ∧ Mk K (A.g "Web") f ∧ mg "Web" = some (.ref (A.g "Web")) ∧ Binds K fd _ [])
  have P_Web_tags := DfP.mk (⟨_, _, _, okm_Web_tags (P := P) (w := w) (K := K) (mg := mg) (base := base) (A := A) (F := F_Web_tags) (T := T) (Cl_Web := Cl_Web) (Na_Web_own_tags := Na_Web_own_tags), R_Web_tags, B_Web_tags⟩ : ∃ p g fd, FnOk P w K mg base (L2N.CX P w) _ g fd ["self"] (spD K (c_Web_tags A)) ∧ PropOf K (A.g "Web") "tags" p g ∧ Binds K fd ["self"] []) Cl_Web
  have P_Web_arrows := DfP.mk (⟨_, _, _, okm_Web_arrows (P := P) (w := w) (K := K) (mg := mg) (base := base) (A := A) (F := F_Web_arrows) (T := T) (Cl_Web := Cl_Web) (Na_Web_own_arrows := Na_Web_own_arrows), R_Web_arrows, B_Web_arrows⟩ : ∃ p g fd, FnOk P w K mg base (L2N.CX P w) _ g fd ["self"] (spD K (c_Web_arrows A)) ∧ PropOf K (A.g "Web") "arrows" p g ∧ Binds K fd ["self"] []) Cl_Web
  have g_groups := ok_groups (P := P) (w := w) (K := K) (mg := mg) (base := base) (A := A) (D := d_groups) (T := T) (G_laid_out := g_laid_out) (G_reached := g_reached) (G_gathered := g_gathered) (P_Web_arrows := P_Web_arrows) (P_Web_tags := P_Web_tags)
  have g_tangled := ok_tangled (P := P) (w := w) (K := K) (mg := mg) (base := base) (A := A) (D := d_tangled) (T := T) (G_reached := g_reached) (G_gathered := g_gathered) (P_Web_tags := P_Web_tags) (P_Web_arrows := P_Web_arrows)
  have g_law_shuffled := ok_law_shuffled (P := P) (w := w) (K := K) (mg := mg) (base := base) (A := A) (D := d_law_shuffled) (T := T) (G_law_take := g_law_take)
  have g_law_web_tags := ok_law_web_tags (P := P) (w := w) (K := K) (mg := mg) (base := base) (A := A) (D := d_law_web_tags) (T := T) (G_law_shuffled := g_law_shuffled) (G_law_take := g_law_take)
  have g_law_links := ok_law_links (P := P) (w := w) (K := K) (mg := mg) (base := base) (A := A) (D := d_law_links) (T := T) (G_law_take := g_law_take)
  have g_law_planted := ok_law_planted (P := P) (w := w) (K := K) (mg := mg) (base := base) (A := A) (D := d_law_planted) (T := T) (G_law_links := g_law_links) (G_law_take := g_law_take)
  have g_law_drawn := ok_law_drawn (P := P) (w := w) (K := K) (mg := mg) (base := base) (A := A) (D := d_law_drawn) (T := T) (G_law_shuffled := g_law_shuffled) (G_law_planted := g_law_planted) (G_law_links := g_law_links) (G_law_take := g_law_take)
  have g_law_onward := ok_law_onward (P := P) (w := w) (K := K) (mg := mg) (base := base) (A := A) (D := d_law_onward) (T := T)
  have g_law_classes := ok_law_classes (P := P) (w := w) (K := K) (mg := mg) (base := base) (A := A) (D := d_law_classes) (T := T)
  have g_law_in_order := ok_law_in_order (P := P) (w := w) (K := K) (mg := mg) (base := base) (A := A) (D := d_law_in_order) (T := T)
  have g_law_web := ok_law_web (P := P) (w := w) (K := K) (mg := mg) (base := base) (A := A) (D := d_law_web) (T := T) (M_Web := M_Web)
  have g_law_right := ok_law_right (P := P) (w := w) (K := K) (mg := mg) (base := base) (A := A) (D := d_law_right) (T := T) (G_law_same := g_law_same) (G_groups := g_groups) (G_tangled := g_tangled) (G_law_in_order := g_law_in_order) (G_law_classes := g_law_classes) (G_law_onward := g_law_onward)
  exact okx_law (A := A) F (T := T) (G_law_right := g_law_right) (G_law_web := g_law_web) (G_law_drawn := g_law_drawn) (G_law_web_tags := g_law_web_tags) (G_law_rare := g_law_rare) (G_law_take := g_law_take) (G_law_store := g_law_store)
theorem ends {P : Program} {w : World} {K : PySem.W.Frag} {h : Heap} {mg : Str → Option Value} {fa : Addr} (X : K.In h) (G : h.Ns mainGlobals mg) (tree : P.given.tree = none) (hl : mg "law" = some (.ref fa)) (c0 : He5.SaysA ([] ++ K14H.hfa ++ []) (K14H.hfn ++ [] ++ []) K) (ex0 : ((true && true) && K14H.hex K) = true) :
    ∃ (A : Ad) (fd : FuncData), (∀ (s : Shared) (u : Value), BindsTo s fd ⟨[u], []⟩ [("script", u)]) ∧ ∀ base : Heap, K.In base → base.Ns mainGlobals mg → base.NoSeer → FnOk P w K mg base (L2N.CX P w) 8 fa fd ["script"] (spD K (c_law A)) := by
  have c : He5.SaysA K14H.hfa K14H.hfn K := by simpa only [List.nil_append, List.append_nil] using c0
  have ex : K14H.hex K = true := by simpa only [Bool.true_and] using ex0
  unfold K14H.hex at ex
  simp only [Bool.and_eq_true] at ex
  obtain ⟨x0, x1⟩ := ex
  let A : Ad := ⟨He.ga K, K14H.nmK K, w, fun n hn => of_decide_eq_true (List.all_eq_true.mp x0 n hn)⟩
  have d_check_web : Dfn K mg "check_web" "check_web" s_check_web ["tags", "arrows"] := dfn_ofA X G c 0 0 rfl rfl fun _ _ _ _ _ _ us hl => match us, hl with | [_, _], _ => rfl
  have d_gathered : Dfn K mg "gathered" "gathered" s_gathered ["tags", "pairs"] := dfn_ofA X G c 1 1 rfl rfl fun _ _ _ _ _ _ us hl => match us, hl with | [_, _], _ => rfl
  have d_reached : Dfn K mg "reached" "reached" s_reached ["table", "tag"] := dfn_ofA X G c 2 2 rfl rfl fun _ _ _ _ _ _ us hl => match us, hl with | [_, _], _ => rfl
  have d_laid_out : Dfn K mg "laid_out" "laid_out" s_laid_out ["tags", "arrows"] := dfn_ofA X G c 3 3 rfl rfl fun _ _ _ _ _ _ us hl => match us, hl with | [_, _], _ => rfl
  have d_groups : Dfn K mg "groups" "groups" s_groups ["web"] := dfn_ofA X G c 4 4 rfl rfl fun _ _ _ _ _ _ us hl => match us, hl with | [_], _ => rfl
  have d_tangled : Dfn K mg "tangled" "tangled" s_tangled ["web"] := dfn_ofA X G c 5 5 rfl rfl fun _ _ _ _ _ _ us hl => match us, hl with | [_], _ => rfl
  have d_law_mix : Dfn K mg "_law_mix" "_law_mix" s_law_mix ["number"] := dfn_ofA X G c 6 6 rfl rfl fun _ _ _ _ _ _ us hl => match us, hl with | [_], _ => rfl
  have d_law_store : Dfn K mg "_law_store" "_law_store" s_law_store ["script"] := dfn_ofA X G c 7 7 rfl rfl fun _ _ _ _ _ _ us hl => match us, hl with | [_], _ => rfl
  have d_law_take : Dfn K mg "_law_take" "_law_take" s_law_take ["store", "many"] := dfn_ofA X G c 8 8 rfl rfl fun _ _ _ _ _ _ us hl => match us, hl with | [_, _], _ => rfl
  have d_law_rare : Dfn K mg "_law_rare" "_law_rare" s_law_rare ["store", "many"] := dfn_ofA X G c 9 9 rfl rfl fun _ _ _ _ _ _ us hl => match us, hl with | [_, _], _ => rfl
  have d_law_shuffled : Dfn K mg "_law_shuffled" "_law_shuffled" s_law_shuffled ["store", "things"] := dfn_ofA X G c 10 10 rfl rfl fun _ _ _ _ _ _ us hl => match us, hl with | [_, _], _ => rfl
  have d_law_web_tags : Dfn K mg "_law_web_tags" "_law_web_tags" s_law_web_tags ["store", "many"] := dfn_ofA X G c 11 11 rfl rfl fun _ _ _ _ _ _ us hl => match us, hl with | [_, _], _ => rfl
  have d_law_links : Dfn K mg "_law_links" "_law_links" s_law_links ["store", "tags", "most", "ringless"] := dfn_ofA X G c 12 12 rfl rfl fun _ _ _ _ _ _ us hl => match us, hl with | [_, _, _, _], _ => rfl
  have d_law_number : Dfn K mg "_law_number" "_law_number" s_law_number ["told"] := dfn_ofA X G c 13 13 rfl rfl fun _ _ _ _ _ _ us hl => match us, hl with | [_], _ => rfl
  have d_law_same : Dfn K mg "_law_same" "_law_same" s_law_same ["told", "wanted"] := dfn_ofA X G c 14 14 rfl rfl fun _ _ _ _ _ _ us hl => match us, hl with | [_, _], _ => rfl
  have d_law_onward : Dfn K mg "_law_onward" "_law_onward" s_law_onward ["tags", "arrows"] := dfn_ofA X G c 15 15 rfl rfl fun _ _ _ _ _ _ us hl => match us, hl with | [_, _], _ => rfl
  have d_law_classes : Dfn K mg "_law_classes" "_law_classes" s_law_classes ["tags", "far"] := dfn_ofA X G c 16 16 rfl rfl fun _ _ _ _ _ _ us hl => match us, hl with | [_, _], _ => rfl
  have d_law_in_order : Dfn K mg "_law_in_order" "_law_in_order" s_law_in_order ["classes", "far"] := dfn_ofA X G c 17 17 rfl rfl fun _ _ _ _ _ _ us hl => match us, hl with | [_, _], _ => rfl
  have d_law_planted : Dfn K mg "_law_planted" "_law_planted" s_law_planted ["store", "tags"] := dfn_ofA X G c 18 18 rfl rfl fun _ _ _ _ _ _ us hl => match us, hl with | [_, _], _ => rfl
  have d_law_drawn : Dfn K mg "_law_drawn" "_law_drawn" s_law_drawn ["store", "tags"] := dfn_ofA X G c 19 19 rfl rfl fun _ _ _ _ _ _ us hl => match us, hl with | [_, _], _ => rfl
  have d_law_web : Dfn K mg "_law_web" "_law_web" s_law_web ["tags", "arrows"] := dfn_ofA X G c 20 20 rfl rfl fun _ _ _ _ _ _ us hl => match us, hl with | [_, _], _ => rfl
  have d_law_right : Dfn K mg "_law_right" "_law_right" s_law_right ["web", "tags", "arrows"] := dfn_ofA X G c 21 21 rfl rfl fun _ _ _ _ _ _ us hl => match us, hl with | [_, _, _], _ => rfl
  have d_law : Dfn K mg "law" "law" s_law ["script"] := dfn_ofA X G c 22 22 rfl rfl fun _ _ _ _ _ _ us hl => match us, hl with | [_], _ => rfl
  obtain ⟨fd_Web___init__, F_Web___init__⟩ := funA c (K := K) (x := "__init__") (q := "Web.__init__") (st := s_Web___init__) 23 rfl rfl rfl rfl rfl rfl rfl
  have B_Web___init__ : Binds K fd_Web___init__ ["self", "tags", "arrows"] [] := F_Web___init__.binds fun _ _ _ _ _ _ us hl => match us, hl with | [_, _, _], _ => rfl
  have mk_Web : Mk K (A.g "Web") (He.ma K (He.ga K "Web") "__init__") := He.mkr_ok (c.fact 44 (f := .mkr "Web") rfl)
  have gl_Web : mg "Web" = some (.ref (A.g "Web")) := He.glo_ok X G (c.fact 27 (f := .glo "Web") rfl)
  obtain ⟨fd_Web_tags, F_Web_tags⟩ := funA c (K := K) (x := "tags") (q := "Web.tags") (st := s_Web_tags) 24 rfl rfl rfl rfl rfl rfl rfl
  have B_Web_tags : Binds K fd_Web_tags ["self"] [] := F_Web_tags.binds fun _ _ _ _ _ _ us hl => match us, hl with | [_], _ => rfl
  have R_Web_tags := propB_ok (List.all_eq_true.mp x1 ("Web", "tags") (by decide))
  obtain ⟨fd_Web_arrows, F_Web_arrows⟩ := funA c (K := K) (x := "arrows") (q := "Web.arrows") (st := s_Web_arrows) 25 rfl rfl rfl rfl rfl rfl rfl
  have B_Web_arrows : Binds K fd_Web_arrows ["self"] [] := F_Web_arrows.binds fun _ _ _ _ _ _ us hl => match us, hl with | [_], _ => rfl
  have R_Web_arrows := propB_ok (List.all_eq_true.mp x1 ("Web", "arrows") (by decide))
  have Cl_Web : Cls K (A.g "Web") := He.cls_ok (c.fact 45 (f := .cls "Web") rfl)
  have Na_Web_own_arrows : NoAttr K (A.g "Web") "own_arrows" := He.noat_ok (c.fact 42 (f := .noat "Web" "own_arrows") rfl)
  have Na_Web_own_tags : NoAttr K (A.g "Web") "own_tags" := He.noat_ok (c.fact 43 (f := .noat "Web" "own_tags") rfl)
  obtain ⟨t_MOST_TAGS, i_MOST_TAGS⟩ := He.int_ok X G (c.fact 41 (f := .int "MOST_TAGS" (40)) rfl)
  obtain ⟨f, fd, F, hm, hb⟩ := d_law
  have e := hl.symm.trans hm
  cases e
  refine ⟨A, fd, fun s u => ?_, fun base kb gb seer => ?_⟩
  · obtain ⟨oc, od, kV, dc, pm, an, cv, ct, sl, rfl, lk, hcd⟩ := F.ex
    exact .of_eq rfl
  have T : Tx P w base K mg A := { seer := seer, tree := tree, hw := rfl, b_len := He.free_ok X G (c.fact 28 (f := .free "len") rfl), b_abs := He.free_ok X G (c.fact 29 (f := .free "abs") rfl), b_int := He.free_ok X G (c.fact 30 (f := .free "int") rfl), b_list := He.free_ok X G (c.fact 31 (f := .free "list") rfl), b_range := He.free_ok X G (c.fact 32 (f := .free "range") rfl), b_isinstance := He.free_ok X G (c.fact 33 (f := .free "isinstance") rfl), b_bool := He.free_ok X G (c.fact 34 (f := .free "bool") rfl), b_str := He.free_ok X G (c.fact 35 (f := .free "str") rfl), b_tuple := He.free_ok X G (c.fact 36 (f := .free "tuple") rfl), b_dict := He.free_ok X G (c.fact 37 (f := .free "dict") rfl), b_set := He.free_ok X G (c.fact 38 (f := .free "set") rfl), b_sorted := He.free_ok X G (c.fact 39 (f := .free "sorted") rfl), b_min := He.free_ok X G (c.fact 40 (f := .free "min") rfl), g_MOST_TAGS := ⟨_, i_MOST_TAGS, ⟨_, rfl⟩⟩ }
  exact joined (A := A) T F d_check_web d_gathered d_reached d_laid_out d_groups d_tangled d_law_mix d_law_store d_law_take d_law_rare d_law_shuffled d_law_web_tags d_law_links d_law_number d_law_same d_law_onward d_law_classes d_law_in_order d_law_planted d_law_drawn d_law_web d_law_right F_Web___init__ B_Web___init__ mk_Web gl_Web F_Web_tags B_Web_tags R_Web_tags F_Web_arrows B_Web_arrows R_Web_arrows Cl_Web Na_Web_own_arrows Na_Web_own_tags
end K14
set_option maxHeartbeats 0
open PySem PySem.W PySem.Calls PyProof.Rows
theorem PySem.Challenge.cw_twothick_k14_groups_of_mutual_reach_holds : PySem.Challenge.rw_twothick_k14_groups_of_mutual_reach.Holds :=
 by
  w_on; o_law
  refine HandSHeadRun.head_any (r := OpenLaw.row PySem.Challenge.rw_twothick_k14_groups_of_mutual_reach) (q := view (OpenLaw.row PySem.Challenge.rw_twothick_k14_groups_of_mutual_reach).prog [34]) (H := K14H.hk) (ob := K14H.hob) (M := 20000) (loose := K14H.hnames) (d := HandSHeadRun.topDef (OpenLaw.row PySem.Challenge.rw_twothick_k14_groups_of_mutual_reach).prog 34) (kwd := []) K14H.hob_eq
    (by kernel_rfl) (fun s => by kernel_rfl) K14H.hrun (by kernel_rfl) (by kernel_rfl) (by kernel_rfl) (by rfl) (by first | assumption | decide +kernel) (by decide +kernel) ⟨rfl, rfl, rfl, rfl, rfl, by decide +kernel⟩ ?hw ?hc
  case hw => w_witness2
  case hc =>
    refine DL.walk_seerE (l := PySem.Challenge.rw_twothick_k14_groups_of_mutual_reach) (n := 63) (k := 8) (x := "script") (CX := fun w => L2N.CX PySem.Challenge.rw_twothick_k14_groups_of_mutual_reach.prog w) rfl (by decide) (by kernel_rfl) ⟨rfl, by decide, by decide⟩ (by decide +kernel) ?F ?h
    case h =>
      rintro w H s e s' ⟨a, B, H', cls, d, rfl, x1, x2, x3, x4, x5, x6, hE⟩
      exact hE
    case F =>
      intro w mg fa h Y G hmg0
      obtain ⟨K, KX, c, cx⟩ := Y
      have hmg : mg ("law" : PySem.Str) = some (.ref fa) := by
        have e : (HandSHeadRun.topDef (OpenLaw.row PySem.Challenge.rw_twothick_k14_groups_of_mutual_reach).prog 34).name = ("law" : PySem.Str) := by kernel_rfl
        rw [← e]
        exact hmg0
      obtain ⟨A, fd, hb, hF⟩ := K14.ends (P := PySem.Challenge.rw_twothick_k14_groups_of_mutual_reach.prog) (w := w) KX G rfl hmg c cx
      exact ⟨K, fd, _, KX, hb, fun H a ns hl _ hs => DL.law_sp hl hs fun μ Q E h => ⟨ns, rfl, hl, h⟩, hF⟩
