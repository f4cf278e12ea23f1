import PyProof.Rows.All
import HandS.ForMost
import HandS.ForExc
import HandS.FStr
import HandS.Gcd
import HandS.Wide
import HandS.IsInst
import PySem.Challenge.RW_wholeworths_k85_whole_patterns_there_and
set_option Elab.async false
set_option linter.all false
set_option maxRecDepth 100000
set_option maxHeartbeats 1000000
/-! Ev0: data (D), how it lies in the abstract heap (Rp), configurations (Conf). -/
namespace Ev
open PySem L2

/-- a key of a dict -/
inductive Ky where
  | int (i : Int) | str (s : List Nat)
  deriving DecidableEq

/-- pure data; own: nobody else holds the object -/
inductive D where
  | non | bl (b : Bool) | int (i : Int) | str (s : List Nat)
  | tup (ds : List D)
  | lst (own : Bool) (ds : List D)
  | dct (own : Bool) (ks : List Ky) (ds : List D)
  | ins (own : Bool) (c : Nat) (ns : List Nat) (ds : List D)
  | scr (ds : List D)

def mkS (s : List Nat) : Str := ⟨s.toArray⟩
theorem mkS_toList (s : List Nat) : (mkS s).cps.toList = s := rfl
theorem mkS_length (s : List Nat) : (mkS s).length = s.length := by simp [mkS, Str.length]
def Ky.key : Ky → Key
  | .int i => .inl i
  | .str s => .inr (mkS s)

mutual
def frz : D → D
  | .non => .non
  | .bl b => .bl b
  | .int i => .int i
  | .str s => .str s
  | .tup ds => .tup (frzL ds)
  | .lst _ ds => .lst false (frzL ds)
  | .dct _ ks ds => .dct false ks (frzL ds)
  | .ins _ c ns ds => .ins false c ns (frzL ds)
  | .scr ds => .scr (frzL ds)
def frzL : List D → List D
  | [] => []
  | d :: ds => frz d :: frzL ds
end
theorem frzL_map : ∀ ds : List D, frzL ds = ds.map frz
  | [] => rfl
  | d :: ds => by rw [frzL, List.map_cons, frzL_map ds]
theorem frzL_length (ds : List D) : (frzL ds).length = ds.length := by rw [frzL_map, List.length_map]
mutual
theorem frz_idem : ∀ d : D, frz (frz d) = frz d
  | .non => rfl
  | .bl b => rfl
  | .int i => rfl
  | .str s => rfl
  | .tup ds => by simp only [frz, frzL_idem ds]
  | .lst _ ds => by simp only [frz, frzL_idem ds]
  | .dct _ ks ds => by simp only [frz, frzL_idem ds]
  | .ins _ c ns ds => by simp only [frz, frzL_idem ds]
  | .scr ds => by simp only [frz, frzL_idem ds]
theorem frzL_idem : ∀ ds : List D, frzL (frzL ds) = frzL ds
  | [] => rfl
  | d :: ds => by simp only [frzL, frz_idem d, frzL_idem ds]
end

/-- a list, a tuple of the written part -/
def KL (K : PySem.W.Frag) (a : Addr) (xs : List V) : Prop :=
  ∃ (o : Obj) (its : Array Value) (n : Nat), K.lookup a = some o ∧ o.cls = .type "list" ∧ o.dict = none ∧ o.data = .seq its n ∧ its.size ≤ sizeLine ∧ Vals xs its.toList
/-- the classes' addresses, the fields' names -/
structure Tb where
  cls : Nat → Addr
  fld : Nat → Str

section
variable (T : Tb) (K : PySem.W.Frag) (H : Hp)
mutual
/-- v lies in H as the data d; O counts (at least) the objects that are owned, F tells (at least) those that are not -/
def Rp : D → V → (Addr → Nat) → (Addr → Prop) → Prop
  | .non, v, _, _ => v = .non
  | .bl b, v, _, _ => v = .bl b
  | .int i, v, _, _ => v = .int i
  | .str s, v, _, _ => v = .str (mkS s)
  | .tup ds, v, O, F => ∃ a vs, v = .ref a ∧ SqT K H a vs ∧ RpL ds vs O F
  | .lst own ds, v, O, F => ∃ a vs, v = .ref a ∧ ∃ O1, RpL ds vs O1 F ∧
      ((own = true ∧ H a = some (.lst vs) ∧ ∀ b, O1 b + (if b = a then 1 else 0) ≤ O b) ∨
       (own = false ∧ H a = some (.lst vs) ∧ F a ∧ ∀ b, O1 b ≤ O b))
  | .dct own ks ds, v, O, F => ∃ a vs, v = .ref a ∧ ∃ O1, RpL ds vs O1 F ∧ ks.length = ds.length ∧ ks.Nodup ∧
      ((own = true ∧ H a = some (.dK ((ks.map Ky.key).zip vs)) ∧ ∀ b, O1 b + (if b = a then 1 else 0) ≤ O b) ∨
       (own = false ∧ H a = some (.dK ((ks.map Ky.key).zip vs)) ∧ F a ∧ ∀ b, O1 b ≤ O b))
  | .ins own c ns ds, v, O, F => ∃ a vs dx, v = .ref a ∧ ∃ O1, RpL ds vs O1 F ∧ ns.length = ds.length ∧ ns.Nodup ∧
      H a = some (.ins (T.cls c) dx ((ns.map T.fld).zip vs)) ∧
      ((own = true ∧ ∀ b, O1 b + (if b = a then 1 else 0) ≤ O b) ∨ (own = false ∧ F a ∧ ∀ b, O1 b ≤ O b))
  | .scr ds, v, O, F => ∃ a vs, v = .ref a ∧ (KL K a vs ∨ ∃ o, H a = some (.frz o (.lst vs))) ∧ RpL ds vs O F
def RpL : List D → List V → (Addr → Nat) → (Addr → Prop) → Prop
  | [], vs, _, _ => vs = []
  | d :: ds, vs, O, F => ∃ v r O1 O2, vs = v :: r ∧ Rp d v O1 F ∧ RpL ds r O2 F ∧ ∀ b, O1 b + O2 b ≤ O b
end
end
section
variable {T : Tb} {K : PySem.W.Frag} {H H' : Hp}
mutual
theorem Rp.mono : ∀ {d : D} {v : V} {O O' : Addr → Nat} {F F' : Addr → Prop}, Rp T K H d v O F → (∀ b, O b ≤ O' b) → (∀ b, F b → F' b) → Rp T K H d v O' F'
  | .non, _, _, _, _, _, h, _, _ => h
  | .bl _, _, _, _, _, _, h, _, _ => h
  | .int _, _, _, _, _, _, h, _, _ => h
  | .str _, _, _, _, _, _, h, _, _ => h
  | .tup ds, v, O, O', F, F', h, ho, hf => by
    unfold Rp at h ⊢
    obtain ⟨a, vs, e, hs, hr⟩ := h
    exact ⟨a, vs, e, hs, RpL.mono hr ho hf⟩
  | .lst own ds, v, O, O', F, F', h, ho, hf => by
    unfold Rp at h ⊢
    obtain ⟨a, vs, e, O1, hr, hs⟩ := h
    refine ⟨a, vs, e, O1, RpL.mono hr (fun _ => Nat.le_refl _) hf, ?_⟩
    rcases hs with ⟨h1, h2, h3⟩ | ⟨h1, h2, h3⟩
    · exact .inl ⟨h1, h2, fun b => Nat.le_trans (h3 b) (ho b)⟩
    · exact .inr ⟨h1, h2, hf _ h3.1, fun b => Nat.le_trans (h3.2 b) (ho b)⟩
  | .dct own ks ds, v, O, O', F, F', h, ho, hf => by
    unfold Rp at h ⊢
    obtain ⟨a, vs, e, O1, hr, hl, hn, hs⟩ := h
    refine ⟨a, vs, e, O1, RpL.mono hr (fun _ => Nat.le_refl _) hf, hl, hn, ?_⟩
    rcases hs with ⟨h1, h2, h3⟩ | ⟨h1, h2, h3⟩
    · exact .inl ⟨h1, h2, fun b => Nat.le_trans (h3 b) (ho b)⟩
    · exact .inr ⟨h1, h2, hf _ h3.1, fun b => Nat.le_trans (h3.2 b) (ho b)⟩
  | .ins own c ns ds, v, O, O', F, F', h, ho, hf => by
    unfold Rp at h ⊢
    obtain ⟨a, vs, dx, e, O1, hr, hl, hn, hs, hc⟩ := h
    refine ⟨a, vs, dx, e, O1, RpL.mono hr (fun _ => Nat.le_refl _) hf, hl, hn, hs, ?_⟩
    rcases hc with ⟨h1, h3⟩ | ⟨h1, h2, h3⟩
    · exact .inl ⟨h1, fun b => Nat.le_trans (h3 b) (ho b)⟩
    · exact .inr ⟨h1, hf _ h2, fun b => Nat.le_trans (h3 b) (ho b)⟩
  | .scr ds, v, O, O', F, F', h, ho, hf => by
    unfold Rp at h ⊢
    obtain ⟨a, vs, e, hs, hr⟩ := h
    exact ⟨a, vs, e, hs, RpL.mono hr ho hf⟩
theorem RpL.mono : ∀ {ds : List D} {vs : List V} {O O' : Addr → Nat} {F F' : Addr → Prop}, RpL T K H ds vs O F → (∀ b, O b ≤ O' b) → (∀ b, F b → F' b) → RpL T K H ds vs O' F'
  | [], _, _, _, _, _, h, _, _ => h
  | d :: ds, vs, O, O', F, F', h, ho, hf => by
    unfold RpL at h ⊢
    obtain ⟨v, r, O1, O2, e, h1, h2, h3⟩ := h
    exact ⟨v, r, O1, O2, e, Rp.mono h1 (fun _ => Nat.le_refl _) hf, RpL.mono h2 (fun _ => Nat.le_refl _) hf, fun b => Nat.le_trans (h3 b) (ho b)⟩
end
theorem RpL.length : ∀ {ds : List D} {vs : List V} {O : Addr → Nat} {F : Addr → Prop}, RpL T K H ds vs O F → vs.length = ds.length
  | [], _, _, _, h => by unfold RpL at h; rw [h]; rfl
  | d :: ds, vs, O, F, h => by
    unfold RpL at h
    obtain ⟨v, r, O1, O2, e, h1, h2, h3⟩ := h
    rw [e, List.length_cons, List.length_cons, h2.length]

/-- a tuple, locked or not -/
def TupLike : HO → Prop
  | .tup _ => True
  | .frz _ _ => True
  | _ => False
/-- what a datum leans on is kept -/
def Kept (H H' : Hp) (O : Addr → Nat) (F : Addr → Prop) : Prop := ∀ a u, H a = some u → (0 < O a ∨ F a ∨ TupLike u) → H' a = some u
theorem Kept.le {O O' : Addr → Nat} {F F' : Addr → Prop} (k : Kept H H' O' F') (ho : ∀ b, O b ≤ O' b) (hf : ∀ b, F b → F' b) : Kept H H' O F :=
  fun a u h x => k a u h (by
    rcases x with x | x | x
    · exact .inl (Nat.lt_of_lt_of_le x (ho a))
    · exact .inr (.inl (hf a x))
    · exact .inr (.inr x))
theorem sqT_keep {O : Addr → Nat} {F : Addr → Prop} {a : Addr} {vs : List V} (k : Kept H H' O F) (h : SqT K H a vs) : SqT K H' a vs := by
  rcases h with (h | ⟨o, h⟩) | h
  · exact .inl (.inl (k a _ h (.inr (.inr trivial))))
  · exact .inl (.inr ⟨o, k a _ h (.inr (.inr trivial))⟩)
  · exact .inr h
theorem rd_keep {O : Addr → Nat} {F : Addr → Prop} {a : Addr} {u : HO} (k : Kept H H' O F) (h : Rd H a u) (hf : F a) : Rd H' a u := by
  rcases h with h | ⟨o, h⟩
  · exact .inl (k a _ h (.inr (.inl hf)))
  · exact .inr ⟨o, k a _ h (.inr (.inl hf))⟩
mutual
theorem Rp.keep : ∀ {d : D} {v : V} {O : Addr → Nat} {F : Addr → Prop}, Rp T K H d v O F → Kept H H' O F → Rp T K H' d v O F
  | .non, _, _, _, h, _ => h
  | .bl _, _, _, _, h, _ => h
  | .int _, _, _, _, h, _ => h
  | .str _, _, _, _, h, _ => h
  | .tup ds, v, O, F, h, k => by
    unfold Rp at h ⊢
    obtain ⟨a, vs, e, hs, hr⟩ := h
    exact ⟨a, vs, e, sqT_keep k hs, RpL.keep hr k⟩
  | .lst own ds, v, O, F, h, k => by
    unfold Rp at h ⊢
    obtain ⟨a, vs, e, O1, hr, hs⟩ := h
    rcases hs with ⟨h1, h2, h3⟩ | ⟨h1, h2, h3⟩
    · refine ⟨a, vs, e, O1, RpL.keep hr (k.le (fun b => Nat.le_trans (Nat.le_add_right _ _) (h3 b)) fun _ z => z), .inl ⟨h1, k a _ h2 (.inl ?_), h3⟩⟩
      have := h3 a
      rw [if_pos rfl] at this
      omega
    · exact ⟨a, vs, e, O1, RpL.keep hr (k.le h3.2 fun _ z => z), .inr ⟨h1, k a _ h2 (.inr (.inl h3.1)), h3⟩⟩
  | .dct own ks ds, v, O, F, h, k => by
    unfold Rp at h ⊢
    obtain ⟨a, vs, e, O1, hr, hl, hn, hs⟩ := h
    rcases hs with ⟨h1, h2, h3⟩ | ⟨h1, h2, h3⟩
    · refine ⟨a, vs, e, O1, RpL.keep hr (k.le (fun b => Nat.le_trans (Nat.le_add_right _ _) (h3 b)) fun _ z => z), hl, hn, .inl ⟨h1, k a _ h2 (.inl ?_), h3⟩⟩
      have := h3 a
      rw [if_pos rfl] at this
      omega
    · exact ⟨a, vs, e, O1, RpL.keep hr (k.le h3.2 fun _ z => z), hl, hn, .inr ⟨h1, k a _ h2 (.inr (.inl h3.1)), h3⟩⟩
  | .ins own c ns ds, v, O, F, h, k => by
    unfold Rp at h ⊢
    obtain ⟨a, vs, dx, e, O1, hr, hl, hn, hs, hc⟩ := h
    rcases hc with ⟨h1, h3⟩ | ⟨h1, h2, h3⟩
    · refine ⟨a, vs, dx, e, O1, RpL.keep hr (k.le (fun b => Nat.le_trans (Nat.le_add_right _ _) (h3 b)) fun _ z => z), hl, hn, k a _ hs (.inl ?_), .inl ⟨h1, h3⟩⟩
      have := h3 a
      rw [if_pos rfl] at this
      omega
    · exact ⟨a, vs, dx, e, O1, RpL.keep hr (k.le h3 fun _ z => z), hl, hn, k a _ hs (.inr (.inl h2)), .inr ⟨h1, h2, h3⟩⟩
  | .scr ds, v, O, F, h, k => by
    unfold Rp at h ⊢
    obtain ⟨a, vs, e, hs, hr⟩ := h
    exact ⟨a, vs, e, hs.imp id (fun ⟨o, z⟩ => ⟨o, k a _ z (.inr (.inr trivial))⟩), RpL.keep hr k⟩
theorem RpL.keep : ∀ {ds : List D} {vs : List V} {O : Addr → Nat} {F : Addr → Prop}, RpL T K H ds vs O F → Kept H H' O F → RpL T K H' ds vs O F
  | [], _, _, _, h, _ => h
  | d :: ds, vs, O, F, h, k => by
    unfold RpL at h ⊢
    obtain ⟨v, r, O1, O2, e, h1, h2, h3⟩ := h
    exact ⟨v, r, O1, O2, e, Rp.keep h1 (k.le (fun b => by have := h3 b; omega) fun _ z => z), RpL.keep h2 (k.le (fun b => by have := h3 b; omega) fun _ z => z), h3⟩
end
mutual
theorem Rp.frz : ∀ {d : D} {v : V} {O : Addr → Nat} {F : Addr → Prop}, Rp T K H d v O F → Rp T K H (frz d) v (fun _ => 0) (fun b => F b ∨ 0 < O b)
  | .non, _, _, _, h => h
  | .bl _, _, _, _, h => h
  | .int _, _, _, _, h => h
  | .str _, _, _, _, h => h
  | .tup ds, v, O, F, h => by
    unfold Rp at h
    show Rp T K H (.tup (frzL ds)) _ _ _
    unfold Rp
    obtain ⟨a, vs, e, hs, hr⟩ := h
    exact ⟨a, vs, e, hs, RpL.frz hr⟩
  | .lst own ds, v, O, F, h => by
    unfold Rp at h
    show Rp T K H (.lst false (frzL ds)) _ _ _
    unfold Rp
    obtain ⟨a, vs, e, O1, hr, hs⟩ := h
    rcases hs with ⟨h1, h2, h3⟩ | ⟨h1, h2, h3⟩
    · refine ⟨a, vs, e, fun _ => 0, (RpL.frz hr).mono (fun _ => Nat.le_refl _) (fun b z => z.imp id fun z => ?_), .inr ⟨rfl, h2, .inr ?_, fun _ => Nat.le_refl _⟩⟩
      · have := h3 b; omega
      · have := h3 a
        rw [if_pos rfl] at this
        omega
    · refine ⟨a, vs, e, fun _ => 0, (RpL.frz hr).mono (fun _ => Nat.le_refl _) (fun b z => z.imp id fun z => ?_), .inr ⟨rfl, h2, .inl h3.1, fun _ => Nat.le_refl _⟩⟩
      have := h3.2 b; omega
  | .dct own ks ds, v, O, F, h => by
    unfold Rp at h
    show Rp T K H (.dct false ks (frzL ds)) _ _ _
    unfold Rp
    obtain ⟨a, vs, e, O1, hr, hl, hn, hs⟩ := h
    rcases hs with ⟨h1, h2, h3⟩ | ⟨h1, h2, h3⟩
    · refine ⟨a, vs, e, fun _ => 0, (RpL.frz hr).mono (fun _ => Nat.le_refl _) (fun b z => z.imp id fun z => ?_), by rw [frzL_length]; exact hl, hn, .inr ⟨rfl, h2, .inr ?_, fun _ => Nat.le_refl _⟩⟩
      · have := h3 b; omega
      · have := h3 a
        rw [if_pos rfl] at this
        omega
    · refine ⟨a, vs, e, fun _ => 0, (RpL.frz hr).mono (fun _ => Nat.le_refl _) (fun b z => z.imp id fun z => ?_), by rw [frzL_length]; exact hl, hn, .inr ⟨rfl, h2, .inl h3.1, fun _ => Nat.le_refl _⟩⟩
      have := h3.2 b; omega
  | .ins own c ns ds, v, O, F, h => by
    unfold Rp at h
    show Rp T K H (.ins false c ns (frzL ds)) _ _ _
    unfold Rp
    obtain ⟨a, vs, dx, e, O1, hr, hl, hn, hs, hc⟩ := h
    rcases hc with ⟨h1, h3⟩ | ⟨h1, h2, h3⟩
    · refine ⟨a, vs, dx, e, fun _ => 0, (RpL.frz hr).mono (fun _ => Nat.le_refl _) (fun b z => z.imp id fun z => ?_), by rw [frzL_length]; exact hl, hn, hs, .inr ⟨rfl, .inr ?_, fun _ => Nat.le_refl _⟩⟩
      · have := h3 b; omega
      · have := h3 a
        rw [if_pos rfl] at this
        omega
    · refine ⟨a, vs, dx, e, fun _ => 0, (RpL.frz hr).mono (fun _ => Nat.le_refl _) (fun b z => z.imp id fun z => ?_), by rw [frzL_length]; exact hl, hn, hs, .inr ⟨rfl, .inl h2, fun _ => Nat.le_refl _⟩⟩
      have := h3 b; omega
  | .scr ds, v, O, F, h => by
    unfold Rp at h
    show Rp T K H (.scr (frzL ds)) _ _ _
    unfold Rp
    obtain ⟨a, vs, e, hs, hr⟩ := h
    exact ⟨a, vs, e, hs, RpL.frz hr⟩
theorem RpL.frz : ∀ {ds : List D} {vs : List V} {O : Addr → Nat} {F : Addr → Prop}, RpL T K H ds vs O F → RpL T K H (frzL ds) vs (fun _ => 0) (fun b => F b ∨ 0 < O b)
  | [], _, _, _, h => h
  | d :: ds, vs, O, F, h => by
    unfold RpL at h
    show RpL T K H (Ev.frz d :: frzL ds) _ _ _
    unfold RpL
    obtain ⟨v, r, O1, O2, e, h1, h2, h3⟩ := h
    exact ⟨v, r, fun _ => 0, fun _ => 0, e, (Rp.frz h1).mono (fun _ => Nat.le_refl _) (fun b z => z.imp id fun z => by have := h3 b; omega),
      (RpL.frz h2).mono (fun _ => Nat.le_refl _) (fun b z => z.imp id fun z => by have := h3 b; omega), fun _ => Nat.le_refl _⟩
end
end

/-! ### configurations: values with their data -/
abbrev Root := V × D
section
variable (T : Tb) (K : PySem.W.Frag) (H : Hp)
def RpR : List Root → (Addr → Nat) → (Addr → Prop) → Prop
  | [], _, _ => True
  | x :: rs, O, F => ∃ O1 O2, Rp T K H x.2 x.1 O1 F ∧ RpR rs O2 F ∧ ∀ b, O1 b + O2 b ≤ O b
def Conf (rs : List Root) : Prop := ∃ O F, RpR T K H rs O F ∧ ∀ b, O b ≤ 1 ∧ (0 < O b → ¬ F b)
end
section
variable {T : Tb} {K : PySem.W.Frag} {H H' : Hp} {A B R R' : List Root} {v w x : V} {d e : D}
theorem RpR.mono : ∀ {rs : List Root} {O O' : Addr → Nat} {F F' : Addr → Prop}, RpR T K H rs O F → (∀ b, O b ≤ O' b) → (∀ b, F b → F' b) → RpR T K H rs O' F'
  | [], _, _, _, _, h, _, _ => h
  | x :: rs, O, O', F, F', h, ho, hf => by
    obtain ⟨O1, O2, h1, h2, h3⟩ := h
    exact ⟨O1, O2, h1.mono (fun _ => Nat.le_refl _) hf, RpR.mono h2 (fun _ => Nat.le_refl _) hf, fun b => Nat.le_trans (h3 b) (ho b)⟩
theorem RpR.keep : ∀ {rs : List Root} {O : Addr → Nat} {F : Addr → Prop}, RpR T K H rs O F → Kept H H' O F → RpR T K H' rs O F
  | [], _, _, h, _ => h
  | x :: rs, O, F, h, k => by
    obtain ⟨O1, O2, h1, h2, h3⟩ := h
    exact ⟨O1, O2, h1.keep (k.le (fun b => by have := h3 b; omega) fun _ z => z), RpR.keep h2 (k.le (fun b => by have := h3 b; omega) fun _ z => z), h3⟩
theorem RpR.append : ∀ {A B : List Root} {O1 O2 O : Addr → Nat} {F : Addr → Prop}, RpR T K H A O1 F → RpR T K H B O2 F → (∀ b, O1 b + O2 b ≤ O b) → RpR T K H (A ++ B) O F
  | [], B, O1, O2, O, F, _, h, hl => h.mono (fun b => by have := hl b; omega) fun _ z => z
  | x :: A, B, O1, O2, O, F, h, h', hl => by
    obtain ⟨P1, P2, h1, h2, h3⟩ := h
    exact ⟨P1, fun b => P2 b + O2 b, h1, RpR.append h2 h' (fun _ => Nat.le_refl _), fun b => by have := hl b; have := h3 b; show P1 b + (P2 b + O2 b) ≤ O b; omega⟩
theorem RpR.split : ∀ {A B : List Root} {O : Addr → Nat} {F : Addr → Prop}, RpR T K H (A ++ B) O F → ∃ O1 O2, RpR T K H A O1 F ∧ RpR T K H B O2 F ∧ ∀ b, O1 b + O2 b ≤ O b
  | [], B, O, F, h => ⟨fun _ => 0, O, trivial, h, fun b => by show 0 + O b ≤ O b; omega⟩
  | x :: A, B, O, F, h => by
    obtain ⟨P1, P2, h1, h2, h3⟩ := h
    obtain ⟨Q1, Q2, g1, g2, g3⟩ := RpR.split h2
    exact ⟨fun b => P1 b + Q1 b, Q2, ⟨P1, Q1, h1, g1, fun _ => Nat.le_refl _⟩, g2, fun b => by have := h3 b; have := g3 b; show P1 b + Q1 b + Q2 b ≤ O b; omega⟩
theorem RpR.perm {A B : List Root} (p : A.Perm B) : ∀ {O : Addr → Nat} {F : Addr → Prop}, RpR T K H A O F → RpR T K H B O F := by
  induction p with
  | nil => intro O F h; exact h
  | cons x _ ih =>
    intro O F h
    obtain ⟨P1, P2, h1, h2, h3⟩ := h
    exact ⟨P1, P2, h1, ih h2, h3⟩
  | swap x y l =>
    intro O F h
    obtain ⟨P1, P2, h1, ⟨P3, P4, g1, g2, g3⟩, h3⟩ := h
    exact ⟨P3, fun b => P1 b + P4 b, g1, ⟨P1, P4, h1, g2, fun _ => Nat.le_refl _⟩, fun b => by have := h3 b; have := g3 b; show P3 b + (P1 b + P4 b) ≤ O b; omega⟩
  | trans _ _ ih1 ih2 => intro O F h; exact ih2 (ih1 h)
theorem Conf.perm (c : Conf T K H A) (p : A.Perm B) : Conf T K H B := by
  obtain ⟨O, F, h, k⟩ := c
  exact ⟨O, F, h.perm p, k⟩
theorem Conf.keepR (c : Conf T K H (A ++ B)) : Conf T K H B := by
  obtain ⟨O, F, h, k⟩ := c
  obtain ⟨O1, O2, _, h2, h3⟩ := h.split
  exact ⟨O2, F, h2, fun b => by have := h3 b; have := k b; exact ⟨by omega, fun z => this.2 (by omega)⟩⟩
theorem Conf.keepL (c : Conf T K H (A ++ B)) : Conf T K H A := (c.perm List.perm_append_comm).keepR
theorem Conf.tail {x : Root} (c : Conf T K H (x :: B)) : Conf T K H B := Conf.keepR (A := [x]) c
theorem Conf.nil : Conf T K H [] := ⟨fun _ => 0, fun _ => False, trivial, fun _ => ⟨Nat.zero_le _, fun _ z => z⟩⟩
/-- the frame's place -/
theorem Conf.mv (c : Conf T K H (A ++ (B ++ R))) : Conf T K H (B ++ (A ++ R)) := c.perm (by
  rw [← List.append_assoc, ← List.append_assoc]
  exact List.perm_append_comm.append_right R)
theorem Conf.mv1 {x : Root} (c : Conf T K H (x :: (B ++ R))) : Conf T K H (B ++ (x :: R)) := c.perm List.perm_middle.symm
theorem Conf.bk1 {x : Root} (c : Conf T K H (B ++ (x :: R))) : Conf T K H (x :: (B ++ R)) := c.perm List.perm_middle
theorem Conf.swap {x y : Root} (c : Conf T K H (x :: y :: R)) : Conf T K H (y :: x :: R) := c.perm (List.Perm.swap y x R)
/-- under one root -/
theorem Conf.bk2 {x y : Root} (c : Conf T K H (y :: (B ++ (x :: R)))) : Conf T K H (y :: x :: (B ++ R)) := c.perm (List.Perm.cons y List.perm_middle)
/-- a new address -/
theorem Conf.upd {p : Addr} {o : HO} (c : Conf T K H A) (h : H p = none) : Conf T K (upd H p o) A := by
  obtain ⟨O, F, r, k⟩ := c
  refine ⟨O, F, r.keep fun a u e _ => ?_, k⟩
  rw [upd_ne (ne_of_none e h)]
  exact e
/-- data without objects -/
def Sca : D → Bool
  | .non => true
  | .bl _ => true
  | .int _ => true
  | .str _ => true
  | _ => false
def scaV : D → V
  | .non => .non
  | .bl b => .bl b
  | .int i => .int i
  | .str s => .str (mkS s)
  | _ => .non
theorem Rp.sca {O : Addr → Nat} {F : Addr → Prop} (h : Sca d = true) : Rp T K H d (scaV d) O F := by
  cases d <;> first | (unfold Rp; rfl) | (exact nomatch h)
theorem Rp.sca_eq {O : Addr → Nat} {F : Addr → Prop} (r : Rp T K H d v O F) (h : Sca d = true) : v = scaV d := by
  cases d <;> first | (unfold Rp at r; exact r) | (exact nomatch h)
theorem Conf.sca (c : Conf T K H A) (h : Sca d = true) : Conf T K H ((scaV d, d) :: A) := by
  obtain ⟨O, F, r, k⟩ := c
  exact ⟨O, F, ⟨fun _ => 0, O, Rp.sca h, r, fun b => by show 0 + O b ≤ O b; omega⟩, k⟩
theorem Conf.sca_eq (c : Conf T K H ((v, d) :: A)) (h : Sca d = true) : v = scaV d := by
  obtain ⟨O, F, ⟨O1, O2, r, _, _⟩, k⟩ := c
  exact r.sca_eq h
theorem frz_sca (h : Sca d = true) : frz d = d := by cases d <;> first | rfl | exact nomatch h
theorem Conf.frz (c : Conf T K H ((v, d) :: A)) : Conf T K H ((v, frz d) :: A) := by
  obtain ⟨O, F, ⟨O1, O2, r, s, l⟩, k⟩ := c
  refine ⟨O2, fun b => F b ∨ 0 < O1 b, ⟨fun _ => 0, O2, r.frz, s.mono (fun _ => Nat.le_refl _) (fun _ z => .inl z), fun b => by show 0 + O2 b ≤ O2 b; omega⟩, fun b => ?_⟩
  have h1 := l b
  have h2 := k b
  refine ⟨by omega, fun z q => ?_⟩
  rcases q with q | q
  · exact h2.2 (by omega) q
  · omega
theorem Conf.dup (c : Conf T K H ((v, Ev.frz d) :: A)) : Conf T K H ((v, Ev.frz d) :: (v, Ev.frz d) :: A) := by
  obtain ⟨O, F, ⟨O1, O2, r, s, l⟩, k⟩ := c
  have r' := r.frz
  rw [frz_idem] at r'
  refine ⟨O2, fun b => F b ∨ 0 < O1 b, ⟨fun _ => 0, O2, r', ⟨fun _ => 0, O2, r', s.mono (fun _ => Nat.le_refl _) (fun _ z => .inl z), fun b => by show 0 + O2 b ≤ O2 b; omega⟩, fun b => by show 0 + O2 b ≤ O2 b; omega⟩, fun b => ?_⟩
  have h1 := l b
  have h2 := k b
  refine ⟨by omega, fun z q => ?_⟩
  rcases q with q | q
  · exact h2.2 (by omega) q
  · omega
/-- frozen, and once more -/
theorem Conf.share (c : Conf T K H ((v, d) :: A)) : Conf T K H ((v, Ev.frz d) :: (v, Ev.frz d) :: A) := c.frz.dup

/-! ### lists of roots -/
def zipR (vs : List V) (ds : List D) : List Root := vs.zip ds
theorem RpL.roots : ∀ {ds : List D} {vs : List V} {O : Addr → Nat} {F : Addr → Prop}, RpL T K H ds vs O F → RpR T K H (zipR vs ds) O F
  | [], vs, O, F, h => by
    unfold RpL at h
    subst h
    trivial
  | d :: ds, vs, O, F, h => by
    unfold RpL at h
    obtain ⟨v, r, O1, O2, e, h1, h2, h3⟩ := h
    subst e
    exact ⟨O1, O2, h1, h2.roots, h3⟩
theorem RpL.of_roots : ∀ {ds : List D} {vs : List V} {O : Addr → Nat} {F : Addr → Prop}, RpR T K H (zipR vs ds) O F → vs.length = ds.length → RpL T K H ds vs O F
  | [], vs, O, F, h, hl => by
    unfold RpL
    exact List.eq_nil_of_length_eq_zero hl
  | d :: ds, [], O, F, h, hl => by simp at hl
  | d :: ds, v :: vs, O, F, h, hl => by
    unfold RpL
    obtain ⟨O1, O2, h1, h2, h3⟩ := h
    exact ⟨v, vs, O1, O2, rfl, h1, RpL.of_roots h2 (by simpa using hl), h3⟩
/-- a tuple is made -/
theorem Conf.mkTup {vs : List V} {ds : List D} {p : Addr} (c : Conf T K H (zipR vs ds ++ R)) (hl : vs.length = ds.length) (hp : H p = none) : Conf T K (L2.upd H p (.tup vs)) ((.ref p, .tup ds) :: R) := by
  obtain ⟨O, F, h, k⟩ := c.upd (o := .tup vs) hp
  obtain ⟨O1, O2, h1, h2, h3⟩ := h.split
  refine ⟨O, F, ⟨O1, O2, ?_, h2, h3⟩, k⟩
  show Rp T K _ (.tup ds) _ _ _
  unfold Rp
  exact ⟨p, vs, rfl, .inl (.inl upd_same), RpL.of_roots h1 hl⟩
/-- a tuple of values that stand is taken apart -/
theorem Conf.tup {ds : List D} (c : Conf T K H ((v, .tup ds) :: R)) : ∃ a vs, v = .ref a ∧ SqT K H a vs ∧ vs.length = ds.length ∧ Conf T K H (zipR vs ds ++ R) := by
  obtain ⟨O, F, ⟨O1, O2, r, h2, h3⟩, k⟩ := c
  have r : Rp T K H (.tup ds) v O1 F := r
  unfold Rp at r
  obtain ⟨a, vs, e, hs, hr⟩ := r
  exact ⟨a, vs, e, hs, hr.length, O, F, RpR.append hr.roots h2 h3, k⟩
/-- .. and put together again -/
theorem Conf.tupBack {ds : List D} {vs : List V} {a : Addr} (c : Conf T K H (zipR vs ds ++ R)) (hs : SqT K H a vs) (hl : vs.length = ds.length) : Conf T K H ((.ref a, .tup ds) :: R) := by
  obtain ⟨O, F, h, k⟩ := c
  obtain ⟨O1, O2, h1, h2, h3⟩ := h.split
  refine ⟨O, F, ⟨O1, O2, ?_, h2, h3⟩, k⟩
  show Rp T K _ (.tup ds) _ _ _
  unfold Rp
  exact ⟨a, vs, rfl, hs, RpL.of_roots h1 hl⟩
/-- nothing at p is leant on -/
def ConfX (T : Tb) (K : PySem.W.Frag) (H : Hp) (p : Addr) (rs : List Root) : Prop := ∃ O F, RpR T K H rs O F ∧ (∀ b, O b ≤ 1 ∧ (0 < O b → ¬ F b)) ∧ O p = 0 ∧ ¬ F p
theorem ConfX.perm {p : Addr} (c : ConfX T K H p A) (q : A.Perm B) : ConfX T K H p B := by
  obtain ⟨O, F, h, k⟩ := c
  exact ⟨O, F, h.perm q, k⟩
theorem ConfX.conf {p : Addr} (c : ConfX T K H p A) : Conf T K H A := by
  obtain ⟨O, F, h, k, _⟩ := c
  exact ⟨O, F, h, k⟩
theorem ConfX.keepR {p : Addr} (c : ConfX T K H p (A ++ B)) : ConfX T K H p B := by
  obtain ⟨O, F, h, k, z, n⟩ := c
  obtain ⟨O1, O2, _, h2, h3⟩ := h.split
  exact ⟨O2, F, h2, fun b => by have := h3 b; have := k b; exact ⟨by omega, fun z => this.2 (by omega)⟩, by have := h3 p; omega, n⟩
theorem ConfX.frz {p : Addr} (c : ConfX T K H p ((v, d) :: A)) : ConfX T K H p ((v, Ev.frz d) :: A) := by
  obtain ⟨O, F, ⟨O1, O2, r, s, l⟩, k, z, n⟩ := c
  refine ⟨O2, fun b => F b ∨ 0 < O1 b, ⟨fun _ => 0, O2, r.frz, s.mono (fun _ => Nat.le_refl _) (fun _ z => .inl z), fun b => by show 0 + O2 b ≤ O2 b; omega⟩, fun b => ?_, by have := l p; omega, fun q => ?_⟩
  · have h1 := l b
    have h2 := k b
    refine ⟨by omega, fun z q => ?_⟩
    rcases q with q | q
    · exact h2.2 (by omega) q
    · omega
  · rcases q with q | q
    · exact n q
    · have := l p; omega
theorem ConfX.dup {p : Addr} (c : ConfX T K H p ((v, Ev.frz d) :: A)) : ConfX T K H p ((v, Ev.frz d) :: (v, Ev.frz d) :: A) := by
  obtain ⟨O, F, ⟨O1, O2, r, s, l⟩, k, z, n⟩ := c
  have r' := r.frz
  rw [frz_idem] at r'
  refine ⟨O2, fun b => F b ∨ 0 < O1 b, ⟨fun _ => 0, O2, r', ⟨fun _ => 0, O2, r', s.mono (fun _ => Nat.le_refl _) (fun _ z => .inl z), fun b => by show 0 + O2 b ≤ O2 b; omega⟩, fun b => by show 0 + O2 b ≤ O2 b; omega⟩, fun b => ?_, by have := l p; omega, fun q => ?_⟩
  · have h1 := l b
    have h2 := k b
    refine ⟨by omega, fun z q => ?_⟩
    rcases q with q | q
    · exact h2.2 (by omega) q
    · omega
  · rcases q with q | q
    · exact n q
    · have := l p; omega
/-- an owned object may be changed: what is beside it does not lean on it -/
theorem ConfX.put {p : Addr} {o : HO} (c : ConfX T K H p A) (h : ∀ u, H p = some u → ¬ TupLike u) : ConfX T K (L2.upd H p o) p A := by
  obtain ⟨O, F, r, k, z, n⟩ := c
  refine ⟨O, F, r.keep fun a u e q => ?_, k, z, n⟩
  rw [upd_ne]
  · exact e
  · intro q'
    subst q'
    rcases q with q | q | q
    · omega
    · exact n q
    · exact h u e q

/-- the counts are of what stands -/
def tiO (H : Hp) (O : Addr → Nat) : Addr → Nat := fun b => if (H b).isSome then O b else 0
def tiF (H : Hp) (F : Addr → Prop) : Addr → Prop := fun b => (H b).isSome ∧ F b
theorem tiO_le {O1 O : Addr → Nat} (h : ∀ b, O1 b ≤ O b) : ∀ b, tiO H O1 b ≤ tiO H O b := fun b => by unfold tiO; split; exact h b; exact Nat.le_refl _
theorem tiO_two {O1 O2 O : Addr → Nat} (h : ∀ b, O1 b + O2 b ≤ O b) : ∀ b, tiO H O1 b + tiO H O2 b ≤ tiO H O b := fun b => by unfold tiO; split; exact h b; exact Nat.le_refl _
theorem tiO_one {O1 O : Addr → Nat} {a : Addr} {u : HO} (e : H a = some u) (h : ∀ b, O1 b + (if b = a then 1 else 0) ≤ O b) : ∀ b, tiO H O1 b + (if b = a then 1 else 0) ≤ tiO H O b := fun b => by
  unfold tiO
  split
  · exact h b
  · rename_i hn
    by_cases hb : b = a
    · subst hb; rw [e] at hn; exact absurd rfl hn
    · rw [if_neg hb]; exact Nat.le_refl _
theorem Rd.there {a : Addr} {u : HO} (h : Rd H a u) : (H a).isSome = true := by
  rcases h with h | ⟨o, h⟩ <;> rw [h] <;> rfl
mutual
theorem Rp.tight : ∀ {d : D} {v : V} {O : Addr → Nat} {F : Addr → Prop}, Rp T K H d v O F → Rp T K H d v (tiO H O) (tiF H F)
  | .non, _, _, _, h => h
  | .bl _, _, _, _, h => h
  | .int _, _, _, _, h => h
  | .str _, _, _, _, h => h
  | .tup ds, v, O, F, h => by
    unfold Rp at h ⊢
    obtain ⟨a, vs, e, hs, hr⟩ := h
    exact ⟨a, vs, e, hs, RpL.tight hr⟩
  | .lst own ds, v, O, F, h => by
    unfold Rp at h ⊢
    obtain ⟨a, vs, e, O1, hr, hs⟩ := h
    refine ⟨a, vs, e, tiO H O1, RpL.tight hr, ?_⟩
    rcases hs with ⟨h1, h2, h3⟩ | ⟨h1, h2, h3⟩
    · exact .inl ⟨h1, h2, tiO_one h2 h3⟩
    · exact .inr ⟨h1, h2, ⟨by rw [h2]; rfl, h3.1⟩, tiO_le h3.2⟩
  | .dct own ks ds, v, O, F, h => by
    unfold Rp at h ⊢
    obtain ⟨a, vs, e, O1, hr, hl, hn, hs⟩ := h
    refine ⟨a, vs, e, tiO H O1, RpL.tight hr, hl, hn, ?_⟩
    rcases hs with ⟨h1, h2, h3⟩ | ⟨h1, h2, h3⟩
    · exact .inl ⟨h1, h2, tiO_one h2 h3⟩
    · exact .inr ⟨h1, h2, ⟨by rw [h2]; rfl, h3.1⟩, tiO_le h3.2⟩
  | .ins own c ns ds, v, O, F, h => by
    unfold Rp at h ⊢
    obtain ⟨a, vs, dx, e, O1, hr, hl, hn, hs, hc⟩ := h
    refine ⟨a, vs, dx, e, tiO H O1, RpL.tight hr, hl, hn, hs, ?_⟩
    rcases hc with ⟨h1, h3⟩ | ⟨h1, h2, h3⟩
    · exact .inl ⟨h1, tiO_one hs h3⟩
    · exact .inr ⟨h1, ⟨by rw [hs]; rfl, h2⟩, tiO_le h3⟩
  | .scr ds, v, O, F, h => by
    unfold Rp at h ⊢
    obtain ⟨a, vs, e, hs, hr⟩ := h
    exact ⟨a, vs, e, hs, RpL.tight hr⟩
theorem RpL.tight : ∀ {ds : List D} {vs : List V} {O : Addr → Nat} {F : Addr → Prop}, RpL T K H ds vs O F → RpL T K H ds vs (tiO H O) (tiF H F)
  | [], _, _, _, h => h
  | d :: ds, vs, O, F, h => by
    unfold RpL at h ⊢
    obtain ⟨v, r, O1, O2, e, h1, h2, h3⟩ := h
    exact ⟨v, r, tiO H O1, tiO H O2, e, Rp.tight h1, RpL.tight h2, tiO_two h3⟩
end
theorem RpR.tight : ∀ {rs : List Root} {O : Addr → Nat} {F : Addr → Prop}, RpR T K H rs O F → RpR T K H rs (tiO H O) (tiF H F)
  | [], _, _, h => h
  | x :: rs, O, F, h => by
    obtain ⟨O1, O2, h1, h2, h3⟩ := h
    exact ⟨tiO H O1, tiO H O2, h1.tight, h2.tight, tiO_two h3⟩
/-- a new address is beside all -/
theorem Conf.fresh {p : Addr} (c : Conf T K H A) (hp : H p = none) : ConfX T K H p A := by
  obtain ⟨O, F, h, k⟩ := c
  refine ⟨tiO H O, tiF H F, h.tight, fun b => ⟨?_, fun z q => ?_⟩, ?_, fun q => ?_⟩
  · unfold tiO
    split
    · exact (k b).1
    · exact Nat.zero_le _
  · unfold tiO at z
    split at z
    · exact (k b).2 z q.2
    · omega
  · unfold tiO
    rw [hp]
    rfl
  · have := q.1
    rw [hp] at this
    exact nomatch this
/-- a list that nothing leans on, of values with their data -/
theorem ConfX.mkLst {vs : List V} {ds : List D} {p : Addr} (c : ConfX T K H p (zipR vs ds ++ R)) (hl : vs.length = ds.length) (hp : H p = some (.lst vs)) : Conf T K H ((.ref p, .lst true ds) :: R) := by
  obtain ⟨O, F, h, k, z, n⟩ := c
  obtain ⟨O1, O2, h1, h2, h3⟩ := h.split
  refine ⟨fun b => O b + if b = p then 1 else 0, F, ⟨fun b => O1 b + if b = p then 1 else 0, O2, ?_, h2, fun b => by have := h3 b; show O1 b + _ + O2 b ≤ O b + _; omega⟩, fun b => ?_⟩
  · show Rp T K _ (.lst true ds) _ _ _
    unfold Rp
    exact ⟨p, vs, rfl, O1, RpL.of_roots h1 hl, .inl ⟨rfl, hp, fun _ => Nat.le_refl _⟩⟩
  · show O b + _ ≤ 1 ∧ (0 < O b + _ → _)
    by_cases hb : b = p
    · subst hb
      rw [if_pos rfl, z]
      exact ⟨Nat.le_refl _, fun _ => n⟩
    · rw [if_neg hb]
      exact k b
/-- a new list -/
theorem Conf.newLst {vs : List V} {ds : List D} {p : Addr} (c : Conf T K H (zipR vs ds ++ R)) (hl : vs.length = ds.length) (hp : H p = none) : Conf T K (L2.upd H p (.lst vs)) ((.ref p, .lst true ds) :: R) :=
  ((c.fresh hp).put fun u e => by rw [hp] at e; exact nomatch e).mkLst hl upd_same
/-- an owned list is opened -/
theorem Conf.lstX {ds : List D} (c : Conf T K H ((v, .lst true ds) :: R)) : ∃ a vs, v = .ref a ∧ H a = some (.lst vs) ∧ vs.length = ds.length ∧ ConfX T K H a (zipR vs ds ++ R) := by
  obtain ⟨O, F, ⟨O1, O2, r, h2, h3⟩, k⟩ := c
  have r : Rp T K H (.lst true ds) v O1 F := r
  unfold Rp at r
  obtain ⟨a, vs, e, P, hr, hs⟩ := r
  rcases hs with ⟨_, ha, hl⟩ | ⟨z, _⟩
  · refine ⟨a, vs, e, ha, hr.length, fun b => O1 b - (if b = a then 1 else 0) + O2 b, F, RpR.append (O1 := P) (O2 := O2) hr.roots h2 (fun b => ?_), fun b => ?_, ?_, ?_⟩
    · have := hl b
      show P b + O2 b ≤ O1 b - _ + O2 b
      omega
    · have h4 := h3 b
      have h5 := k b
      show O1 b - _ + O2 b ≤ 1 ∧ (0 < O1 b - _ + O2 b → _)
      exact ⟨by omega, fun z => h5.2 (by omega)⟩
    · have h4 := h3 a
      have h5 := (k a).1
      have h6 := hl a
      show O1 a - (if a = a then 1 else 0) + O2 a = 0
      rw [if_pos rfl] at h6 ⊢
      omega
    · have h4 := h3 a
      have h6 := hl a
      rw [if_pos rfl] at h6
      exact (k a).2 (by omega)
  · exact nomatch z
/-- any list: its place, its items -/
theorem Conf.lst {own : Bool} {ds : List D} (c : Conf T K H ((v, .lst own ds) :: R)) : ∃ a vs, v = .ref a ∧ H a = some (.lst vs) ∧ vs.length = ds.length ∧ Conf T K H (zipR vs ds ++ R) := by
  obtain ⟨O, F, ⟨O1, O2, r, h2, h3⟩, k⟩ := c
  have r : Rp T K H (.lst own ds) v O1 F := r
  unfold Rp at r
  obtain ⟨a, vs, e, P, hr, hs⟩ := r
  have hP : ∀ b, P b ≤ O1 b := by
    rcases hs with ⟨_, _, hl⟩ | ⟨_, _, _, hl⟩
    · exact fun b => Nat.le_trans (Nat.le_add_right _ _) (hl b)
    · exact hl
  refine ⟨a, vs, e, ?_, hr.length, O, F, RpR.append hr.roots h2 (fun b => by have := hP b; have := h3 b; omega), k⟩
  rcases hs with ⟨_, ha, _⟩ | ⟨_, ha, _⟩
  · exact ha
  · exact ha
/-- the items' data frozen, the list as it is: the list and its items -/
theorem Conf.lstShare {own : Bool} {ds : List D} (c : Conf T K H ((v, .lst own ds) :: R)) : ∃ a vs, v = .ref a ∧ H a = some (.lst vs) ∧ vs.length = ds.length ∧ Conf T K H (zipR vs (frzL ds) ++ ((v, .lst own (frzL ds)) :: R)) := by
  obtain ⟨O, F, ⟨O1, O2, r, h2, h3⟩, k⟩ := c
  have r : Rp T K H (.lst own ds) v O1 F := r
  unfold Rp at r
  obtain ⟨a, vs, e, P, hr, hs⟩ := r
  have hP : ∀ b, P b ≤ O1 b := by
    rcases hs with ⟨_, _, hl⟩ | ⟨_, _, _, hl⟩
    · exact fun b => Nat.le_trans (Nat.le_add_right _ _) (hl b)
    · exact hl
  have hf := hr.frz
  have hf0 : RpR T K H (zipR vs (frzL ds)) (fun _ => 0) (fun b => F b ∨ 0 < P b) := hf.roots
  have hq : H a = some (.lst vs) := by
    rcases hs with ⟨_, ha, _⟩ | ⟨_, ha, _⟩
    · exact ha
    · exact ha
  refine ⟨a, vs, e, hq, hr.length, fun b => O1 b - P b + O2 b, fun b => F b ∨ 0 < P b, RpR.append (O1 := fun _ => 0) (O2 := fun b => O1 b - P b + O2 b) hf0 ⟨fun b => O1 b - P b, O2, ?_, h2.mono (fun _ => Nat.le_refl _) (fun _ z => .inl z), fun _ => Nat.le_refl _⟩ (fun b => by show 0 + _ ≤ _; omega), fun b => ?_⟩
  · show Rp T K H (.lst own (frzL ds)) v _ _
    unfold Rp
    refine ⟨a, vs, e, fun _ => 0, hf, ?_⟩
    rcases hs with ⟨h5, ha, hl⟩ | ⟨h5, ha, hF, hl⟩
    · exact .inl ⟨h5, ha, fun b => by have := hl b; show 0 + _ ≤ O1 b - P b; omega⟩
    · exact .inr ⟨h5, ha, .inl hF, fun b => Nat.zero_le _⟩
  · have h4 := h3 b
    have h5 := k b
    have h6 := hP b
    show O1 b - P b + O2 b ≤ 1 ∧ (0 < O1 b - P b + O2 b → ¬ (F b ∨ 0 < P b))
    refine ⟨by omega, fun z q => ?_⟩
    rcases q with q | q
    · exact h5.2 (by omega) q
    · omega
/-- a locked list -/
theorem Conf.scr {ds : List D} (c : Conf T K H ((v, .scr ds) :: R)) : ∃ a vs, v = .ref a ∧ SqL K H a vs ∧ vs.length = ds.length ∧ Conf T K H (zipR vs ds ++ R) := by
  obtain ⟨O, F, ⟨O1, O2, r, h2, h3⟩, k⟩ := c
  have r : Rp T K H (.scr ds) v O1 F := r
  unfold Rp at r
  obtain ⟨a, vs, e, hs, hr⟩ := r
  refine ⟨a, vs, e, ?_, hr.length, O, F, RpR.append hr.roots h2 h3, k⟩
  rcases hs with h | ⟨o, h⟩
  · exact .inr h
  · exact .inl (.inr ⟨o, h⟩)
theorem Conf.scrShare {ds : List D} (c : Conf T K H ((v, .scr ds) :: R)) : ∃ a vs, v = .ref a ∧ SqL K H a vs ∧ vs.length = ds.length ∧ Conf T K H (zipR vs (frzL ds) ++ ((v, .scr (frzL ds)) :: R)) := by
  have c2 := c.share
  obtain ⟨a, vs, e, hs, hl, c3⟩ := Conf.scr c2
  rw [frzL_length] at hl
  exact ⟨a, vs, e, hs, hl, c3⟩
theorem Conf.tupShare {ds : List D} (c : Conf T K H ((v, .tup ds) :: R)) : ∃ a vs, v = .ref a ∧ SqT K H a vs ∧ vs.length = ds.length ∧ Conf T K H (zipR vs (frzL ds) ++ ((v, .tup (frzL ds)) :: R)) := by
  have c2 := c.share
  obtain ⟨a, vs, e, hs, hl, c3⟩ := Conf.tup c2
  rw [frzL_length] at hl
  exact ⟨a, vs, e, hs, hl, c3⟩
theorem perm_at {α : Type} : ∀ (l : List α) (i : Nat) (h : i < l.length), l.Perm (l[i] :: l.eraseIdx i)
  | [], i, h => absurd h (Nat.not_lt_zero _)
  | x :: l, 0, _ => List.Perm.refl _
  | x :: l, i + 1, h => (List.Perm.cons x (perm_at l i (by simpa using h))).trans (List.Perm.swap _ _ _)
/-- one of several roots -/
theorem Conf.pick {vs : List V} {ds : List D} {i : Nat} (c : Conf T K H (zipR vs ds ++ R)) (hv : vs[i]? = some v) (hd : ds[i]? = some d) : Conf T K H ((v, d) :: R) := by
  have hz : (zipR vs ds)[i]? = some (v, d) := by
    unfold zipR
    rw [List.getElem?_zip_eq_some]
    exact ⟨hv, hd⟩
  obtain ⟨hi, he⟩ := List.getElem?_eq_some_iff.mp hz
  have hp : (zipR vs ds).Perm ((v, d) :: (zipR vs ds).eraseIdx i) := by
    rw [← he]
    exact perm_at _ i hi
  have c2 := c.perm (hp.append_right R)
  have c3 : Conf T K H (((zipR vs ds).eraseIdx i) ++ ((v, d) :: R)) := Conf.mv1 c2
  exact c3.keepR
end
end Ev

/-! Ev1: a small language, its interpreter over D. -/
namespace Ev
open PySem L2

mutual
def beqD : D → D → Bool
  | .non, .non => true
  | .bl a, .bl b => a == b
  | .int a, .int b => decide (a = b)
  | .str a, .str b => decide (a = b)
  | .tup a, .tup b => beqL a b
  | .lst o a, .lst o' b => o == o' && beqL a b
  | .dct o k a, .dct o' k' b => o == o' && decide (k = k') && beqL a b
  | .ins o c k a, .ins o' c' k' b => o == o' && decide (c = c') && decide (k = k') && beqL a b
  | .scr a, .scr b => beqL a b
  | _, _ => false
def beqL : List D → List D → Bool
  | [], [] => true
  | a :: as, b :: bs => beqD a b && beqL as bs
  | _, _ => false
end
mutual
theorem beqD_eq : ∀ {a b : D}, beqD a b = true → a = b
  | .non, b, h => by cases b <;> first | rfl | (cases h; done)
  | .bl a, b, h => by
    cases b <;> first | (cases h; done) | skip
    rename_i b
    have h : (a == b) = true := h
    rw [eq_of_beq h]
  | .int a, b, h => by
    cases b <;> first | (cases h; done) | skip
    rename_i b
    have h : decide (a = b) = true := h
    rw [of_decide_eq_true h]
  | .str a, b, h => by
    cases b <;> first | (cases h; done) | skip
    rename_i b
    have h : decide (a = b) = true := h
    rw [of_decide_eq_true h]
  | .tup a, b, h => by
    cases b <;> first | (cases h; done) | skip
    rename_i b
    have h : beqL a b = true := h
    rw [beqL_eq h]
  | .lst o a, b, h => by
    cases b <;> first | (cases h; done) | skip
    rename_i o' b
    have h : (o == o' && beqL a b) = true := h
    rw [Bool.and_eq_true] at h
    rw [eq_of_beq h.1, beqL_eq h.2]
  | .dct o k a, b, h => by
    cases b <;> first | (cases h; done) | skip
    rename_i o' k' b
    have h : (o == o' && decide (k = k') && beqL a b) = true := h
    rw [Bool.and_eq_true, Bool.and_eq_true] at h
    rw [eq_of_beq h.1.1, of_decide_eq_true h.1.2, beqL_eq h.2]
  | .ins o c k a, b, h => by
    cases b <;> first | (cases h; done) | skip
    rename_i o' c' k' b
    have h : (o == o' && decide (c = c') && decide (k = k') && beqL a b) = true := h
    rw [Bool.and_eq_true, Bool.and_eq_true, Bool.and_eq_true] at h
    rw [eq_of_beq h.1.1.1, of_decide_eq_true h.1.1.2, of_decide_eq_true h.1.2, beqL_eq h.2]
  | .scr a, b, h => by
    cases b <;> first | (cases h; done) | skip
    rename_i b
    have h : beqL a b = true := h
    rw [beqL_eq h]
theorem beqL_eq : ∀ {a b : List D}, beqL a b = true → a = b
  | [], b, h => by cases b <;> first | rfl | (cases h; done)
  | a :: as, b, h => by
    cases b with
    | nil => cases h
    | cons b bs =>
      have h : (beqD a b && beqL as bs) = true := h
      rw [Bool.and_eq_true] at h
      rw [beqD_eq h.1, beqL_eq h.2]
end
mutual
theorem beqD_rfl : ∀ a : D, beqD a a = true
  | .non => rfl
  | .bl a => beq_self_eq_true a
  | .int a => decide_eq_true rfl
  | .str a => decide_eq_true rfl
  | .tup a => beqL_rfl a
  | .lst o a => by show (o == o && beqL a a) = true; rw [beqL_rfl a]; simp
  | .dct o k a => by show (o == o && decide (k = k) && beqL a a) = true; rw [beqL_rfl a]; simp
  | .ins o c k a => by show (o == o && decide (c = c) && decide (k = k) && beqL a a) = true; rw [beqL_rfl a]; simp
  | .scr a => beqL_rfl a
theorem beqL_rfl : ∀ a : List D, beqL a a = true
  | [] => rfl
  | a :: as => by show (beqD a a && beqL as as) = true; rw [beqD_rfl a, beqL_rfl as]; rfl
end
instance decD : DecidableEq D := fun a b => if h : beqD a b = true then isTrue (beqD_eq h) else isFalse fun e => h (e ▸ beqD_rfl a)
inductive Am where
  | val | ref
  deriving DecidableEq
inductive Bop where
  | add | sub | mul | fdiv | mod | pow
  deriving DecidableEq
inductive Cop where
  | eq | ne | lt | le | gt | ge | inn | nin
  deriving DecidableEq
inductive Bi where
  | len | int | str | abs | max | min | gcd | all | any | sum
  deriving DecidableEq
inductive Ty where
  | int | str | bool | tuple | list
  deriving DecidableEq
inductive Mt where
  | startswith | partition
  deriving DecidableEq

mutual
inductive Ex where
  | con (d : D)
  | var (i : Nat)
  | tup (es : Exs)
  | lst (es : Exs)
  | dct (ks : List Ky) (es : Exs)
  | bin (op : Bop) (a b : Ex)
  | neg (a : Ex)
  | cmp (op : Cop) (a b : Ex)
  | isN (neg : Bool) (a : Ex)
  | nt (a : Ex)
  | an (a b : Ex)
  | orr (a b : Ex)
  | ite (c a b : Ex)
  | ix (m : Am) (a i : Ex)
  | sl (a : Ex) (lo hi : Oe)
  | call (f : Nat) (io : List Nat) (es ks : Exs) (ix : List Nat)
  | bi (b : Bi) (es : Exs)
  | isi (m : Am) (a : Ex) (t : Ty)
  | mt (m : Mt) (o : Ex) (es : Exs)
  | fs (es : Exs)
  | lc (j : Nat) (it : Itx) (e : Ex)
  deriving DecidableEq
inductive Exs where
  | nil
  | cons (m : Am) (e : Ex) (es : Exs)
  deriving DecidableEq
inductive Oe where
  | non
  | som (e : Ex)
  deriving DecidableEq
inductive Itx where
  | rng1 (a : Ex)
  | ov (e : Ex)
  deriving DecidableEq
end
mutual
inductive St where
  | ex (e : Ex)
  | set (i : Nat) (e : Ex)
  | mset (is : List Nat) (e : Ex)
  | par (i j : Nat) (a b : Ex)
  | aug (i : Nat) (op : Bop) (e : Ex)
  | setIx (j : Nat) (i e : Ex)
  | ret (m : Am) (e : Ex)
  | retN
  | ite (c : Ex) (a b : Sts)
  | whl (c : Ex) (b : Sts)
  | for1 (j : Nat) (it : Itx) (b : Sts)
  | brk | cnt | pas
  | nev
  deriving DecidableEq
inductive Sts where
  | nil
  | cons (s : St) (r : Sts)
  deriving DecidableEq
end

/-! ### outcomes -/
abbrev Env := List (Option D)
inductive Out (α : Type) where
  | ok (a : α) (ρ : Env)
  | exc (c : Nat) (d : D) (ρ : Env)
  | err
def Out.bind {α β : Type} (o : Out α) (f : α → Env → Out β) : Out β := match o with
  | .ok a ρ => f a ρ
  | .exc c d ρ => .exc c d ρ
  | .err => .err
theorem Out.bind_ok {α β : Type} (a : α) (ρ : Env) (f : α → Env → Out β) : (Out.ok a ρ).bind f = f a ρ := rfl
theorem Out.bind_exc {α β : Type} (c : Nat) (d : D) (ρ : Env) (f : α → Env → Out β) : (Out.exc c d ρ : Out α).bind f = .exc c d ρ := rfl
theorem Out.bind_err {α β : Type} (f : α → Env → Out β) : (Out.err : Out α).bind f = .err := rfl
/-- a call's outcome: the value, what has become of the arguments that are handed in to be changed -/
inductive CR where
  | ok (d : D) (ps : List D)
  | exc (c : Nat) (d : D) (ps : List D)
  | err
abbrev CF := Nat → List D → CR
inductive Fl where
  | nx | ret (d : D) | brk | ct
inductive Ar where
  | v (d : D) | r (j : Nat)

/-! ### operations on data -/
def lg (i : Int) : Nat := i.natAbs.log2
def mulOk (i j : Int) : Bool := decide (i.natAbs < 2 ^ 64) || decide (j.natAbs < 2 ^ 64) || decide (lg i + lg j < 1000000)
def divOk (j : Int) : Bool := decide (0 < j) && decide (lg j < 9000)
def powOk (i j : Int) : Bool := decide (0 ≤ j) && decide (((lg i + 1 : Nat) : Int) * j ≤ 100000000)
def szOk (n : Nat) : Bool := decide (n ≤ 16777216)
def opt {α : Type} (b : Bool) (a : α) : Option α := if b = true then some a else none
def binF : Bop → D → D → Option D
  | .add, .int i, .int j => some (.int (i + j))
  | .add, .str a, .str b => opt (szOk (a.length + b.length)) (.str (a ++ b))
  | .add, .lst _ a, .lst _ b => opt (szOk (a.length + b.length)) (.lst true (a ++ b))
  | .sub, .int i, .int j => some (.int (i - j))
  | .mul, .int i, .int j => opt (mulOk i j) (.int (i * j))
  | .fdiv, .int i, .int j => opt (divOk j) (.int (i / j))
  | .mod, .int i, .int j => opt (decide (0 < j)) (.int (i % j))
  | .pow, .int i, .int j => opt (powOk i j) (.int (i ^ j.toNat))
  | _, _, _ => none
/-- scalars that == tells apart -/
def eqF : D → D → Option Bool
  | .non, .non => some true
  | .non, .int _ => some false
  | .int _, .non => some false
  | .non, .bl _ => some false
  | .bl _, .non => some false
  | .non, .str _ => some false
  | .str _, .non => some false
  | .int a, .int b => some (decide (a = b))
  | .bl a, .bl b => some (decide (a = b))
  | .str a, .str b => some (decide (a = b))
  | .int _, .str _ => some false
  | .str _, .int _ => some false
  | .bl _, .str _ => some false
  | .str _, .bl _ => some false
  | _, _ => none
/-- is one flat value the other -/
def flatD : D → Bool
  | .non => true
  | .bl _ => true
  | .int _ => true
  | .str _ => true
  | _ => false
def eqD : D → D → Bool
  | .non, .non => true
  | .bl a, .bl b => a == b
  | .bl a, .int b => (if a then 1 else 0) == b
  | .int a, .bl b => a == (if b then 1 else 0)
  | .int a, .int b => a == b
  | .str a, .str b => a == b
  | _, _ => false
def inD (x : D) (xs : List D) : Bool := xs.any fun y => eqD y x
def inF : D → D → Option Bool
  | .str [c], .str s => some (decide (c ∈ s))
  | x, .tup ds => opt (flatD x && ds.all flatD) (inD x ds)
  | x, .lst _ ds => opt (flatD x && ds.all flatD) (inD x ds)
  | _, _ => none
def cmpF : Cop → D → D → Option Bool
  | .eq, a, b => eqF a b
  | .ne, a, b => (eqF a b).map not
  | .lt, .int i, .int j => some (decide (i < j))
  | .le, .int i, .int j => some (decide (i ≤ j))
  | .gt, .int i, .int j => some (decide (j < i))
  | .ge, .int i, .int j => some (decide (j ≤ i))
  | .inn, a, b => inF a b
  | .nin, a, b => (inF a b).map not
  | _, _, _ => none
def keyF : D → Option Ky
  | .int i => some (.int i)
  | .str s => some (.str s)
  | _ => none
def lookF : List Ky → List D → Ky → Option D
  | k :: ks, d :: ds, x => if x = k then some d else lookF ks ds x
  | _, _, _ => none
def itemF : D → D → Option D
  | .lst _ ds, .int i => atI ds i
  | .tup ds, .int i => atI ds i
  | .scr ds, .int i => atI ds i
  | .str s, .int i => if s.length ≤ 16777216 then (atI s i).map fun c => .str [c] else none
  | .dct _ ks ds, x => (keyF x).bind (lookF ks ds)
  | _, _ => none
def cutL {α : Type} (xs : List α) (lo hi : Option Int) : List α := (xs.drop (HT.sIx xs.length 0 lo)).take (HT.sIx xs.length xs.length hi - HT.sIx xs.length 0 lo)
def oiF : D → Option Int
  | .int i => some i
  | _ => none
def sliceF : D → Option Int → Option Int → Option D
  | .str s, lo, hi => opt (szOk s.length) (.str (cutL s lo hi))
  | _, _, _ => none
/-- digits of an int -/
def numT (i : Int) : List Nat := (Str.ofString (toString i)).cps.toList
def biF : Bi → List D → Option D
  | .len, [.str s] => opt (szOk s.length) (.int s.length)
  | .len, [.lst _ ds] => some (.int ds.length)
  | .len, [.tup ds] => some (.int ds.length)
  | .len, [.scr ds] => some (.int ds.length)
  | .int, [.int i] => some (.int i)
  | .int, [.bl b] => some (.int (if b then 1 else 0))
  | .int, [.str s] => if s.length ≤ 640 then (intText? (mkS s)).map .int else none
  | .str, [.int i] => opt (decide (lg i < 1920)) (.str (numT i))
  | .abs, [.int i] => some (.int (if i < 0 then -i else i))
  | .max, [.int i, .int j] => some (.int (if j > i then j else i))
  | .min, [.int i, .int j] => some (.int (if j < i then j else i))
  | .gcd, [.int a, .int b] => some (.int ((Nat.gcd a.natAbs b.natAbs : Nat) : Int))
  | _, _ => none
def blsF : List D → Option (List Bool)
  | [] => some []
  | .bl b :: ds => (blsF ds).map (b :: ·)
  | _ :: _ => none
def biG : Bi → List D → Option D
  | .all, [.lst _ ds] => (blsF ds).map fun bs => .bl (bs.all id)
  | .any, [.lst _ ds] => (blsF ds).map fun bs => .bl (bs.any id)
  | b, ds => biF b ds
def isiF : D → Ty → Option Bool
  | .non, _ => some false
  | .bl _, .bool => some true
  | .bl _, .int => some true
  | .bl _, _ => some false
  | .int _, .int => some true
  | .int _, _ => some false
  | .str _, .str => some true
  | .str _, _ => some false
  | .tup _, .tuple => some true
  | .tup _, _ => some false
  | .lst _ _, .list => some true
  | .lst _ _, _ => some false
  | _, _ => none
def mtF : Mt → D → List D → Option D
  | .startswith, .str a, [.str b] => some (.bl (TL.pre b a))
  | .partition, .str a, [.str b] => if b ≠ [] ∧ b.all (· < 256) = true ∧ a.length ≤ 16777216 then
      (match TL.par b [] a with | some (x, y) => some (.tup [.str x, .str b, .str y]) | none => some (.tup [.str a, .str [], .str []])) else none
  | _, _, _ => none
/-- a part of an f-string -/
def fmtF : D → Option (List Nat)
  | .str s => opt (szOk s.length) s
  | .int i => opt (decide (lg i < 1920)) (numT i)
  | _ => none
def isStr : D → Bool
  | .str _ => true
  | _ => false
def isNon : D → Bool
  | .non => true
  | _ => false
def isNonF (n : Bool) (x : D) : Bool := if n = true then !(isNon x) else isNon x
def truF : D → Option Bool
  | .non => some false
  | .bl b => some b
  | .int i => some (i != 0)
  | _ => none
def itemsF : D → Option (List D)
  | .str s => some (s.map fun c => .str [c])
  | .lst _ ds => some (frzL ds)
  | .tup ds => some (frzL ds)
  | .scr ds => some (frzL ds)
  | _ => none

def look (ρ : Env) (j : Nat) : Option D := (ρ[j]?).join
/-- the arguments' data; those handed in to be changed are out of the environment meanwhile -/
def takeA : List Ar → Env → Option (List D × Env)
  | [], ρ => some ([], ρ)
  | .v d :: as, ρ => (takeA as ρ).map fun x => (d :: x.1, x.2)
  | .r j :: as, ρ => match look ρ j with
    | some d => (takeA as (ρ.set j none)).map fun x => (d :: x.1, x.2)
    | none => none
def putA (io : List Nat) : Nat → List Ar → List D → Env → Option Env
  | _, [], [], ρ => some ρ
  | i, .v _ :: as, ps, ρ => if i ∈ io then (match ps with | _ :: ps => putA io (i + 1) as ps ρ | [] => none) else putA io (i + 1) as ps ρ
  | i, .r j :: as, p :: ps, ρ => if i ∈ io then putA io (i + 1) as ps (ρ.set j (some p)) else none
  | _, _, _, _ => none
/-- the arguments' data, read alone -/
def peekA : List Ar → Env → Option (List D)
  | [], _ => some []
  | .v d :: as, ρ => (peekA as ρ).map (d :: ·)
  | .r j :: as, ρ => (look ρ j).bind fun d => (peekA as ρ).map (d :: ·)
def valsA : List Ar → Option (List D)
  | [] => some []
  | .v d :: as => (valsA as).map (d :: ·)
  | .r _ :: _ => none
/-- which arguments are handed in to be changed -/
def isR : Ar → Bool
  | .r _ => true
  | .v _ => false
/-- the places of those that are handed in to be changed -/
def refPos (io : List Nat) : Nat → List Ar → List Nat
  | _, [] => []
  | i, _ :: as => if i ∈ io then i :: refPos io (i + 1) as else refPos io (i + 1) as
/-- positional arguments, then the keywords' values by the parameters' order -/
def kwA (as bs : List Ar) (ix : List Nat) : Option (List Ar) := if ix.isPerm (List.range bs.length) = true then some (as ++ ix.map fun i => bs.getD i (.v .non)) else none

def ofO {α : Type} (o : Option α) (ρ : Env) : Out α := match o with
  | some a => .ok a ρ
  | none => .err

/-! ### the interpreter -/
section
variable (cf : CF)
/-- while the first comes out true, the second; W turns at most -/
def whileF (c : Env → Out Bool) (b : Env → Out Fl) : Nat → Env → Out Fl
  | 0, _ => .err
  | n + 1, ρ => (c ρ).bind fun t ρ1 => if t = true then (b ρ1).bind fun f ρ2 => match f with
      | .nx => whileF c b n ρ2
      | .ct => whileF c b n ρ2
      | .brk => .ok .nx ρ2
      | .ret d => .ok (.ret d) ρ2
    else .ok .nx ρ1
def forF (g : D → Env → Env) (b : Env → Out Fl) : List D → Env → Out Fl
  | [], ρ => .ok .nx ρ
  | d :: ds, ρ => (b (g d ρ)).bind fun f ρ2 => match f with
      | .nx => forF g b ds ρ2
      | .ct => forF g b ds ρ2
      | .brk => .ok .nx ρ2
      | .ret d => .ok (.ret d) ρ2
def lcF (g : D → Env → Env) (b : Env → Out D) : List D → Env → List D → Out (List D)
  | [], ρ, acc => .ok acc ρ
  | d :: ds, ρ, acc => match b (g d ρ) with
    | .ok y ρ2 => if acc.length < 16777216 then lcF g b ds ρ2 (acc ++ [y]) else .err
    | _ => .err
def rngL (n : Nat) : List D := (List.range n).map fun (i : Nat) => D.int (i : Int)
/-- turns of a while -/
def turns : Nat := 1000000000
/-- an expression's value; as a test -/
structure Pr where
  e : Env → Out D
  t : Env → Out Bool
def Pr.of (e : Env → Out D) : Pr := ⟨e, fun ρ => (e ρ).bind fun x ρ1 => ofO (truF x) ρ1⟩
/-- the value of a name, read; of an item of it -/
def evVar (i : Nat) (ρ : Env) : Out D := match look ρ i with
  | some d => .ok (frz d) (ρ.set i (some (frz d)))
  | none => .err
def ixRef (j : Nat) (y : D) (ρ1 : Env) : Out D := match look ρ1 j with
  | some x => match itemF x y with
    | some d => if Sca d = true then .ok d ρ1 else .ok (frz d) (ρ1.set j (some (frz x)))
    | none => .err
  | none => .err
def callB (f : Nat) (io : List Nat) (bs : List Ar) (ρ1 : Env) : Out D := if refPos io 0 bs = io then match takeA bs ρ1 with
    | none => .err
    | some (ds, ρ2) => match cf f ds with
      | .ok d ps => (match putA io 0 bs ps ρ2 with | some r => .ok d r | none => .err)
      | .exc c d ps => (match putA io 0 bs ps ρ2 with | some r => .exc c d r | none => .err)
      | .err => .err
  else .err
def callA (f : Nat) (io : List Nat) (ix : List Nat) (as bs : List Ar) (ρ1 : Env) : Out D := match kwA as bs ix with
  | none => .err
  | some cs => callB cf f io cs ρ1
mutual
def evP : Ex → Pr
  | .con d => .of fun ρ => .ok d ρ
  | .var i => .of (evVar i)
  | .tup es => .of fun ρ => (evA es ρ).bind fun as ρ1 => match valsA as with
    | some ds => if ds.length ≤ 16777216 then .ok (.tup ds) ρ1 else .err
    | none => .err
  | .lst es => .of fun ρ => (evA es ρ).bind fun as ρ1 => match valsA as with
    | some ds => if ds.length ≤ 16777216 then .ok (.lst true ds) ρ1 else .err
    | none => .err
  | .dct ks es => .of fun ρ => (evA es ρ).bind fun as ρ1 => match valsA as with
    | some ds => .ok (.dct true ks ds) ρ1
    | none => .err
  | .bin op a b => .of fun ρ => ((evP a).e ρ).bind fun x ρ1 => ((evP b).e ρ1).bind fun y ρ2 => ofO (binF op x y) ρ2
  | .neg a => .of fun ρ => ((evP a).e ρ).bind fun x ρ1 => match x with
    | .int i => .ok (.int (-i)) ρ1
    | _ => .err
  | .cmp op a b => .of fun ρ => ((evP a).e ρ).bind fun x ρ1 => ((evP b).e ρ1).bind fun y ρ2 => ofO ((cmpF op x y).map .bl) ρ2
  | .isN n a => .of fun ρ => ((evP a).e ρ).bind fun x ρ1 => .ok (.bl (isNonF n x)) ρ1
  | .nt a => ⟨fun ρ => ((evP a).e ρ).bind fun x ρ1 => match x with
    | .bl b => .ok (.bl (!b)) ρ1
    | _ => .err, fun ρ => ((evP a).t ρ).bind fun t ρ1 => .ok (!t) ρ1⟩
  | .an a b => ⟨fun ρ => ((evP a).e ρ).bind fun x ρ1 => match x with
    | .bl true => (evP b).e ρ1
    | .bl false => .ok (.bl false) ρ1
    | _ => .err, fun ρ => ((evP a).t ρ).bind fun t ρ1 => if t = true then (evP b).t ρ1 else .ok false ρ1⟩
  | .orr a b => ⟨fun ρ => ((evP a).e ρ).bind fun x ρ1 => match x with
    | .bl true => .ok (.bl true) ρ1
    | .bl false => (evP b).e ρ1
    | _ => .err, fun ρ => ((evP a).t ρ).bind fun t ρ1 => if t = true then .ok true ρ1 else (evP b).t ρ1⟩
  | .ite c a b => ⟨fun ρ => ((evP c).t ρ).bind fun t ρ1 => if t = true then (evP a).e ρ1 else (evP b).e ρ1, fun _ => .err⟩
  | .ix .val a i => .of fun ρ => ((evP a).e ρ).bind fun x ρ1 => ((evP i).e ρ1).bind fun y ρ2 => ofO (itemF x y) ρ2
  | .ix .ref a i => .of fun ρ => match a with
    | .var j => if (look ρ j).isSome = true then ((evP i).e ρ).bind fun y ρ1 => ixRef j y ρ1 else .err
    | _ => .err
  | .sl a lo hi => .of fun ρ => ((evP a).e ρ).bind fun x ρ1 => (evO lo ρ1).bind fun l ρ2 => (evO hi ρ2).bind fun h ρ3 => ofO (sliceF x l h) ρ3
  | .call f io es ks ix => .of fun ρ => (evA es ρ).bind fun as ρ1 => (evA ks ρ1).bind fun bs ρ2 => callA cf f io ix as bs ρ2
  | .bi b es => .of fun ρ => (evA es ρ).bind fun as ρ1 => ofO ((peekA as ρ1).bind (biG b)) ρ1
  | .isi .val a t => .of fun ρ => ((evP a).e ρ).bind fun x ρ1 => ofO ((isiF x t).map .bl) ρ1
  | .isi .ref a t => .of fun ρ => match a with
    | .var j => ofO ((look ρ j).bind fun x => (isiF x t).map .bl) ρ
    | _ => .err
  | .mt m o es => .of fun ρ => ((evP o).e ρ).bind fun x ρ1 => if isStr x = true then (evA es ρ1).bind fun as ρ2 => ofO ((valsA as).bind (mtF m x)) ρ2 else .err
  | .fs es => .of fun ρ => evF es [] ρ
  | .lc j it e => .of fun ρ => (evI it ρ).bind fun ds ρ1 => (lcF (fun d r => r.set j (some d)) (evP e).e ds (ρ1.set j none) []).bind fun out ρ2 => .ok (.lst true out) (ρ2.set j (look ρ1 j))
def evA : Exs → Env → Out (List Ar)
  | .nil, ρ => .ok [] ρ
  | .cons .val e es, ρ => ((evP e).e ρ).bind fun d ρ1 => (evA es ρ1).bind fun as ρ2 => .ok (.v d :: as) ρ2
  | .cons .ref e es, ρ => match e with
    | .var j => if (look ρ j).isSome = true then (evA es ρ).bind fun as ρ1 => .ok (.r j :: as) ρ1 else .err
    | _ => .err
def evO : Oe → Env → Out (Option Int)
  | .non, ρ => .ok none ρ
  | .som e, ρ => ((evP e).e ρ).bind fun d ρ1 => match d with
    | .int i => .ok (some i) ρ1
    | _ => .err
def evF : Exs → List Nat → Env → Out D
  | .nil, acc, ρ => .ok (.str acc) ρ
  | .cons _ e es, acc, ρ => ((evP e).e ρ).bind fun d ρ1 => match fmtF d with
    | some s => if acc.length + s.length ≤ 16777216 then evF es (acc ++ s) ρ1 else .err
    | none => .err
def evI : Itx → Env → Out (List D)
  | .rng1 a, ρ => ((evP a).e ρ).bind fun d ρ1 => match d with
    | .int j => if -(2 ^ 62) ≤ j ∧ j < 2 ^ 62 then .ok (rngL j.toNat) ρ1 else .err
    | _ => .err
  | .ov e, ρ => ((evP e).e ρ).bind fun d ρ1 => ofO (itemsF d) ρ1
end
def evE (e : Ex) : Env → Out D := (evP cf e).e
def evT (e : Ex) : Env → Out Bool := (evP cf e).t
def setS (ρ : Env) (i : Nat) (d : D) : Env := ρ.set i (some d)
def setM : List Nat → List D → Env → Option Env
  | [], [], ρ => some ρ
  | i :: is, d :: ds, ρ => setM is ds (setS ρ i d)
  | _, _, _ => none
mutual
def evS : St → Env → Out Fl
  | .ex e, ρ => (evE cf e ρ).bind fun _ ρ1 => .ok .nx ρ1
  | .set i e, ρ => (evE cf e ρ).bind fun d ρ1 => .ok .nx (setS ρ1 i d)
  | .mset is e, ρ => (evE cf e ρ).bind fun d ρ1 => match d with
    | .tup ds => ofO (setM is ds ρ1) ρ1 |>.bind fun r _ => .ok .nx r
    | _ => .err
  | .par i j a b, ρ => (evE cf a ρ).bind fun x ρ1 => (evE cf b ρ1).bind fun y ρ2 => .ok .nx (setS (setS ρ2 i x) j y)
  | .aug i op e, ρ => match look ρ i with
    | some (.int k) => (evE cf e ρ).bind fun y ρ1 => (ofO (binF op (.int k) y) ρ1).bind fun z _ => .ok .nx (setS ρ1 i z)
    | _ => .err
  | .setIx j i e, ρ => (evE cf e ρ).bind fun d ρ1 => if (look ρ1 j).isSome = true then (evE cf i ρ1).bind fun y ρ2 => match look ρ2 j, y with
    | some (.lst true ds), .int k => match ixN ds.length k with
      | some n => .ok .nx (setS ρ2 j (.lst true (ds.set n d)))
      | none => .err
    | _, _ => .err else .err
  | .ret .val e, ρ => (evE cf e ρ).bind fun d ρ1 => .ok (.ret d) ρ1
  | .ret .ref e, ρ => match e with
    | .var j => match look ρ j with
      | some d => .ok (.ret d) (ρ.set j none)
      | none => .err
    | _ => .err
  | .retN, ρ => .ok (.ret .non) ρ
  | .ite c a b, ρ => (evT cf c ρ).bind fun t ρ1 => if t = true then evSs a ρ1 else evSs b ρ1
  | .whl c b, ρ => whileF (evT cf c) (evSs b) turns ρ
  | .for1 j it b, ρ => (evI cf it ρ).bind fun ds ρ1 => forF (fun d r => setS r j d) (evSs b) ds ρ1
  | .brk, ρ => .ok .brk ρ
  | .cnt, ρ => .ok .ct ρ
  | .pas, ρ => .ok .nx ρ
  | .nev, _ => .err
def evSs : Sts → Env → Out Fl
  | .nil, ρ => .ok .nx ρ
  | .cons s r, ρ => (evS s ρ).bind fun f ρ1 => match f with
    | .nx => evSs r ρ1
    | f => .ok f ρ1
end
end
/-- a def: how many parameters, which of them are handed in to be changed, how many names, the body -/
structure Fn where
  np : Nat
  io : List Nat
  n : Nat
  body : Sts
  deriving DecidableEq
def outs (io : List Nat) (ρ : Env) : Option (List D) := io.mapM fun i => look ρ i
def runF (cf : CF) (f : Fn) (ds : List D) : CR :=
  if ds.length = f.np then
    match evSs cf f.body (ds.map some ++ List.replicate (f.n - f.np) none) with
    | .ok .nx ρ => (match outs f.io ρ with | some ps => .ok .non ps | none => .err)
    | .ok (.ret d) ρ => (match outs f.io ρ with | some ps => .ok d ps | none => .err)
    | .ok _ _ => .err
    | .exc c d ρ => (match outs f.io ρ with | some ps => .exc c d ps | none => .err)
    | .err => .err
  else .err
def call (Φ : Nat → Option Fn) : Nat → CF
  | 0, _, _ => .err
  | k + 1, f, ds => match Φ f with
    | some fn => runF (call Φ k) fn ds
    | none => .err
end Ev

/-! Ev2: what an operation yields, over data. -/
namespace Ev
open PySem PySem.Spec PyProof.Rows L2

/-! ### any rule -/
section
variable {X : Cx}
def WpE (X : Cx) (e : Expr) : TE := fun σ H Q => ∃ t, PE X e t ∧ t σ H Q
theorem pe_wp {e : Expr} : PE X e (WpE X e) := ⟨fun pins s σ H Q I ⟨_, p, q⟩ => p.run pins s σ H Q I q⟩
def WpT (X : Cx) (e : Expr) : TT := fun σ H Q => ∃ t, PT X e t ∧ t σ H Q
theorem pt_wp {e : Expr} : PT X e (WpT X e) := ⟨fun pins s σ H Q I ⟨_, p, q⟩ => p.run pins s σ H Q I q⟩
def WpW (X : Cx) (e : Expr) : TT := fun σ H Q => ∃ t, PW X e t ∧ t σ H Q
theorem pw_wp {e : Expr} : PW X e (WpW X e) := ⟨fun wh pins s σ H Q I ⟨_, p, q⟩ => p.run wh pins s σ H Q I q⟩
def WpA (X : Cx) (es : List Expr) : TA := fun σ H Q => ∃ t, PA X es t ∧ t σ H Q
theorem pa_wp {es : List Expr} : PA X es (WpA X es) := ⟨fun pos pins s σ H Q I ⟨_, p, q⟩ => p.run pos pins s σ H Q I q⟩
def WpK (X : Cx) (ks : List Keyword) : TA := fun σ H Q => ∃ t, PK X ks t ∧ t σ H Q
theorem pk_wp {ks : List Keyword} : PK X ks (WpK X ks) := ⟨fun pos pins s σ H Q I ⟨_, p, q⟩ => p.run pos pins s σ H Q I q⟩
def WpP (X : Cx) (e : Option Expr) : TO := fun σ H Q => ∃ t, PO X e t ∧ t σ H Q
theorem po_wp {e : Option Expr} : PO X e (WpP X e) := ⟨fun pins s σ H Q I ⟨_, p, q⟩ => p.run pins s σ H Q I q⟩
def WpI (X : Cx) (tg it : Expr) : TI := fun σ H R => ∃ t, PI X tg it t ∧ t σ H R
theorem pi_wp {tg it : Expr} : PI X tg it (WpI X tg it) := ⟨fun pins s σ H R I ⟨_, p, q⟩ => p.run pins s σ H R I q⟩
def WpS (X : Cx) (s : Stmt) : TS := fun D σ H => ∃ t, PS X s t ∧ t D σ H
theorem ps_wp {s : Stmt} : PS X s (WpS X s) := ⟨fun pins s σ H D I ⟨_, p, q⟩ => p.run pins s σ H D I q⟩
def WpSs (X : Cx) (s : List Stmt) : TS := fun D σ H => ∃ t, PSs X s t ∧ t D σ H
theorem pss_wp {s : List Stmt} : PSs X s (WpSs X s) := ⟨fun pins s σ H D I ⟨_, p, q⟩ => p.run pins s σ H D I q⟩
def WpG (X : Cx) (e : Expr) : TG := fun v σ H Q => ∃ t, PG X e t ∧ t v σ H Q
theorem pg_wp {e : Expr} : PG X e (WpG X e) := ⟨fun pins s σ H v u Q I r ⟨_, p, q⟩ => p.run pins s σ H v u Q I r q⟩
def WpO (X : Cx) (f : Value → Value → Sem Value) : R2 := fun x y H Q => ∃ r, OpR X f r ∧ r x y H Q
theorem opR_wp {f : Value → Value → Sem Value} : OpR X f (WpO X f) := by
  intro pins s σ H x y v u Q I rx ry ⟨r, p, q⟩
  exact p pins s σ H x y v u Q I rx ry q
def WpX (X : Cx) : R2 := fun x y H Q => ∃ r, IxR X r ∧ r x y H Q
theorem ixR_wp : IxR X (WpX X) := by
  intro va sl pins s σ H x y v u Q I rx ry ⟨r, p, q⟩ hs
  exact p va sl pins s σ H x y v u Q I rx ry q hs
def WpC (X : Cx) (f : Value) : List V → Hp → VK → Prop := fun vs H Q => ∃ r, CallR X f r ∧ r vs H Q
theorem callR_wp {f : Value} : CallR X f (WpC X f) := by
  intro pins s σ H vs us Q I rx ⟨r, p, q⟩
  exact p pins s σ H vs us Q I rx q
def WpM (X : Cx) (id : String) : V → List V → Hp → VK → Prop := fun v vs H Q => ∃ r, MtR X id r ∧ r v vs H Q
theorem mtR_wp {id : String} : MtR X id (WpM X id) := by
  intro pins s σ H x vs v us Q I rx rv ⟨r, p, q⟩
  exact p pins s σ H x vs v us Q I rx rv q
def WpSl (X : Cx) : V → Option Int → Option Int → Hp → VK → Prop := fun v l h H Q => ∃ r, SlR X r ∧ r v l h H Q
theorem slR_wp : SlR X (WpSl X) := by
  intro pins s σ H x v vl vu lo hi sl Q I rx hs pl pu ⟨r, p, q⟩
  exact p pins s σ H x v vl vu lo hi sl Q I rx hs pl pu q
end

section
variable {X : Cx} {T : Tb} {K : PySem.W.Frag} {H : Hp} {S : List Root} {x y d : D} {vx vy v : V} {Q : VK}
theorem sizeL : (16777216 : Nat) = sizeLine := by decide
/-- the second of two -/
theorem Conf.tail2 {a b : Root} (c : Conf T K H (a :: b :: S)) : Conf T K H S := c.tail.tail
theorem Conf.snd {a b : Root} (c : Conf T K H (a :: b :: S)) : Conf T K H (b :: S) := c.tail
theorem Conf.fst {a b : Root} (c : Conf T K H (a :: b :: S)) : Conf T K H (a :: S) := c.swap.tail
theorem opt_some {α : Type} {b : Bool} {a c : α} (h : opt b a = some c) : b = true ∧ a = c := by
  unfold opt at h
  split at h
  · exact ⟨by assumption, Option.some.inj h⟩
  · exact nomatch h
theorem szOk_le {n : Nat} (h : szOk n = true) : n ≤ sizeLine := by
  have := of_decide_eq_true h
  rw [← sizeL]
  exact this

def opc : Bop → Operator
  | .add => .Add
  | .sub => .Sub
  | .mul => .Mult
  | .fdiv => .FloorDiv
  | .mod => .Mod
  | .pow => .Pow
theorem mul_ok {i j : Int} (h : mulOk i j = true) : IntMulOk i j := by
  unfold mulOk at h
  rw [Bool.or_eq_true, Bool.or_eq_true] at h
  rcases h with (h | h) | h
  · have := of_decide_eq_true h
    exact CMul.ok (.inl (by omega))
  · have := of_decide_eq_true h
    exact CMul.ok (.inr (by omega))
  · have := of_decide_eq_true h
    exact CMulW.ok this
theorem op_mulG : OpR X (binaryOp .Mult) (rI (fun i j => mulOk i j = true) fun i j => .int (i * j)) := opI fun _ _ _ _ _ _ _ hc q => mul_int q (mul_ok hc)
theorem intBits_log (i : Int) : Builtin.Int.intBits i ≤ lg i + 1 := by
  unfold Builtin.Int.intBits lg
  split <;> omega
theorem op_powG : OpR X (binaryOp .Pow) (rI (fun i j => powOk i j = true) fun i j => .int (i ^ j.toNat)) := opI fun i j _ _ _ _ _ hc q => by
  unfold powOk at hc
  rw [Bool.and_eq_true] at hc
  have h0 := of_decide_eq_true hc.1
  have h1 := of_decide_eq_true hc.2
  refine pow_int h0 ?_ q
  have h2 := intBits_log i
  have h3 : (Builtin.Int.intBits i : Int) * j ≤ ((lg i + 1 : Nat) : Int) * j := Int.mul_le_mul_of_nonneg_right (by omega) h0
  have h4 : (2 : Int) ^ 27 = 134217728 := by decide
  omega
theorem op_fdivG : OpR X (binaryOp .FloorDiv) (rI (fun _ j => divOk j = true) fun i j => .int (i / j)) := opI fun i j _ _ _ _ _ hc q => by
  unfold divOk at hc
  rw [Bool.and_eq_true] at hc
  have h0 := of_decide_eq_true hc.1
  have h1 : j.natAbs.log2 < 9000 := of_decide_eq_true hc.2
  exact floordiv_int (by omega) (by rw [Int.fdiv_eq_ediv_of_nonneg i (by omega)]; exact q) (.inl (PyProof.noPylong_of_log2 h1))

/-- an operation of two data -/
theorem binF_ok {op : Bop} (h : binF op x y = some d) (c : Conf T X.K H ((vy, y) :: (vx, x) :: S)) (k : ∀ v H', Conf T X.K H' ((v, d) :: S) → Q v H') : WpO X (binaryOp (opc op)) vx vy H Q := by
  have int2 : ∀ {i j : Int}, x = .int i → y = .int j → vx = .int i ∧ vy = .int j := fun {i j} e1 e2 => by
    subst e1 e2
    exact ⟨c.tail.sca_eq rfl, c.sca_eq rfl⟩
  have fin : ∀ {i : Int}, d = .int i → Q (.int i) H := fun {i} e => by
    subst e
    exact k _ _ (c.tail2.sca (d := .int i) rfl)
  unfold binF at h
  split at h
  · rename_i i j
    obtain ⟨rfl, rfl⟩ := int2 rfl rfl
    exact ⟨_, op_add, _, _, rfl, rfl, fin (Option.some.inj h).symm⟩
  · rename_i a b
    obtain ⟨hz, rfl⟩ := opt_some h
    have e1 : vx = _ := c.tail.sca_eq rfl
    have e2 : vy = _ := c.sca_eq rfl
    subst e1 e2
    refine ⟨_, op_add_str, mkS a, mkS b, rfl, rfl, ?_, ?_⟩
    · rw [mkS_length, mkS_length]
      exact szOk_le hz
    · have e : mkS a ++ mkS b = mkS (a ++ b) := TL.ext_tl (by rw [TL.tl_append]; rfl)
      rw [e]
      exact k _ _ (c.tail2.sca (d := .str (a ++ b)) rfl)
  · rename_i o1 a o2 b
    obtain ⟨hz, rfl⟩ := opt_some h
    obtain ⟨p1, us, rfl, h1, l1, c1⟩ := Conf.lst c
    obtain ⟨p2, vs, rfl, h2, l2, c2⟩ := Conf.lst (Conf.bk1 c1)
    refine ⟨_, op_cat, p2, p1, vs, us, rfl, rfl, h2, h1, by rw [l1, l2]; exact szOk_le hz, fun p hp => ?_⟩
    refine k _ _ (Conf.newLst (ds := a ++ b) ?_ (by rw [List.length_append, List.length_append, l1, l2]) hp)
    have e : zipR (vs ++ us) (a ++ b) = zipR vs a ++ zipR us b := by
      unfold zipR
      rw [List.zip_append l2]
    rw [e, List.append_assoc]
    exact c2
  · obtain ⟨rfl, rfl⟩ := int2 rfl rfl
    exact ⟨_, op_sub, _, _, rfl, rfl, fin (Option.some.inj h).symm⟩
  · obtain ⟨rfl, rfl⟩ := int2 rfl rfl
    obtain ⟨hz, e⟩ := opt_some h
    exact ⟨_, op_mulG, _, _, rfl, rfl, hz, fin e.symm⟩
  · obtain ⟨rfl, rfl⟩ := int2 rfl rfl
    obtain ⟨hz, e⟩ := opt_some h
    exact ⟨_, op_fdivG, _, _, rfl, rfl, hz, fin e.symm⟩
  · obtain ⟨rfl, rfl⟩ := int2 rfl rfl
    obtain ⟨hz, e⟩ := opt_some h
    exact ⟨_, op_mod, _, _, rfl, rfl, of_decide_eq_true hz, fin e.symm⟩
  · obtain ⟨rfl, rfl⟩ := int2 rfl rfl
    obtain ⟨hz, e⟩ := opt_some h
    exact ⟨_, op_powG, _, _, rfl, rfl, hz, fin e.symm⟩
  · exact nomatch h

theorem mkS_inj {a b : List Nat} (h : mkS a = mkS b) : a = b := congrArg (fun z : Str => z.cps.toList) h
/-- == of scalars -/
theorem eqF_ok {b : Bool} (h : eqF x y = some b) (c : Conf T K H ((vy, y) :: (vx, x) :: S)) : scal vx vy = true ∧ decide (vx = vy) = b := by
  have sx : Sca x = true := by unfold eqF at h; split at h <;> first | rfl | (cases h; done)
  have sy : Sca y = true := by unfold eqF at h; split at h <;> first | rfl | (cases h; done)
  obtain rfl := c.tail.sca_eq sx
  obtain rfl := c.sca_eq sy
  unfold eqF at h
  split at h <;> first
    | (cases h; done)
    | (obtain rfl := Option.some.inj h; exact ⟨rfl, by first | rfl | (apply decide_eq_false; intro q; cases q; done)⟩)
    | (obtain rfl := Option.some.inj h; refine ⟨rfl, ?_⟩; rw [decide_eq_decide]; constructor <;> intro q <;> first | (injection q; done) | (subst q; rfl))
    | (obtain rfl := Option.some.inj h; refine ⟨rfl, ?_⟩; rw [decide_eq_decide]; exact ⟨fun q => mkS_inj (by injection q), fun q => by subst q; rfl⟩)
theorem zip_all {ds : List D} {vs : List V} : ∀ {S : List Root}, Conf T K H (zipR vs ds ++ S) → vs.length = ds.length → ds.all flatD = true → vs = ds.map scaV ∧ ∀ d ∈ ds, Sca d = true := by
  induction ds generalizing vs with
  | nil => intro S c hl _; exact ⟨List.eq_nil_of_length_eq_zero hl, fun _ h => nomatch h⟩
  | cons d ds ih =>
    intro S c hl hf
    cases vs with
    | nil => exact nomatch hl
    | cons v vs =>
      rw [List.all_cons, Bool.and_eq_true] at hf
      have c : Conf T K H ((v, d) :: (zipR vs ds ++ S)) := c
      have hd : Sca d = true := by
        have := hf.1
        cases d <;> first | rfl | (cases this; done)
      obtain ⟨e1, e2⟩ := ih (S := S) c.tail (by simpa using hl) hf.2
      refine ⟨by rw [c.sca_eq hd, e1]; rfl, fun z hz => ?_⟩
      rcases List.mem_cons.mp hz with rfl | hz
      · exact hd
      · exact e2 z hz
theorem mkS_beq (a b : List Nat) : (mkS a == mkS b) = (a == b) := by
  by_cases h : a = b
  · subst h; simp
  · rw [beq_eq_false_iff_ne.mpr h, beq_eq_false_iff_ne.mpr fun q => h (mkS_inj q)]
theorem eqV_sca {a b : D} (ha : Sca a = true) (hb : Sca b = true) : eqV (scaV a) (scaV b) = eqD a b := by
  cases a <;> cases b <;> first | rfl | (cases ha; done) | (cases hb; done) | exact mkS_beq _ _
theorem flat_sca {a : D} (ha : Sca a = true) : flatV (scaV a) = true := by
  cases a <;> first | rfl | (cases ha; done)
theorem sca_flat {a : D} (h : flatD a = true) : Sca a = true := by
  cases a <;> first | rfl | (cases h; done)
theorem inV_sca {a : D} {ds : List D} (ha : Sca a = true) (hs : ∀ d ∈ ds, Sca d = true) : inV (scaV a) (ds.map scaV) = inD a ds := by
  unfold inV inD
  rw [List.any_map]
  induction ds with
  | nil => rfl
  | cons d ds ih =>
    rw [List.any_cons, List.any_cons, ih fun z hz => hs z (List.mem_cons_of_mem _ hz)]
    show (eqV (scaV d) (scaV a) || _) = _
    rw [eqV_sca (hs d List.mem_cons_self) ha]
theorem all_flat {ds : List D} (hs : ∀ d ∈ ds, Sca d = true) : (ds.map scaV).all flatV = true := by
  rw [List.all_map, List.all_eq_true]
  exact fun d hd => flat_sca (hs d hd)
theorem inF_seq {b : Bool} {neg : Bool} {ds : List D} (hf : (flatD x && ds.all flatD) = true) (eb : inD x ds = b) (cx : Sca x = true → vx = scaV x) {a : Addr} {vs : List V} (hq : SqL X.K H a vs ∨ SqT X.K H a vs)
    (hl : vs.length = ds.length) (c : Conf T X.K H (zipR vs ds ++ S)) (k : Q (.bl (if neg then !b else b)) H) : (rIn X.K neg) vx (.ref a) H Q := by
  rw [Bool.and_eq_true] at hf
  have sx := sca_flat hf.1
  obtain ⟨e1, e2⟩ := zip_all c hl hf.2
  obtain rfl := cx sx
  subst e1
  refine ⟨a, _, rfl, hq, flat_sca sx, all_flat e2, ?_⟩
  rw [inV_sca sx e2, eb]
  exact k
theorem inF_ok {b : Bool} (h : inF x y = some b) (c : Conf T X.K H ((vy, y) :: (vx, x) :: S)) (k : Q (.bl b) H) : WpO X (compareOp .In) vx vy H Q := by
  unfold inF at h
  split at h
  · rename_i ch s
    obtain rfl := Option.some.inj h
    obtain rfl := c.tail.sca_eq rfl
    obtain rfl := c.sca_eq rfl
    exact ⟨_, op_in_sign, ch, mkS s, rfl, rfl, k⟩
  · rename_i ds
    obtain ⟨hf, eb⟩ := opt_some h
    obtain ⟨a, vs, rfl, hq, hl, c2⟩ := Conf.tup c
    exact ⟨_, op_in_seq, inF_seq (neg := false) hf eb (fun sx => c.tail.sca_eq sx) (.inr hq) hl c2 k⟩
  · rename_i o ds
    obtain ⟨hf, eb⟩ := opt_some h
    obtain ⟨a, vs, rfl, hq, hl, c2⟩ := Conf.lst c
    exact ⟨_, op_in_seq, inF_seq (neg := false) hf eb (fun sx => c.tail.sca_eq sx) (.inl (SqL.of hq)) hl c2 k⟩
  · exact nomatch h
theorem ninF_ok {b : Bool} (h : inF x y = some b) (c : Conf T X.K H ((vy, y) :: (vx, x) :: S)) (k : Q (.bl (!b)) H) : WpO X (compareOp .NotIn) vx vy H Q := by
  unfold inF at h
  split at h
  · rename_i ch s
    obtain rfl := Option.some.inj h
    obtain rfl := c.tail.sca_eq rfl
    obtain rfl := c.sca_eq rfl
    exact ⟨_, op_notIn_sign, ch, mkS s, rfl, rfl, k⟩
  · rename_i ds
    obtain ⟨hf, eb⟩ := opt_some h
    obtain ⟨a, vs, rfl, hq, hl, c2⟩ := Conf.tup c
    exact ⟨_, op_notIn_seq, inF_seq (neg := true) hf eb (fun sx => c.tail.sca_eq sx) (.inr hq) hl c2 k⟩
  · rename_i o ds
    obtain ⟨hf, eb⟩ := opt_some h
    obtain ⟨a, vs, rfl, hq, hl, c2⟩ := Conf.lst c
    exact ⟨_, op_notIn_seq, inF_seq (neg := true) hf eb (fun sx => c.tail.sca_eq sx) (.inl (SqL.of hq)) hl c2 k⟩
  · exact nomatch h
def cpc : Cop → CmpOp
  | .eq => .Eq
  | .ne => .NotEq
  | .lt => .Lt
  | .le => .LtE
  | .gt => .Gt
  | .ge => .GtE
  | .inn => .In
  | .nin => .NotIn
theorem cmpF_ok {op : Cop} {b : Bool} (h : cmpF op x y = some b) (c : Conf T X.K H ((vy, y) :: (vx, x) :: S)) (k : Q (.bl b) H) : WpO X (compareOp (cpc op)) vx vy H Q := by
  have int2 : ∀ {i j : Int}, x = .int i → y = .int j → vx = .int i ∧ vy = .int j := fun {i j} e1 e2 => by
    subst e1 e2
    exact ⟨c.tail.sca_eq rfl, c.sca_eq rfl⟩
  unfold cmpF at h
  split at h
  · obtain ⟨h1, h2⟩ := eqF_ok h c
    subst h2
    exact ⟨_, op_eq, h1, k⟩
  · obtain ⟨b', e1, e2⟩ := Option.map_eq_some_iff.mp h
    obtain ⟨h1, h2⟩ := eqF_ok e1 c
    subst h2 e2
    exact ⟨_, op_ne, h1, k⟩
  · obtain ⟨rfl, rfl⟩ := int2 rfl rfl
    obtain rfl := Option.some.inj h
    exact ⟨_, op_lt, _, _, rfl, rfl, k⟩
  · obtain ⟨rfl, rfl⟩ := int2 rfl rfl
    obtain rfl := Option.some.inj h
    exact ⟨_, op_le, _, _, rfl, rfl, k⟩
  · obtain ⟨rfl, rfl⟩ := int2 rfl rfl
    obtain rfl := Option.some.inj h
    exact ⟨_, op_gt, _, _, rfl, rfl, k⟩
  · obtain ⟨rfl, rfl⟩ := int2 rfl rfl
    obtain rfl := Option.some.inj h
    exact ⟨_, op_ge, _, _, rfl, rfl, k⟩
  · exact inF_ok h c k
  · obtain ⟨b', e1, e2⟩ := Option.map_eq_some_iff.mp h
    subst e2
    exact ninF_ok e1 c k
  · exact nomatch h
/-- an item of a sequence, as a new root; what it was taken of is dropped -/
theorem pick_at {ds : List D} {vs : List V} {i : Int} (c : Conf T K H (zipR vs ds ++ S)) (hl : vs.length = ds.length) (h : atI ds i = some d) : ∃ v, atI vs i = some v ∧ Conf T K H ((v, d) :: S) := by
  unfold atI at h ⊢
  rw [hl]
  obtain ⟨j, hj, hd⟩ := Option.bind_eq_some_iff.mp h
  have hlt : j < vs.length := by rw [hl]; exact (List.getElem?_eq_some_iff.mp hd).1
  exact ⟨vs[j], by rw [hj]; show vs[j]? = _; rw [List.getElem?_eq_getElem hlt], c.pick (List.getElem?_eq_getElem hlt) hd⟩
theorem atI_str {s : List Nat} {i : Int} {e : Nat} (h : atI s i = some e) : atI (mkS s).cps.toList i = some e := h
/-- an item (not of a dict): of what is thrown away behind -/
theorem itemF_ok (h : itemF x y = some d) (hd : ∀ o ks ds, x ≠ .dct o ks ds) (c : Conf T X.K H ((vy, y) :: (vx, x) :: S)) (k : ∀ v, Conf T X.K H ((v, d) :: S) → Q v H) : WpX X vx vy H Q := by
  unfold itemF at h
  split at h
  · rename_i o ds i
    obtain rfl := c.sca_eq rfl
    obtain ⟨a, vs, rfl, hq, hl, c2⟩ := Conf.lst c.tail
    obtain ⟨v, e, c3⟩ := pick_at c2 hl h
    exact ⟨_, ix_list, a, vs, i, v, rfl, rfl, SqL.of hq, e, k v c3⟩
  · rename_i ds i
    obtain rfl := c.sca_eq rfl
    obtain ⟨a, vs, rfl, hq, hl, c2⟩ := Conf.tup c.tail
    obtain ⟨v, e, c3⟩ := pick_at c2 hl h
    exact ⟨_, ix_tup, a, vs, i, v, rfl, rfl, hq, e, k v c3⟩
  · rename_i ds i
    obtain rfl := c.sca_eq rfl
    obtain ⟨a, vs, rfl, hq, hl, c2⟩ := Conf.scr c.tail
    obtain ⟨v, e, c3⟩ := pick_at c2 hl h
    exact ⟨_, ix_list, a, vs, i, v, rfl, rfl, hq, e, k v c3⟩
  · rename_i s i
    obtain rfl := c.sca_eq rfl
    obtain rfl := c.tail.sca_eq rfl
    split at h
    · rename_i hz
      obtain ⟨e, he, rfl⟩ := Option.map_eq_some_iff.mp h
      exact ⟨_, ix_str, mkS s, i, e, rfl, rfl, by rw [mkS_length, ← sizeL]; exact hz, he, k _ (c.tail2.sca (d := .str [e]) rfl)⟩
    · exact nomatch h
  · exact absurd rfl (hd _ _ _)
  · exact nomatch h
/-- a dict's item -/
theorem keyF_ok {ky : Ky} (h : keyF y = some ky) (c : Conf T K H ((vy, y) :: S)) : vy = kV ky.key := by
  unfold keyF at h
  split at h
  · obtain rfl := Option.some.inj h
    exact c.sca_eq rfl
  · obtain rfl := Option.some.inj h
    exact c.sca_eq rfl
  · exact nomatch h
theorem key_inj {a b : Ky} : a.key = b.key ↔ a = b := by
  constructor
  · intro h
    cases a <;> cases b <;> first
      | (cases h; done)
      | (injection h with h; subst h; rfl)
      | (injection h with h; rw [mkS_inj h])
  · intro h; rw [h]
theorem lookF_ok {ky : Ky} : ∀ {ks : List Ky} {ds : List D} {vs : List V} {S : List Root}, lookF ks ds ky = some d → vs.length = ds.length → Conf T K H (zipR vs ds ++ S) → ∃ v, valV ((ks.map Ky.key).zip vs) ky.key = some v ∧ Conf T K H ((v, d) :: S)
  | [], _, _, _, h, _, _ => by unfold lookF at h; exact nomatch h
  | _ :: _, [], _, _, h, _, _ => by unfold lookF at h; exact nomatch h
  | _ :: _, _ :: _, [], _, _, hl, _ => nomatch hl
  | k :: ks, e :: ds, w :: vs, S, h, hl, c => by
    unfold lookF at h
    have c : Conf T K H ((w, e) :: (zipR vs ds ++ S)) := c
    by_cases hk : ky = k
    · rw [if_pos hk] at h
      obtain rfl := Option.some.inj h
      subst hk
      refine ⟨w, ?_, (c.mv1).keepR⟩
      show valV ((ky.key, w) :: _) ky.key = some w
      exact L2.valV_pos rfl
    · rw [if_neg hk] at h
      obtain ⟨v, e1, e2⟩ := lookF_ok h (by simpa using hl) c.tail
      refine ⟨v, ?_, e2⟩
      rw [← e1]
      have hne : ¬ (k.key = ky.key) := fun q => hk (key_inj.mp q).symm
      show valV ((k.key, w) :: _) ky.key = _
      exact L2.valV_neg hne
end
end Ev

/-! Ev3: built-in functions and methods over data. -/
namespace Ev
open PySem PySem.Spec PyProof.Rows L2
section
variable (T : Tb) (K : PySem.W.Frag) (H : Hp)
/-- how a value lies, whoever owns what -/
def Rw (d : D) (v : V) : Prop := ∃ O F, Rp T K H d v O F
def RwL (ds : List D) (vs : List V) : Prop := ∃ O F, RpL T K H ds vs O F
end
section
variable {X : Cx} {T : Tb} {K : PySem.W.Frag} {H : Hp} {S : List Root} {x y d : D} {vx vy v : V} {ds : List D} {vs : List V} {Q : VK}
theorem Conf.rw (c : Conf T K H ((v, d) :: S)) : Rw T K H d v := by
  obtain ⟨O, F, ⟨O1, O2, r, _, _⟩, _⟩ := c
  exact ⟨O1, F, r⟩
theorem RwL.nil : RwL T K H [] [] := ⟨fun _ => 0, fun _ => False, by unfold RpL; rfl⟩
theorem RwL.cons (a : Rw T K H d v) (b : RwL T K H ds vs) : RwL T K H (d :: ds) (v :: vs) := by
  obtain ⟨O1, F1, r1⟩ := a
  obtain ⟨O2, F2, r2⟩ := b
  refine ⟨fun b => O1 b + O2 b, fun b => F1 b ∨ F2 b, ?_⟩
  unfold RpL
  exact ⟨v, vs, O1, O2, rfl, r1.mono (fun _ => Nat.le_refl _) (fun _ z => .inl z), r2.mono (fun _ => Nat.le_refl _) (fun _ z => .inr z), fun _ => Nat.le_refl _⟩
theorem RwL.uncons (h : RwL T K H (d :: ds) vs) : ∃ v r, vs = v :: r ∧ Rw T K H d v ∧ RwL T K H ds r := by
  obtain ⟨O, F, h⟩ := h
  unfold RpL at h
  obtain ⟨v, r, O1, O2, e, h1, h2, _⟩ := h
  exact ⟨v, r, e, ⟨_, _, h1⟩, ⟨_, _, h2⟩⟩
theorem RwL.of_nil (h : RwL T K H [] vs) : vs = [] := by
  obtain ⟨O, F, h⟩ := h
  unfold RpL at h
  exact h
theorem RwL.length (h : RwL T K H ds vs) : vs.length = ds.length := by
  obtain ⟨O, F, h⟩ := h
  exact RpL.length h
theorem Rw.sca (h : Rw T K H d v) (s : Sca d = true) : v = scaV d := by
  obtain ⟨O, F, h⟩ := h
  exact h.sca_eq s
theorem Rw.lst {o : Bool} (h : Rw T K H (.lst o ds) v) : ∃ a vs, v = .ref a ∧ H a = some (.lst vs) ∧ RwL T K H ds vs := by
  obtain ⟨O, F, h⟩ := h
  unfold Rp at h
  obtain ⟨a, vs, e, O1, hr, hs⟩ := h
  refine ⟨a, vs, e, ?_, ⟨_, _, hr⟩⟩
  rcases hs with ⟨_, h, _⟩ | ⟨_, h, _⟩ <;> exact h
theorem Rw.tup (h : Rw T K H (.tup ds) v) : ∃ a vs, v = .ref a ∧ SqT K H a vs ∧ RwL T K H ds vs := by
  obtain ⟨O, F, h⟩ := h
  unfold Rp at h
  obtain ⟨a, vs, e, hs, hr⟩ := h
  exact ⟨a, vs, e, hs, ⟨_, _, hr⟩⟩
theorem Rw.scr (h : Rw T K H (.scr ds) v) : ∃ a vs, v = .ref a ∧ (KL K a vs ∨ ∃ o, H a = some (.frz o (.lst vs))) ∧ RwL T K H ds vs := by
  obtain ⟨O, F, h⟩ := h
  unfold Rp at h
  obtain ⟨a, vs, e, hs, hr⟩ := h
  exact ⟨a, vs, e, hs, ⟨_, _, hr⟩⟩
theorem scr_sq {a : Addr} (h : KL K a vs ∨ ∃ o, H a = some (.frz o (.lst vs))) : SqL K H a vs := by
  rcases h with h | ⟨o, h⟩
  · exact .inr h
  · exact .inl (.inr ⟨o, h⟩)
theorem RwL.one (h : RwL T K H [d] vs) : ∃ v, vs = [v] ∧ Rw T K H d v := by
  obtain ⟨v, r, e, h1, h2⟩ := h.uncons
  obtain rfl := h2.of_nil
  exact ⟨v, e, h1⟩
theorem RwL.two (h : RwL T K H [x, y] vs) : ∃ v w, vs = [v, w] ∧ Rw T K H x v ∧ Rw T K H y w := by
  obtain ⟨v, r, e, h1, h2⟩ := h.uncons
  obtain ⟨w, rfl, h3⟩ := h2.one
  exact ⟨v, w, e, h1, h3⟩

def biV : Bi → Value
  | .len => .builtin "len"
  | .int => .type "int"
  | .str => .type "str"
  | .abs => .builtin "abs"
  | .max => .builtin "max"
  | .min => .builtin "min"
  | .gcd => .builtin "math.gcd"
  | .all => .builtin "all"
  | .any => .builtin "any"
  | .sum => .builtin "sum"
theorem mkS_num (i : Int) : (Str.ofString (toString i)) = mkS (numT i) := TL.ext_tl rfl
theorem biF_ok {b : Bi} (hc : X.calm = true) (h : biF b ds = some d) (r : RwL T X.K H ds vs) : Sca d = true ∧ (Q (scaV d) H → WpC X (biV b) vs H Q) := by
  unfold biF at h
  split at h
  · rename_i s
    obtain ⟨hz, rfl⟩ := opt_some h
    obtain ⟨v, rfl, r1⟩ := r.one
    obtain rfl := r1.sca rfl
    refine ⟨rfl, fun q => ⟨_, call_len, _, s.length, rfl, ⟨by rw [mkS_length]; exact szOk_le hz, by rw [mkS_length]⟩, q⟩⟩
  · rename_i o es
    obtain rfl := Option.some.inj h
    obtain ⟨v, rfl, r1⟩ := r.one
    obtain ⟨a, us, rfl, hq, r2⟩ := r1.lst
    refine ⟨rfl, fun q => ⟨_, call_len, _, _, rfl, .inl ⟨us, SqL.of hq, rfl⟩, by rw [r2.length]; exact q⟩⟩
  · rename_i es
    obtain rfl := Option.some.inj h
    obtain ⟨v, rfl, r1⟩ := r.one
    obtain ⟨a, us, rfl, hq, r2⟩ := r1.tup
    refine ⟨rfl, fun q => ⟨_, call_len, _, _, rfl, .inr ⟨us, hq, rfl⟩, by rw [r2.length]; exact q⟩⟩
  · rename_i es
    obtain rfl := Option.some.inj h
    obtain ⟨v, rfl, r1⟩ := r.one
    obtain ⟨a, us, rfl, hq, r2⟩ := r1.scr
    refine ⟨rfl, fun q => ⟨_, call_len, _, _, rfl, .inl ⟨us, scr_sq hq, rfl⟩, by rw [r2.length]; exact q⟩⟩
  · obtain rfl := Option.some.inj h
    obtain ⟨v, rfl, r1⟩ := r.one
    obtain rfl := r1.sca rfl
    exact ⟨rfl, fun q => ⟨_, call_int1, .inl ⟨_, rfl, q⟩⟩⟩
  · obtain rfl := Option.some.inj h
    obtain ⟨v, rfl, r1⟩ := r.one
    obtain rfl := r1.sca rfl
    exact ⟨rfl, fun q => ⟨_, call_int1, .inr ⟨_, rfl, q⟩⟩⟩
  · rename_i s
    split at h
    · rename_i hz
      obtain ⟨n, e, rfl⟩ := Option.map_eq_some_iff.mp h
      obtain ⟨v, rfl, r1⟩ := r.one
      obtain rfl := r1.sca rfl
      exact ⟨rfl, fun q => ⟨_, call_int_str, mkS s, n, rfl, e, by rw [mkS_length]; exact hz, q⟩⟩
    · exact nomatch h
  · rename_i i
    obtain ⟨hz, rfl⟩ := opt_some h
    obtain ⟨v, rfl, r1⟩ := r.one
    obtain rfl := r1.sca rfl
    refine ⟨rfl, fun q => ⟨_, call_str_int, i, rfl, of_decide_eq_true hz, ?_⟩⟩
    show Q (.str (Str.ofString (toString i))) H
    rw [mkS_num]
    exact q
  · obtain rfl := Option.some.inj h
    obtain ⟨v, rfl, r1⟩ := r.one
    obtain rfl := r1.sca rfl
    exact ⟨rfl, fun q => ⟨_, call_abs, _, rfl, q⟩⟩
  · obtain rfl := Option.some.inj h
    obtain ⟨v, w, rfl, r1, r2⟩ := r.two
    obtain rfl := r1.sca rfl
    obtain rfl := r2.sca rfl
    exact ⟨rfl, fun q => ⟨_, call_max2 hc, _, _, rfl, q⟩⟩
  · obtain rfl := Option.some.inj h
    obtain ⟨v, w, rfl, r1, r2⟩ := r.two
    obtain rfl := r1.sca rfl
    obtain rfl := r2.sca rfl
    exact ⟨rfl, fun q => ⟨_, call_min2 hc, _, _, rfl, q⟩⟩
  · obtain rfl := Option.some.inj h
    obtain ⟨v, w, rfl, r1, r2⟩ := r.two
    obtain rfl := r1.sca rfl
    obtain rfl := r2.sca rfl
    exact ⟨rfl, fun q => ⟨_, cr_gcd, _, _, rfl, q⟩⟩
  · exact nomatch h
theorem blsF_ok : ∀ {ds : List D} {bs : List Bool} {vs : List V}, blsF ds = some bs → RwL T K H ds vs → vs = bs.map V.bl
  | [], bs, vs, h, r => by
    unfold blsF at h
    obtain rfl := Option.some.inj h
    exact r.of_nil
  | .bl b :: ds, bs, vs, h, r => by
    unfold blsF at h
    obtain ⟨bs', e, rfl⟩ := Option.map_eq_some_iff.mp h
    obtain ⟨v, vr, rfl, r1, r2⟩ := r.uncons
    rw [blsF_ok e r2, r1.sca rfl]
    rfl
  | .non :: _, _, _, h, _ => nomatch h
  | .int _ :: _, _, _, h, _ => nomatch h
  | .str _ :: _, _, _, h, _ => nomatch h
  | .tup _ :: _, _, _, h, _ => nomatch h
  | .lst _ _ :: _, _, _, h, _ => nomatch h
  | .dct _ _ _ :: _, _, _, h, _ => nomatch h
  | .ins _ _ _ _ :: _, _, _, h, _ => nomatch h
  | .scr _ :: _, _, _, h, _ => nomatch h
theorem biG_ok {b : Bi} (hc : X.calm = true) (h : biG b ds = some d) (r : RwL T X.K H ds vs) : Sca d = true ∧ (Q (scaV d) H → WpC X (biV b) vs H Q) := by
  unfold biG at h
  split at h
  · obtain ⟨bs, e, rfl⟩ := Option.map_eq_some_iff.mp h
    obtain ⟨v, rfl, r1⟩ := r.one
    obtain ⟨a, us, rfl, hq, r2⟩ := r1.lst
    obtain rfl := blsF_ok e r2
    exact ⟨rfl, fun q => ⟨_, cr_all hc, a, bs, rfl, SqL.of hq, q⟩⟩
  · obtain ⟨bs, e, rfl⟩ := Option.map_eq_some_iff.mp h
    obtain ⟨v, rfl, r1⟩ := r.one
    obtain ⟨a, us, rfl, hq, r2⟩ := r1.lst
    obtain rfl := blsF_ok e r2
    exact ⟨rfl, fun q => ⟨_, cr_any hc, a, bs, rfl, SqL.of hq, q⟩⟩
  · exact biF_ok hc h r
/-! isinstance -/
def tyN : Ty → String
  | .int => "int"
  | .str => "str"
  | .bool => "bool"
  | .tuple => "tuple"
  | .list => "list"
theorem sqT_ty {a : Addr} (h : SqT K H a vs) : TyX K H (.ref a) (.type "tuple") := by
  rcases h with (h | ⟨o, h⟩) | ⟨o, its, n, h, hc, _⟩
  · exact .base (.tup h)
  · exact .fTuple h
  · exact .kTuple h hc
def tyD : D → Option String
  | .non => some "NoneType"
  | .bl _ => some "bool"
  | .int _ => some "int"
  | .str _ => some "str"
  | .tup _ => some "tuple"
  | .lst _ _ => some "list"
  | _ => none
theorem tyD_ok {n : String} (h : tyD d = some n) (r : Rw T K H d v) : TyX K H v (.type n) := by
  cases d with
  | non => obtain rfl := Option.some.inj h; rw [r.sca rfl]; exact .base .non
  | bl b => obtain rfl := Option.some.inj h; rw [r.sca rfl]; exact .base (.bl b)
  | int i => obtain rfl := Option.some.inj h; rw [r.sca rfl]; exact .base (.int i)
  | str s => obtain rfl := Option.some.inj h; rw [r.sca rfl]; exact .base (.str _)
  | tup es =>
    obtain rfl := Option.some.inj h
    obtain ⟨a, us, rfl, hq, _⟩ := r.tup
    exact sqT_ty hq
  | lst o es =>
    obtain rfl := Option.some.inj h
    obtain ⟨a, us, rfl, hq, _⟩ := r.lst
    exact .base (.lst hq)
  | _ => exact nomatch h
theorem isi_kit : ∀ (t : Ty) (n : String) (b : Bool), (n = "NoneType" ∧ b = false ∨ n = "bool" ∧ b = (decide (t = .bool) || decide (t = .int)) ∨ n = "int" ∧ b = decide (t = .int) ∨ n = "str" ∧ b = decide (t = .str) ∨ n = "tuple" ∧ b = decide (t = .tuple) ∨ n = "list" ∧ b = decide (t = .list)) →
    kitB n (tyN t) = some b := by
  intro t n b h
  rcases h with ⟨rfl, rfl⟩ | ⟨rfl, rfl⟩ | ⟨rfl, rfl⟩ | ⟨rfl, rfl⟩ | ⟨rfl, rfl⟩ | ⟨rfl, rfl⟩ <;> cases t <;> decide +kernel
theorem isiF_ty {t : Ty} {b : Bool} (h : isiF d t = some b) : ∃ n, tyD d = some n ∧ kitB n (tyN t) = some b := by
  cases d with
  | non => cases t <;> (obtain rfl := Option.some.inj h; exact ⟨_, rfl, isi_kit _ _ _ (by simp)⟩)
  | bl x => cases t <;> (obtain rfl := Option.some.inj h; exact ⟨_, rfl, isi_kit _ _ _ (by simp)⟩)
  | int x => cases t <;> (obtain rfl := Option.some.inj h; exact ⟨_, rfl, isi_kit _ _ _ (by simp)⟩)
  | str x => cases t <;> (obtain rfl := Option.some.inj h; exact ⟨_, rfl, isi_kit _ _ _ (by simp)⟩)
  | tup x => cases t <;> (obtain rfl := Option.some.inj h; exact ⟨_, rfl, isi_kit _ _ _ (by simp)⟩)
  | lst o x => cases t <;> (obtain rfl := Option.some.inj h; exact ⟨_, rfl, isi_kit _ _ _ (by simp)⟩)
  | _ => unfold isiF at h; exact nomatch h
theorem isiF_ok {t : Ty} {b : Bool} (h : isiF d t = some b) (r : Rw T X.K H d v) (q : Q (.bl b) H) : WpC X (.builtin "isinstance") [v, .ty (tyN t)] H Q := by
  obtain ⟨n, h1, h2⟩ := isiF_ty h
  exact ⟨_, call_isi, v, .ty (tyN t), .type n, .type (tyN t), b, rfl, .ty _, tyD_ok h1 r, kit_ty h2, q⟩
/-! methods -/
def mtI : Mt → String
  | .startswith => "str.startswith"
  | .partition => "str.partition"
theorem sw_ok (a b : List Nat) : Txt.startswith (mkS a) (mkS b) = TL.pre b a := by
  unfold Txt.startswith TL.pre
  have e : Builtin.Str.subAt (mkS a) (mkS b) 0 = (a.take b.length == b) := by
    rw [StrLaws.subAt_eq, mkS_length]
    rfl
  rw [e]
  cases h : (a.take b.length == b) with
  | false => rw [Bool.and_false]
  | true =>
    rw [Bool.and_true]
    refine decide_eq_true ?_
    rw [mkS_length, mkS_length]
    have := congrArg List.length (eq_of_beq h)
    rw [List.length_take] at this
    omega
theorem zip_sca {ds : List D} (c : Conf T K H S) (hs : ∀ d ∈ ds, Sca d = true) : Conf T K H (zipR (ds.map scaV) ds ++ S) := by
  induction ds with
  | nil => exact c
  | cons d ds ih => exact Conf.sca (d := d) (ih fun z hz => hs z (List.mem_cons_of_mem _ hz)) (hs d List.mem_cons_self)
theorem mtF_ok {m : Mt} (h : mtF m x ds = some d) (r : Rw T X.K H x vx) (rs : RwL T X.K H ds vs) (c : Conf T X.K H S) (k : ∀ v H', Conf T X.K H' ((v, d) :: S) → Q v H') : tyV X.K "str" vx H ∧ WpM X (mtI m) vx vs H Q := by
  unfold mtF at h
  split at h
  · rename_i a b
    obtain rfl := Option.some.inj h
    obtain rfl := r.sca rfl
    obtain ⟨w, rfl, r1⟩ := rs.one
    obtain rfl := r1.sca rfl
    refine ⟨rfl, _, mt_startswith, mkS a, mkS b, rfl, rfl, ?_⟩
    rw [sw_ok]
    exact k _ _ (c.sca (d := .bl _) rfl)
  · rename_i a b
    obtain rfl := r.sca rfl
    obtain ⟨w, rfl, r1⟩ := rs.one
    obtain rfl := r1.sca rfl
    split at h
    · rename_i hz
      obtain ⟨hz1, hz2, hz3⟩ := hz
      have hb : (b.length == 0) = false := by
        cases b with
        | nil => exact absurd rfl hz1
        | cons _ _ => rfl
      refine ⟨rfl, _, mt_partition, mkS a, mkS b, rfl, rfl, by rw [mkS_length]; exact hb, by rw [mkS_length, ← sizeL]; exact hz3, fun p hp => ?_⟩
      rw [TL.partition_par (mkS a) (mkS b) (show b ≠ [] from hz1)]
      have fin : ∀ {u w z : List Nat}, some (D.tup [.str u, .str w, .str z]) = some d → Q (.ref p) (upd H p (.tup [.str (mkS u), .str (mkS w), .str (mkS z)])) := fun {u w z} e => by
        obtain rfl := Option.some.inj e
        exact k _ _ (Conf.mkTup (zip_sca (ds := [.str u, .str w, .str z]) c (by intro d hd; simp at hd; rcases hd with rfl | rfl | rfl <;> rfl)) rfl hp)
      have ea : TL.tl (mkS a) = a := rfl
      have eb : TL.tl (mkS b) = b := rfl
      rw [ea, eb]
      cases hp2 : TL.par b [] a with
      | none =>
        rw [hp2] at h
        exact fin (w := []) (z := []) h
      | some q =>
        rw [hp2] at h
        obtain ⟨q1, q2⟩ := q
        exact fin h
    · exact nomatch h
  · exact nomatch h
/-! truth -/
theorem truF_ok {b : Bool} (h : truF d = some b) (r : Rw T K H d v) : TruV K v H b := by
  cases d <;> first
    | (obtain rfl := Option.some.inj h; rw [r.sca rfl]; rfl)
    | exact nomatch h
end
end Ev

/-! Ev4: the environment, what is wanted behind an expression. -/
namespace Ev
open PySem PySem.Spec PyProof.Rows L2
def roots : L2.St → Env → List Root
  | some v :: σ, some d :: ρ => (v, d) :: roots σ ρ
  | none :: σ, _ :: ρ => roots σ ρ
  | some _ :: σ, none :: ρ => roots σ ρ
  | _, _ => []
def Fits : L2.St → Env → Prop
  | [], [] => True
  | s :: σ, d :: ρ => (d.isSome = true → s.isSome = true) ∧ Fits σ ρ
  | _, _ => False
theorem look_cons0 (d : Option D) (ρ : Env) : look (d :: ρ) 0 = d := by cases d <;> rfl
theorem look_consS (d : Option D) (ρ : Env) (i : Nat) : look (d :: ρ) (i + 1) = look ρ i := rfl
theorem roots_none : ∀ (σ : L2.St) (ρ : Env) (i : Nat), ∃ B, (roots σ ρ).Perm (B ++ roots σ (ρ.set i none))
  | [], [], i => ⟨[], .refl _⟩
  | [], _ :: _, i => ⟨[], by cases i <;> exact .refl _⟩
  | none :: σ, [], i => ⟨[], .refl _⟩
  | some v :: σ, [], i => ⟨[], .refl _⟩
  | none :: σ, d :: ρ, 0 => ⟨[], by cases d <;> exact .refl _⟩
  | some v :: σ, some d :: ρ, 0 => ⟨[(v, d)], .refl _⟩
  | some v :: σ, none :: ρ, 0 => ⟨[], .refl _⟩
  | none :: σ, d :: ρ, i + 1 => by
    obtain ⟨B, h⟩ := roots_none σ ρ i
    exact ⟨B, h⟩
  | some v :: σ, none :: ρ, i + 1 => by
    obtain ⟨B, h⟩ := roots_none σ ρ i
    exact ⟨B, h⟩
  | some v :: σ, some d :: ρ, i + 1 => by
    obtain ⟨B, h⟩ := roots_none σ ρ i
    exact ⟨B, (h.cons (v, d)).trans List.perm_middle.symm⟩
theorem roots_take : ∀ {σ : L2.St} {ρ : Env} {i : Nat} {d : D}, Fits σ ρ → look ρ i = some d → ∃ v, σ[i]? = some (some v) ∧ (roots σ ρ).Perm ((v, d) :: roots σ (ρ.set i none)) ∧ Fits σ (ρ.set i none)
  | [], [], i, d, _, h => by simp [look] at h
  | [], _ :: _, _, _, f, _ => f.elim
  | _ :: _, [], _, _, f, _ => f.elim
  | s :: σ, e :: ρ, 0, d, f, h => by
    rw [look_cons0] at h
    subst h
    obtain ⟨v, rfl⟩ := Option.isSome_iff_exists.mp (f.1 rfl)
    exact ⟨v, rfl, .refl _, fun z => (nomatch z), f.2⟩
  | s :: σ, e :: ρ, i + 1, d, f, h => by
    rw [look_consS] at h
    obtain ⟨v, h1, h2, h3⟩ := roots_take f.2 h
    refine ⟨v, h1, ?_, f.1, h3⟩
    cases s with
    | none => exact h2
    | some w => cases e with
      | none => exact h2
      | some e => exact (h2.cons (w, e)).trans (.swap _ _ _)
theorem roots_back : ∀ {σ : L2.St} {ρ : Env} {i : Nat} {v : V} (d : D), σ[i]? = some (some v) → Fits σ ρ → (roots σ (ρ.set i (some d))).Perm ((v, d) :: roots σ (ρ.set i none)) ∧ Fits σ (ρ.set i (some d))
  | [], _, i, v, d, h, _ => by simp at h
  | _ :: _, [], _, _, _, _, f => f.elim
  | s :: σ, e :: ρ, 0, v, d, h, f => by
    obtain rfl : s = some v := by simpa using h
    exact ⟨.refl _, fun _ => rfl, f.2⟩
  | s :: σ, e :: ρ, i + 1, v, d, h, f => by
    obtain ⟨h1, h2⟩ := roots_back d (by simpa using h) f.2
    refine ⟨?_, f.1, h2⟩
    cases s with
    | none => exact h1
    | some w => cases e with
      | none => exact h1
      | some e => exact (h1.cons (w, e)).trans (.swap _ _ _)
theorem fits_none : ∀ {σ : L2.St} {ρ : Env} (i : Nat), Fits σ ρ → Fits σ (ρ.set i none)
  | [], [], _, f => f
  | [], _ :: _, _, f => f.elim
  | _ :: _, [], _, f => f.elim
  | s :: σ, e :: ρ, 0, f => ⟨fun z => (nomatch z), f.2⟩
  | s :: σ, e :: ρ, i + 1, f => ⟨f.1, fits_none i f.2⟩
/-- a name is stored -/
theorem roots_store : ∀ {σ : L2.St} {ρ : Env} (i : Nat) (v : V) (d : D), Fits σ ρ → Fits (σ.set i (some v)) (ρ.set i (some d)) ∧ ∃ B, ((v, d) :: roots σ ρ).Perm (B ++ roots (σ.set i (some v)) (ρ.set i (some d)))
  | [], [], i, v, d, f => ⟨f, [(v, d)], .refl _⟩
  | [], _ :: _, _, _, _, f => f.elim
  | _ :: _, [], _, _, _, f => f.elim
  | s :: σ, e :: ρ, 0, v, d, f => by
    refine ⟨⟨fun _ => rfl, f.2⟩, ?_⟩
    show ∃ B, ((v, d) :: roots (s :: σ) (e :: ρ)).Perm (B ++ ((v, d) :: roots σ ρ))
    cases s with
    | none => exact ⟨[], .refl _⟩
    | some w => cases e with
      | none => exact ⟨[], .refl _⟩
      | some e => exact ⟨[(w, e)], .swap _ _ _⟩
  | s :: σ, e :: ρ, i + 1, v, d, f => by
    obtain ⟨h1, B, h2⟩ := roots_store i v d f.2
    refine ⟨⟨f.1, h1⟩, B, ?_⟩
    cases s with
    | none => exact h2
    | some w => cases e with
      | none => exact h2
      | some e => exact ((List.Perm.swap _ _ _).trans (h2.cons (w, e))).trans List.perm_middle.symm
theorem roots_wipe : ∀ (σ : L2.St) (ρ : Env) (i : Nat), roots (σ.set i none) (ρ.set i none) = roots σ (ρ.set i none)
  | [], ρ, i => rfl
  | s :: σ, [], i => by cases i <;> cases s <;> rfl
  | none :: σ, e :: ρ, 0 => rfl
  | some v :: σ, e :: ρ, 0 => rfl
  | none :: σ, e :: ρ, i + 1 => roots_wipe σ ρ i
  | some v :: σ, none :: ρ, i + 1 => roots_wipe σ ρ i
  | some v :: σ, some e :: ρ, i + 1 => congrArg ((v, e) :: ·) (roots_wipe σ ρ i)
theorem fits_wipe : ∀ {σ : L2.St} {ρ : Env} (i : Nat), Fits σ ρ → Fits (σ.set i none) (ρ.set i none)
  | [], [], _, f => f
  | [], _ :: _, _, f => f.elim
  | _ :: _, [], _, f => f.elim
  | s :: σ, e :: ρ, 0, f => ⟨fun z => (nomatch z), f.2⟩
  | s :: σ, e :: ρ, i + 1, f => ⟨f.1, fits_wipe i f.2⟩
theorem fits_len : ∀ {σ : L2.St} {ρ : Env}, Fits σ ρ → σ.length = ρ.length
  | [], [], _ => rfl
  | [], _ :: _, f => f.elim
  | _ :: _, [], f => f.elim
  | _ :: σ, _ :: ρ, f => by rw [List.length_cons, List.length_cons, fits_len f.2]

section
variable {T : Tb} {K : PySem.W.Frag} {H : Hp} {R S : List Root} {σ : L2.St} {ρ : Env} {i : Nat} {v : V} {d : D}
theorem Conf.permL {A B : List Root} (c : Conf T K H (A ++ R)) (p : A.Perm B) : Conf T K H (B ++ R) := c.perm (p.append_right R)
/-- a name's datum comes out -/
theorem Conf.take (f : Fits σ ρ) (h : look ρ i = some d) : ∃ v, σ[i]? = some (some v) ∧ Fits σ (ρ.set i none) ∧ ∀ {H R}, Conf T K H (roots σ ρ ++ R) → Conf T K H ((v, d) :: (roots σ (ρ.set i none) ++ R)) := by
  obtain ⟨v, h1, h2, h3⟩ := roots_take f h
  exact ⟨v, h1, h3, fun c => c.permL h2⟩
theorem set_none_none (ρ : Env) (i : Nat) : (ρ.set i none).set i none = ρ.set i none := by rw [List.set_set]
/-- .. and goes back -/
theorem Conf.back (h : σ[i]? = some (some v)) (f : Fits σ ρ) : Fits σ (ρ.set i (some d)) ∧ ∀ {H R}, Conf T K H ((v, d) :: (roots σ (ρ.set i none) ++ R)) → Conf T K H (roots σ (ρ.set i (some d)) ++ R) := by
  obtain ⟨h1, h2⟩ := roots_back d h f
  exact ⟨h2, fun c => Conf.permL (A := _ :: _) c h1.symm⟩
theorem Conf.noneOf (i : Nat) (c : Conf T K H (roots σ ρ ++ R)) : Conf T K H (roots σ (ρ.set i none) ++ R) := by
  obtain ⟨B, h⟩ := roots_none σ ρ i
  have := c.permL h
  rw [List.append_assoc] at this
  exact this.keepR
theorem Conf.store (i : Nat) (f : Fits σ ρ) (c : Conf T K H ((v, d) :: (roots σ ρ ++ R))) : Fits (σ.set i (some v)) (ρ.set i (some d)) ∧ Conf T K H (roots (σ.set i (some v)) (ρ.set i (some d)) ++ R) := by
  obtain ⟨h1, B, h2⟩ := roots_store i v d f
  refine ⟨h1, ?_⟩
  have := Conf.permL (A := _ :: _) c h2
  rw [List.append_assoc] at this
  exact this.keepR
end

/-! ### what is wanted -/
section
variable (T : Tb) (K : PySem.W.Frag) (W : WX) (σ : L2.St) (R : List Root)
def PX (c : Nat) (d : D) (ρ : Env) : Prop := ∀ v H dx, Fits σ ρ → H dx = some (.xd [("value", v)]) → Conf T K H ((v, d) :: (roots σ ρ ++ R)) → W (.ref (T.cls c)) (some dx) σ H
def Post {α : Type} (ok : α → Env → Prop) : Out α → Prop
  | .ok a ρ => ok a ρ
  | .exc c d ρ => PX T K W σ R c d ρ
  | .err => False
def okE (Q : VK) (d : D) (ρ : Env) : Prop := ∀ v H, Fits σ ρ → Conf T K H ((v, d) :: (roots σ ρ ++ R)) → Q v H
def okT (Q : Bool → Hp → Prop) (b : Bool) (ρ : Env) : Prop := ∀ H, Fits σ ρ → Conf T K H (roots σ ρ ++ R) → Q b H
def okO (Q : Option Int → Hp → Prop) (o : Option Int) (ρ : Env) : Prop := ∀ H, Fits σ ρ → Conf T K H (roots σ ρ ++ R) → Q o H
/-- the values of arguments: those that are handed in to be changed stand in their slots -/
def ArV : List Ar → List V → Prop
  | [], [] => True
  | .v _ :: as, _ :: vs => ArV as vs
  | .r j :: as, v :: vs => σ[j]? = some (some v) ∧ ArV as vs
  | _, _ => False
def arR : List V → List Ar → List Root
  | v :: vs, .v d :: as => (v, d) :: arR vs as
  | _ :: vs, .r _ :: as => arR vs as
  | _, _ => []
def okA (Q : List V → Hp → Prop) (as : List Ar) (ρ : Env) : Prop := ∀ vs H, Fits σ ρ → ArV σ as vs → Conf T K H (arR vs as ++ (roots σ ρ ++ R)) → Q vs H
/-- what an iterator yields: Rt lies below it -/
def ItOk (J : It) (Rt : List Root) (ds : List D) : Prop := ∀ S i H, Conf T K H (Rt ++ S) →
  (∀ d, ds[i]? = some d → J.go i H ∧ ∀ x H', J.yld i H x H' → Conf T K H' ((x, d) :: (Rt ++ S))) ∧ (i = ds.length → J.stop i H)
def okI (Q : It → Hp → Prop) (ds : List D) (ρ : Env) : Prop := ∀ J H Rt, Fits σ ρ → ItOk T K J Rt ds → Conf T K H (Rt ++ (roots σ ρ ++ R)) → Q J H
end
section
variable {T : Tb} {K : PySem.W.Frag} {W : WX} {σ : L2.St} {R B : List Root} {α β : Type}
theorem PX.frame {c : Nat} {d : D} {ρ : Env} (h : PX T K W σ R c d ρ) : PX T K W σ (B ++ R) c d ρ := fun v H dx f e c => h v H dx f e (by
  have c2 := Conf.mv (A := (v, d) :: roots σ ρ) (B := B) (R := R) c
  exact c2.keepR)
theorem Post.bind {ok : β → Env → Prop} {ok' : α → Env → Prop} {o : Out α} {f : α → Env → Out β} (h : Post T K W σ R ok (o.bind f)) (k : ∀ a ρ, o = .ok a ρ → Post T K W σ R ok (f a ρ) → ok' a ρ) : Post T K W σ (B ++ R) ok' o := by
  cases o with
  | ok a ρ => exact k a ρ rfl h
  | exc c d ρ => exact PX.frame h
  | err => exact h
theorem Post.ofO {ok : α → Env → Prop} {o : Option α} {ρ : Env} (h : Post T K W σ R ok (ofO o ρ)) : ∃ a, o = some a ∧ ok a ρ := by
  cases o with
  | none => exact h.elim
  | some a => exact ⟨a, rfl, h⟩
end
end Ev

/-! Ev5: where one stands (Sta, Lk); each form of an expression. -/
namespace Ev
open PySem PySem.Spec PyProof.Rows L2
inductive Gb where
  | fn (f np : Nat) (io : List Nat) (ps : List Str) (kbs : List (Nat × List Str × List Nat))
  | con (d : D)
  | bi (b : Bi)
structure Sta where
  N : List Str
  sc : Scope
  sto : List Str
  io : List Nat
  gt : List (Str × Gb)
  bl : List Str

/-- a def's promise -/
def spOf (T : Tb) (K : PySem.W.Frag) (cf : CF) (f np : Nat) (io : List Nat) : Sp := fun vs H Q E => vs.length = np ∧ ∃ ds R, vs.length = ds.length ∧ Conf T K H (zipR vs ds ++ R) ∧
  match cf f ds with
  | .ok d ps => ∀ v H', Conf T K H' ((v, d) :: (zipR (io.map fun i => vs.getD i .non) ps ++ R)) → Q v H'
  | .exc c d ps => ∀ v H' dx, H' dx = some (.xd [("value", v)]) → Conf T K H' ((v, d) :: (zipR (io.map fun i => vs.getD i .non) ps ++ R)) → E (.ref (T.cls c)) (some dx) H'
  | .err => False
/-- how keywords are put behind the positional arguments -/
def kwG {α : Type} (d : α) (ix : List Nat) (us ws : List α) : List α := if ws.length = ix.length then us ++ ix.map fun i => ws.getD i d else []
structure FnLk (T : Tb) (cf : CF) (X : Cx) (x : Str) (f np : Nat) (io : List Nat) (ps : List Str) (kbs : List (Nat × List Str × List Nat)) : Prop where
  ex : ∃ a fd k, X.mg x = some (.ref a) ∧ PySem.W.keepIn X.K (.ref a) = true ∧ Room k X.A ∧ FnOk X.prog X.w X.K X.mg X.base (CX X.prog X.w) k a fd ps (spOf T X.K cf f np io) ∧ Binds X.K fd ps [] ∧
    ∀ q ∈ kbs, KBinds X.K fd ps q.2.1 (kwG .none q.2.2) (kwG .non q.2.2)
structure Lk (T : Tb) (S : Sta) (cf : CF) (X : Cx) (W : WX) : Prop where
  hN : X.N = S.N
  nd : S.N.Nodup
  sc : X.env.scope = S.sc
  fx : ∀ x ∈ S.sto, Loc S.sc x ∧ (X.fn x = true ∨ S.sc.names.lookup x = some .local)
  calm : X.calm = true
  tk : Takes X W
  hp : PassesOwn (model X.prog X.w) X.A X.env X.xe
  kd : S.sc.kind = .function
  un : X.A.units + 1 < cLine
  bl : ∀ x ∈ S.bl, X.mg x = none
  con : ∀ x d, (x, Gb.con d) ∈ S.gt → Sca d = true ∧ ∃ u, X.mg x = some u ∧ RelV (scaV d) u
  bi : ∀ x b, (x, Gb.bi b) ∈ S.gt → ∃ id, biV b = .builtin id ∧ X.mg x = some (.builtin id)
  fn : ∀ x f np io ps kbs, (x, Gb.fn f np io ps kbs) ∈ S.gt → FnLk T cf X x f np io ps kbs

section
variable (T : Tb) (S : Sta) (cf : CF) (X : Cx) (W : WX)
def SndE (e : Expr) (x : Ex) : Prop := ∀ σ H ρ R Q, Fits σ ρ → Conf T X.K H (roots σ ρ ++ R) → Post T X.K W σ R (okE T X.K σ R Q) (evE cf x ρ) → WpE X e σ H Q
def SndT (e : Expr) (x : Ex) : Prop := ∀ σ H ρ R Q, Fits σ ρ → Conf T X.K H (roots σ ρ ++ R) → Post T X.K W σ R (okT T X.K σ R Q) (evT cf x ρ) → WpT X e σ H Q
def SndA (es : List Expr) (xs : Exs) : Prop := ∀ σ H ρ R Q, Fits σ ρ → Conf T X.K H (roots σ ρ ++ R) → Post T X.K W σ R (okA T X.K σ R Q) (evA cf xs ρ) → WpA X es σ H Q
def SndK (ks : List Keyword) (xs : Exs) : Prop := ∀ σ H ρ R Q, Fits σ ρ → Conf T X.K H (roots σ ρ ++ R) → Post T X.K W σ R (okA T X.K σ R Q) (evA cf xs ρ) → WpK X ks σ H Q
def SndO (e : Option Expr) (x : Oe) : Prop := ∀ σ H ρ R Q, Fits σ ρ → Conf T X.K H (roots σ ρ ++ R) → Post T X.K W σ R (okO T X.K σ R Q) (evO cf x ρ) → WpP X e σ H Q
def SndI (tg e : Expr) (x : Itx) : Prop := ∀ σ H ρ R Q, Fits σ ρ → Conf T X.K H (roots σ ρ ++ R) → Post T X.K W σ R (okI T X.K σ R Q) (evI cf x ρ) → WpI X tg e σ H Q
end

section
variable {T : Tb} {S : Sta} {cf : CF} {X : Cx} {W : WX} {σ : L2.St} {H : Hp} {ρ : Env} {R B : List Root} {Q Q' : VK} {a b e : Expr} {xa xb x : Ex} {pos : Pos}
/-- a part is evaluated, B held meanwhile -/
theorem SndE.use {β : Type} {ok : β → Env → Prop} {f : D → Env → Out β} (h : SndE T cf X W e x) (B : List Root) (hf : Fits σ ρ) (c : Conf T X.K H (roots σ ρ ++ (B ++ R))) (hP : Post T X.K W σ R ok ((evE cf x ρ).bind f))
    (k : ∀ d ρ1 v H1, evE cf x ρ = .ok d ρ1 → Post T X.K W σ R ok (f d ρ1) → Fits σ ρ1 → Conf T X.K H1 ((v, d) :: (roots σ ρ1 ++ (B ++ R))) → Q' v H1) : WpE X e σ H Q' :=
  h σ H ρ (B ++ R) Q' hf c (hP.bind fun d ρ1 e1 p v H1 f1 c1 => k d ρ1 v H1 e1 p f1 c1)
theorem SndT.use {β : Type} {ok : β → Env → Prop} {f : Bool → Env → Out β} {Q' : Bool → Hp → Prop} (h : SndT T cf X W e x) (B : List Root) (hf : Fits σ ρ) (c : Conf T X.K H (roots σ ρ ++ (B ++ R))) (hP : Post T X.K W σ R ok ((evT cf x ρ).bind f))
    (k : ∀ d ρ1 H1, evT cf x ρ = .ok d ρ1 → Post T X.K W σ R ok (f d ρ1) → Fits σ ρ1 → Conf T X.K H1 (roots σ ρ1 ++ (B ++ R)) → Q' d H1) : WpT X e σ H Q' :=
  h σ H ρ (B ++ R) Q' hf c (hP.bind fun d ρ1 e1 p H1 f1 c1 => k d ρ1 H1 e1 p f1 c1)
theorem SndA.use {β : Type} {ok : β → Env → Prop} {f : List Ar → Env → Out β} {es : List Expr} {xs : Exs} {Q' : List V → Hp → Prop} (h : SndA T cf X W es xs) (B : List Root) (hf : Fits σ ρ) (c : Conf T X.K H (roots σ ρ ++ (B ++ R))) (hP : Post T X.K W σ R ok ((evA cf xs ρ).bind f))
    (k : ∀ as ρ1 vs H1, evA cf xs ρ = .ok as ρ1 → Post T X.K W σ R ok (f as ρ1) → Fits σ ρ1 → ArV σ as vs → Conf T X.K H1 (arR vs as ++ (roots σ ρ1 ++ (B ++ R))) → Q' vs H1) : WpA X es σ H Q' :=
  h σ H ρ (B ++ R) Q' hf c (hP.bind fun d ρ1 e1 p vs H1 f1 a1 c1 => k d ρ1 vs H1 e1 p f1 a1 c1)
theorem SndK.use {β : Type} {ok : β → Env → Prop} {f : List Ar → Env → Out β} {es : List Keyword} {xs : Exs} {Q' : List V → Hp → Prop} (h : SndK T cf X W es xs) (B : List Root) (hf : Fits σ ρ) (c : Conf T X.K H (roots σ ρ ++ (B ++ R))) (hP : Post T X.K W σ R ok ((evA cf xs ρ).bind f))
    (k : ∀ as ρ1 vs H1, evA cf xs ρ = .ok as ρ1 → Post T X.K W σ R ok (f as ρ1) → Fits σ ρ1 → ArV σ as vs → Conf T X.K H1 (arR vs as ++ (roots σ ρ1 ++ (B ++ R))) → Q' vs H1) : WpK X es σ H Q' :=
  h σ H ρ (B ++ R) Q' hf c (hP.bind fun d ρ1 e1 p vs H1 f1 a1 c1 => k d ρ1 vs H1 e1 p f1 a1 c1)
theorem SndO.use {β : Type} {ok : β → Env → Prop} {f : Option Int → Env → Out β} {o : Option Expr} {xs : Oe} {Q' : Option Int → Hp → Prop} (h : SndO T cf X W o xs) (B : List Root) (hf : Fits σ ρ) (c : Conf T X.K H (roots σ ρ ++ (B ++ R))) (hP : Post T X.K W σ R ok ((evO cf xs ρ).bind f))
    (k : ∀ d ρ1 H1, evO cf xs ρ = .ok d ρ1 → Post T X.K W σ R ok (f d ρ1) → Fits σ ρ1 → Conf T X.K H1 (roots σ ρ1 ++ (B ++ R)) → Q' d H1) : WpP X o σ H Q' :=
  h σ H ρ (B ++ R) Q' hf c (hP.bind fun d ρ1 e1 p H1 f1 c1 => k d ρ1 H1 e1 p f1 c1)

/-! constants, names -/
theorem snd_con {t : TE} {d : D} (hd : Sca d = true) (h : PE X e t) (ht : ∀ σ H Q, Q (scaV d) H → t σ H Q) : SndE T cf X W e (.con d) := fun σ H ρ R Q hf c hP =>
  ⟨t, h, ht σ H Q (hP _ _ hf (Conf.sca c hd))⟩
theorem snd_var {i : Nat} {y : Str} (lk : Lk T S cf X W) (hi : S.N[i]? = some y) (hv : Vis S.sc y) (h1 : (y == ("__debug__" : Str)) = false) (h2 : (y == ("__classdict__" : Str)) = false) : SndE T cf X W (.Name y pos) (.var i) := fun σ H ρ R Q hf c hP => by
  have hP : Post T X.K W σ R (okE T X.K σ R Q) (evVar i ρ) := hP
  unfold evVar at hP
  cases hl : look ρ i with
  | none => rw [hl] at hP; exact hP.elim
  | some d =>
    rw [hl] at hP
    obtain ⟨v, g1, g2, g3⟩ := Conf.take hf hl
    refine ⟨_, pe_var (by rw [lk.hN]; exact hi) (by rw [lk.sc]; exact hv) h1 h2, v, g1, ?_⟩
    obtain ⟨b1, b2⟩ := Conf.back (d := frz d) g1 hf
    refine hP v H b1 ?_
    have c2 := (g3 c).share
    have c3 : Conf T X.K H ((v, frz d) :: (roots σ (ρ.set i none) ++ ((v, frz d) :: R))) := c2.perm (List.Perm.cons _ List.perm_middle.symm)
    exact Conf.bk1 (b2 c3)

/-! operations -/
theorem snd_bin {op : Bop} (ha : SndE T cf X W a xa) (hb : SndE T cf X W b xb) : SndE T cf X W (.BinOp a (opc op) b pos) (.bin op xa xb) := fun σ H ρ R Q hf c hP =>
  ⟨_, pe_op opR_wp pe_wp pe_wp, ha.use [] hf c hP fun x ρ1 vx H1 _ p1 f1 c1 => hb.use [(vx, x)] f1 (Conf.mv1 c1) p1 fun y ρ2 vy H2 _ p2 f2 c2 => by
    obtain ⟨d, hd, ok⟩ := p2.ofO
    exact binF_ok hd (Conf.bk2 c2) fun v H' c3 => ok v H' f2 c3⟩
theorem snd_neg (ha : SndE T cf X W a xa) : SndE T cf X W (.UnaryOp .USub a pos) (.neg xa) := fun σ H ρ R Q hf c hP =>
  ⟨_, pe_un un_neg pe_wp, ha.use [] hf c hP fun x ρ1 vx H1 _ p1 f1 c1 => by
    cases x with
    | int i =>
      obtain rfl := c1.sca_eq rfl
      exact ⟨i, rfl, p1 _ _ f1 (c1.tail.sca (d := .int (-i)) rfl)⟩
    | _ => exact p1.elim⟩
theorem cpc_mark (b : Expr) {op : Cop} (h1 : op ≠ .inn) (h2 : op ≠ .nin) : behindInMarks (cpc op) b = false := nobehind b (by cases op <;> first | exact absurd rfl h1 | (intro z; cases z; done)) (by cases op <;> first | exact absurd rfl h2 | (intro z; cases z; done))
theorem snd_cmp {op : Cop} (ha : SndE T cf X W a xa) (hb : SndE T cf X W b xb) (hm : behindInMarks (cpc op) b = false) : SndE T cf X W (.Compare a [cpc op] [b] pos) (.cmp op xa xb) := fun σ H ρ R Q hf c hP =>
  ⟨_, pe_cmpR opR_wp pe_wp pe_wp hm, ha.use [] hf c hP fun x ρ1 vx H1 _ p1 f1 c1 => hb.use [(vx, x)] f1 (Conf.mv1 c1) p1 fun y ρ2 vy H2 _ p2 f2 c2 => by
    obtain ⟨d, hd, ok⟩ := p2.ofO
    obtain ⟨k, hk, rfl⟩ := Option.map_eq_some_iff.mp hd
    exact cmpF_ok hk (Conf.bk2 c2) (ok _ _ f2 (Conf.sca (d := .bl k) (Conf.tail2 (Conf.bk2 c2)) rfl))⟩
theorem sndT_cmp {op : Cop} (ha : SndE T cf X W a xa) (hb : SndE T cf X W b xb) (hm : behindInMarks (cpc op) b = false) : SndT T cf X W (.Compare a [cpc op] [b] pos) (.cmp op xa xb) := fun σ H ρ R Q hf c hP => by
  have hP : Post T X.K W σ R (okT T X.K σ R Q) (((evE cf xa ρ).bind fun x ρ1 => (evE cf xb ρ1).bind fun y ρ2 => ofO ((cmpF op x y).map .bl) ρ2).bind fun x ρ1 => ofO (truF x) ρ1) := hP
  refine ⟨_, pt_cmpR opR_wp pe_wp pe_wp hm, ?_⟩
  cases ea : evE cf xa ρ with
  | err => rw [ea] at hP; exact hP.elim
  | exc k d r => 
    rw [ea] at hP
    refine ha σ H ρ ([] ++ R) _ hf c ?_
    rw [ea]
    exact PX.frame (B := []) hP
  | ok x ρ1 =>
    rw [ea] at hP
    refine ha σ H ρ ([] ++ R) _ hf c ?_
    rw [ea]
    intro vx H1 f1 c1
    cases eb : evE cf xb ρ1 with
    | err => rw [Out.bind_ok, eb] at hP; exact hP.elim
    | exc k d r =>
      rw [Out.bind_ok, eb] at hP
      refine hb σ H1 ρ1 ([(vx, x)] ++ R) _ f1 (Conf.mv1 c1) ?_
      rw [eb]
      exact PX.frame (B := [(vx, x)]) hP
    | ok y ρ2 =>
      rw [Out.bind_ok, eb, Out.bind_ok] at hP
      refine hb σ H1 ρ1 ([(vx, x)] ++ R) _ f1 (Conf.mv1 c1) ?_
      rw [eb]
      intro vy H2 f2 c2
      cases hd : cmpF op x y with
      | none => rw [hd] at hP; exact hP.elim
      | some k =>
        rw [hd] at hP
        exact cmpF_ok hd (Conf.bk2 c2) ⟨k, rfl, hP _ f2 (Conf.tail2 (Conf.bk2 c2))⟩
theorem isN_val {d : D} {v : V} {S : List Root} (c : Conf T X.K H ((v, d) :: S)) : decide (v = .non) = isNon d := by
  cases d with
  | non => rw [c.sca_eq rfl]; rfl
  | bl b => rw [c.sca_eq rfl]; rfl
  | int i => rw [c.sca_eq rfl]; rfl
  | str s => rw [c.sca_eq rfl]; rfl
  | tup ds => obtain ⟨a, vs, rfl, _⟩ := Conf.tup c; rfl
  | lst o ds => obtain ⟨a, vs, rfl, _⟩ := Conf.lst c; rfl
  | scr ds => obtain ⟨a, vs, rfl, _⟩ := Conf.scr c; rfl
  | dct o ks ds =>
    obtain ⟨O, F, h⟩ := c.rw
    unfold Rp at h
    obtain ⟨a, vs, rfl, _⟩ := h
    rfl
  | ins o k ns ds =>
    obtain ⟨O, F, h⟩ := c.rw
    unfold Rp at h
    obtain ⟨a, vs, dx, rfl, _⟩ := h
    rfl
theorem snd_isN {n : Bool} {j : Nat} {p' : Pos} (ha : SndE T cf X W a xa) : SndE T cf X W (.Compare a [if n = true then .IsNot else .Is] [.Constant .none j p'] pos) (.isN n xa) := fun σ H ρ R Q hf c hP => by
  have go : ∀ x ρ1 vx H1, evE cf xa ρ = .ok x ρ1 → Post T X.K W σ R (okE T X.K σ R Q) (.ok (.bl (isNonF n x)) ρ1) → Fits σ ρ1 → Conf T X.K H1 ((vx, x) :: (roots σ ρ1 ++ ([] ++ R))) → Q (.bl (if n = true then !decide (vx = .non) else decide (vx = .non))) H1 := fun x ρ1 vx H1 _ p1 f1 c1 => by
    have e : decide (vx = .non) = isNon x := isN_val c1
    have p1 : okE T X.K σ R Q (.bl (isNonF n x)) ρ1 := p1
    rw [e]
    exact p1 _ _ f1 (Conf.sca (d := .bl _) c1.tail rfl)
  cases n with
  | true => exact ⟨_, pe_cmp (pc_notN pe_wp) (nobehind _ (by decide) (by decide)), ha.use [] hf c hP go⟩
  | false => exact ⟨_, pe_cmp (pc_isN pe_wp) (nobehind _ (by decide) (by decide)), ha.use [] hf c hP go⟩
theorem sndT_isN {n : Bool} {j : Nat} {p' : Pos} (ha : SndE T cf X W a xa) : SndT T cf X W (.Compare a [if n = true then .IsNot else .Is] [.Constant .none j p'] pos) (.isN n xa) := fun σ H ρ R Q hf c hP => by
  have hP : Post T X.K W σ R (okT T X.K σ R Q) (((evE cf xa ρ).bind fun x ρ1 => .ok (.bl (isNonF n x)) ρ1).bind fun x ρ1 => ofO (truF x) ρ1) := hP
  have hP2 : Post T X.K W σ R (okT T X.K σ R Q) ((evE cf xa ρ).bind fun x ρ1 => .ok (isNonF n x) ρ1) := by
    cases ea : evE cf xa ρ <;> rw [ea] at hP <;> exact hP
  have go : ∀ x ρ1 vx H1, evE cf xa ρ = .ok x ρ1 → Post T X.K W σ R (okT T X.K σ R Q) (.ok (isNonF n x) ρ1) → Fits σ ρ1 → Conf T X.K H1 ((vx, x) :: (roots σ ρ1 ++ ([] ++ R))) → ∃ c, (V.bl (if n = true then !decide (vx = .non) else decide (vx = .non))) = .bl c ∧ Q c H1 := fun x ρ1 vx H1 _ p1 f1 c1 => by
    have e : decide (vx = .non) = isNon x := isN_val c1
    have p1 : okT T X.K σ R Q (isNonF n x) ρ1 := p1
    rw [e]
    exact ⟨_, rfl, p1 _ f1 c1.tail⟩
  cases n with
  | true => exact ⟨_, pt_cmp (pc_notN pe_wp) (nobehind _ (by decide) (by decide)), ha.use [] hf c hP2 go⟩
  | false => exact ⟨_, pt_cmp (pc_isN pe_wp) (nobehind _ (by decide) (by decide)), ha.use [] hf c hP2 go⟩
end
end Ev

/-! Ev6: tests, items, slices, displays, calls. -/
namespace Ev
open PySem PySem.Spec PyProof.Rows L2
section
variable {T : Tb} {S : Sta} {cf : CF} {X : Cx} {W : WX} {σ : L2.St} {H : Hp} {ρ : Env} {R B : List Root} {Q Q' : VK} {a b e i : Expr} {xa xb xc xi x : Ex} {pos : Pos} {es : List Expr} {xs : Exs}
/-! tests -/
theorem sndT_nt (ha : SndT T cf X W a xa) : SndT T cf X W (.UnaryOp .Not a pos) (.nt xa) := fun σ H ρ R Q hf c hP =>
  ⟨_, pt_not pt_wp, SndT.use ha [] hf c hP fun t ρ1 H1 _ p1 f1 c1 => p1 H1 f1 c1⟩
theorem snd_nt (ha : SndE T cf X W a xa) : SndE T cf X W (.UnaryOp .Not a pos) (.nt xa) := fun σ H ρ R Q hf c hP =>
  ⟨_, pe_not pe_wp, SndE.use ha [] hf c hP fun x ρ1 v H1 _ p1 f1 c1 => by
    cases x with
    | bl k =>
      obtain rfl := c1.sca_eq rfl
      exact ⟨k, rfl, p1 _ _ f1 (Conf.sca (d := .bl (!k)) c1.tail rfl)⟩
    | _ => exact p1.elim⟩
/-- a row of tests -/
def SndW (T : Tb) (cf : CF) (X : Cx) (W : WX) (e : Expr) (x : Ex) : Prop := ∀ σ H ρ R Q, Fits σ ρ → Conf T X.K H (roots σ ρ ++ R) → Post T X.K W σ R (okT T X.K σ R Q) (evT cf x ρ) → WpW X e σ H Q
theorem SndW.t (h : SndW T cf X W e x) : SndT T cf X W e x := fun σ H ρ R Q hf c hP => ⟨_, (pw_wp (X := X) (e := e)).pt, h σ H ρ R Q hf c hP⟩
theorem sndW_one {op : BoolOp} (ha : SndT T cf X W a xa) : SndW T cf X W (.BoolOp op [a] pos) xa := fun σ H ρ R Q hf c hP => by
  cases op with
  | And => exact ⟨_, pw_and1 pt_wp, ha σ H ρ R Q hf c hP⟩
  | Or => exact ⟨_, pw_or1 pt_wp, ha σ H ρ R Q hf c hP⟩
theorem sndW_an (ha : SndT T cf X W a xa) (hb : SndW T cf X W (.BoolOp .And (b :: es) pos) xb) : SndW T cf X W (.BoolOp .And (a :: b :: es) pos) (.an xa xb) := fun σ H ρ R Q hf c hP =>
  ⟨_, pw_and pt_wp pw_wp, SndT.use ha [] hf c hP fun t ρ1 H1 _ p1 f1 c1 => by
    cases t with
    | true => rw [if_pos rfl]; exact hb σ H1 ρ1 R Q f1 c1 p1
    | false => rw [if_neg Bool.false_ne_true]; exact p1 H1 f1 c1⟩
theorem sndW_or (ha : SndT T cf X W a xa) (hb : SndW T cf X W (.BoolOp .Or (b :: es) pos) xb) : SndW T cf X W (.BoolOp .Or (a :: b :: es) pos) (.orr xa xb) := fun σ H ρ R Q hf c hP =>
  ⟨_, pw_or pt_wp pw_wp, SndT.use ha [] hf c hP fun t ρ1 H1 _ p1 f1 c1 => by
    cases t with
    | true => rw [if_pos rfl]; exact p1 H1 f1 c1
    | false => rw [if_neg Bool.false_ne_true]; exact hb σ H1 ρ1 R Q f1 c1 p1⟩
theorem snd_one {op : BoolOp} (ha : SndE T cf X W a xa) : SndE T cf X W (.BoolOp op [a] pos) xa := fun σ H ρ R Q hf c hP => ⟨_, pe_one pe_wp, ha σ H ρ R Q hf c hP⟩
theorem snd_an (ha : SndE T cf X W a xa) (hb : SndE T cf X W (.BoolOp .And (b :: es) pos) xb) : SndE T cf X W (.BoolOp .And (a :: b :: es) pos) (.an xa xb) := fun σ H ρ R Q hf c hP =>
  ⟨_, pe_and pe_wp pe_wp, SndE.use ha [] hf c hP fun x ρ1 v H1 _ p1 f1 c1 => by
    cases x with
    | bl k =>
      obtain rfl := c1.sca_eq rfl
      refine ⟨k, rfl, ?_⟩
      cases k with
      | true => rw [if_pos rfl]; exact hb σ H1 ρ1 R Q f1 c1.tail p1
      | false => rw [if_neg Bool.false_ne_true]; exact p1 _ _ f1 (Conf.sca (d := .bl false) c1.tail rfl)
    | _ => exact p1.elim⟩
theorem snd_or (ha : SndE T cf X W a xa) (hb : SndE T cf X W (.BoolOp .Or (b :: es) pos) xb) : SndE T cf X W (.BoolOp .Or (a :: b :: es) pos) (.orr xa xb) := fun σ H ρ R Q hf c hP =>
  ⟨_, pe_or pe_wp pe_wp, SndE.use ha [] hf c hP fun x ρ1 v H1 _ p1 f1 c1 => by
    cases x with
    | bl k =>
      obtain rfl := c1.sca_eq rfl
      refine ⟨k, rfl, ?_⟩
      cases k with
      | true => rw [if_pos rfl]; exact p1 _ _ f1 (Conf.sca (d := .bl true) c1.tail rfl)
      | false => rw [if_neg Bool.false_ne_true]; exact hb σ H1 ρ1 R Q f1 c1.tail p1
    | _ => exact p1.elim⟩
/-- the test of a value -/
theorem sndT_of {f : Env → Out D} (hx : evP cf x = .of f) (he : ∀ whole, isTrue e X.env whole = (do let v ← whole; standAt e.pos; holding [v] (truthy v))) (h : SndE T cf X W e x) : SndT T cf X W e x := fun σ H ρ R Q hf c hP => by
  have hP : Post T X.K W σ R (okT T X.K σ R Q) ((evP cf x).t ρ) := hP
  have e2 : evE cf x = f := by unfold evE; rw [hx]; rfl
  rw [hx] at hP
  have hP : Post T X.K W σ R (okT T X.K σ R Q) ((evE cf x ρ).bind fun x ρ1 => ofO (truF x) ρ1) := by rw [e2]; exact hP
  exact ⟨_, pt_truth pe_wp he, SndE.use h [] hf c hP fun d ρ1 v H1 _ p1 f1 c1 => by
    obtain ⟨k, hk, ok⟩ := p1.ofO
    exact ⟨k, truF_ok hk c1.rw, ok H1 f1 c1.tail⟩⟩
theorem snd_ite {t : Expr} (hc : SndT T cf X W t xc) (ha : SndE T cf X W a xa) (hb : SndE T cf X W b xb) : SndE T cf X W (.IfExp t a b pos) (.ite xc xa xb) := fun σ H ρ R Q hf c hP =>
  ⟨_, pe_ifExp pt_wp pe_wp pe_wp, SndT.use hc [] hf c hP fun k ρ1 H1 _ p1 f1 c1 => by
    cases k with
    | true => rw [if_pos rfl]; exact ha σ H1 ρ1 R Q f1 c1 p1
    | false => rw [if_neg Bool.false_ne_true]; exact hb σ H1 ρ1 R Q f1 c1 p1⟩

/-! items, slices -/
theorem dct_rw {o : Bool} {ks : List Ky} {ds : List D} {v : V} {A : List Root} (c : Conf T X.K H ((v, .dct o ks ds) :: A)) : ∃ a vs, v = .ref a ∧ H a = some (.dK ((ks.map Ky.key).zip vs)) ∧ vs.length = ds.length ∧ ks.length = ds.length ∧ ks.Nodup ∧ Conf T X.K H (zipR vs ds ++ A) := by
  obtain ⟨O, F, ⟨O1, O2, r, h2, h3⟩, k⟩ := c
  have r : Rp T X.K H (.dct o ks ds) v O1 F := r
  unfold Rp at r
  obtain ⟨p, vs, e, P, hr, hl, hn, hs⟩ := r
  have hP : ∀ b, P b ≤ O1 b := by
    rcases hs with ⟨_, _, hl⟩ | ⟨_, _, _, hl⟩
    · exact fun b => Nat.le_trans (Nat.le_add_right _ _) (hl b)
    · exact hl
  refine ⟨p, vs, e, ?_, hr.length, hl, hn, O, F, RpR.append hr.roots h2 (fun b => by have := hP b; have := h3 b; omega), k⟩
  rcases hs with ⟨_, ha, _⟩ | ⟨_, ha, _⟩ <;> exact ha
theorem snd_ixV (lk : Lk T S cf X W) (ha : SndE T cf X W a xa) (hi : SndE T cf X W i xi) (h1 : PlainIx i) (h2 : NoSl i) : SndE T cf X W (.Subscript a i pos) (.ix .val xa xi) := fun σ H ρ R Q hf c hP => by
  have hP : Post T X.K W σ R (okE T X.K σ R Q) ((evE cf xa ρ).bind fun x ρ1 => (evE cf xi ρ1).bind fun y ρ2 => ofO (itemF x y) ρ2) := hP
  cases ea : evE cf xa ρ with
  | err => rw [ea] at hP; exact hP.elim
  | exc k d r =>
    rw [ea] at hP
    refine ⟨_, pe_ix ixR_wp pe_wp pe_wp h1, ha σ H ρ ([] ++ R) _ hf c ?_⟩
    rw [ea]
    exact PX.frame (B := []) hP
  | ok x ρ1 =>
    rw [ea, Out.bind_ok] at hP
    by_cases hx : ∃ o ks ds, x = .dct o ks ds
    · obtain ⟨o, ks, ds, rfl⟩ := hx
      refine ⟨_, pe_dget lk.un pe_wp pe_wp h2, ha σ H ρ ([] ++ R) _ hf c ?_⟩
      rw [ea]
      intro vx H1 f1 c1
      refine SndE.use hi [(vx, .dct o ks ds)] f1 (Conf.mv1 c1) hP fun y ρ2 vy H2 _ p2 f2 c2 => ?_
      obtain ⟨d, hd, ok⟩ := p2.ofO
      have hd : (keyF y).bind (lookF ks ds) = some d := by simpa [itemF] using hd
      obtain ⟨ky, hk, hl⟩ := Option.bind_eq_some_iff.mp hd
      have c3 := Conf.bk2 c2
      obtain rfl := keyF_ok hk c3
      obtain ⟨p, vs, rfl, hp, l1, l2, _, c4⟩ := dct_rw c3.tail
      obtain ⟨v, hv, c5⟩ := lookF_ok hl l1 c4
      exact ⟨p, v, rfl, .inl ⟨_, _, .inl hp, rfl, hv.symm⟩, ok v H2 f2 c5⟩
    · refine ⟨_, pe_ix ixR_wp pe_wp pe_wp h1, ha σ H ρ ([] ++ R) _ hf c ?_⟩
      rw [ea]
      intro vx H1 f1 c1
      refine SndE.use hi [(vx, x)] f1 (Conf.mv1 c1) hP fun y ρ2 vy H2 _ p2 f2 c2 => ?_
      obtain ⟨d, hd, ok⟩ := p2.ofO
      exact itemF_ok hd (fun o ks ds q => hx ⟨o, ks, ds, q⟩) (Conf.bk2 c2) fun v c3 => ok v H2 f2 c3
theorem zip_frz {vs : List V} {ds : List D} : True := trivial
theorem atI_frz {ds : List D} {k : Int} {d : D} (h : atI ds k = some d) : atI (frzL ds) k = some (frz d) := by
  unfold atI at h ⊢
  rw [frzL_length]
  obtain ⟨j, hj, hd⟩ := Option.bind_eq_some_iff.mp h
  rw [hj]
  show (frzL ds)[j]? = some (frz d)
  rw [frzL_map, List.getElem?_map, hd]
  rfl
theorem lookF_frz {ky : Ky} {d : D} : ∀ {ks : List Ky} {ds : List D}, lookF ks ds ky = some d → lookF ks (frzL ds) ky = some (frz d)
  | [], _, h => by unfold lookF at h; exact nomatch h
  | _ :: _, [], h => by unfold lookF at h; exact nomatch h
  | k :: ks, e :: ds, h => by
    show lookF (k :: ks) (frz e :: frzL ds) ky = _
    unfold lookF at h ⊢
    by_cases hk : ky = k
    · rw [if_pos hk] at h ⊢
      rw [Option.some.inj h]
    · rw [if_neg hk] at h ⊢
      exact lookF_frz h
theorem itemF_frz {x y d : D} (h : itemF x y = some d) : itemF (frz x) y = some (frz d) := by
  unfold itemF at h
  split at h
  · exact atI_frz h
  · exact atI_frz h
  · exact atI_frz h
  · show itemF (.str _) _ = _
    unfold itemF
    split at h
    · rename_i hz
      obtain ⟨e, he, rfl⟩ := Option.map_eq_some_iff.mp h
      simp only [if_pos hz, he]
      rfl
    · exact nomatch h
  · obtain ⟨ky, hk, hl⟩ := Option.bind_eq_some_iff.mp h
    show (keyF y).bind _ = _
    rw [hk]
    exact lookF_frz hl
  · exact nomatch h
/-- any item, of what is a root -/
theorem item_any {x y d : D} {vx vy : V} {A : List Root} (hd : itemF x y = some d) (hx : ∀ o ks ds, x ≠ .dct o ks ds) (c : Conf T X.K H ((vy, y) :: (vx, x) :: A)) (k : ∀ v, Conf T X.K H ((v, d) :: A) → Q v H) : WpX X vx vy H Q := itemF_ok hd hx c k
/-- an item of what stands in a name -/
theorem snd_ixR {j : Nat} {y : Str} {p' : Pos} (lk : Lk T S cf X W) (hj : S.N[j]? = some y) (hv : Vis S.sc y) (n1 : (y == ("__debug__" : Str)) = false) (n2 : (y == ("__classdict__" : Str)) = false) (hi : SndE T cf X W i xi) (h1 : PlainIx i) (h2 : NoSl i) :
    SndE T cf X W (.Subscript (.Name y p') i pos) (.ix .ref (.var j) xi) := fun σ H ρ R Q hf c hP => by
  have hP : Post T X.K W σ R (okE T X.K σ R Q) (if (look ρ j).isSome = true then (evE cf xi ρ).bind fun y ρ1 => ixRef j y ρ1 else .err) := hP
  by_cases hs : (look ρ j).isSome = true
  · rw [if_pos hs] at hP
    obtain ⟨d0, hd0⟩ := Option.isSome_iff_exists.mp hs
    have pv : PE X (.Name y p') (tVar j) := pe_var (by rw [lk.hN]; exact hj) (by rw [lk.sc]; exact hv) n1 n2
    obtain ⟨v0, g1, _, _⟩ := roots_take hf hd0
    cases ei : evE cf xi ρ with
    | err => rw [ei] at hP; exact hP.elim
    | exc k d r =>
      rw [ei] at hP
      refine ⟨_, pe_ix ixR_wp pv pe_wp h1, v0, g1, hi σ H ρ ([] ++ R) _ hf c ?_⟩
      rw [ei]
      exact PX.frame (B := []) hP
    | ok ky ρ1 =>
      rw [ei, Out.bind_ok] at hP
      unfold ixRef at hP
      cases hl : look ρ1 j with
      | none => rw [hl] at hP; exact hP.elim
      | some x =>
        rw [hl] at hP
        dsimp only at hP
        cases hd : itemF x ky with
        | none => rw [hd] at hP; exact hP.elim
        | some d =>
          rw [hd] at hP
          dsimp only at hP
          -- what is wanted, of the item
          have go : ∀ vk H1, Fits σ ρ1 → Conf T X.K H1 ((vk, ky) :: (roots σ ρ1 ++ R)) → ∃ x' d', itemF x' ky = some d' ∧ (∀ o ks ds, x' = .dct o ks ds → ∃ o' ds', x = .dct o' ks ds') ∧ (∀ o ks ds, x = .dct o ks ds → ∃ o' ds', x' = .dct o' ks ds') ∧
              ∃ A, Conf T X.K H1 ((vk, ky) :: (v0, x') :: A) ∧ ∀ v, Conf T X.K H1 ((v, d') :: A) → Q v H1 := fun vk H1 f1 c1 => by
            obtain ⟨v1, k1, k2, k3⟩ := roots_take f1 hl
            obtain rfl : v1 = v0 := by rw [g1] at k1; cases k1; rfl
            by_cases hsc : Sca d = true
            · rw [if_pos hsc] at hP
              refine ⟨x, d, hd, fun o ks ds e => ⟨o, ds, e⟩, fun o ks ds e => ⟨o, ds, e⟩, roots σ (ρ1.set j none) ++ R, ?_, fun v cv => ?_⟩
              · exact c1.perm (List.Perm.cons _ (k2.append_right R))
              · obtain rfl := cv.sca_eq hsc
                exact hP _ H1 f1 (Conf.sca c1.tail hsc)
            · rw [if_neg hsc] at hP
              have cs := (c1.tail.perm (k2.append_right R)).share
              obtain ⟨b1, b2⟩ := roots_back (frz x) k1 f1
              refine ⟨frz x, frz d, itemF_frz hd, fun o ks ds e => ?_, fun o ks ds e => ?_, roots σ (ρ1.set j (some (frz x))) ++ R, ?_, fun v cv => hP v H1 b2 cv⟩
              · cases x <;> first | (injection e with e1 e2 e3; subst e2; exact ⟨_, _, rfl⟩) | (cases e; done)
              · subst e; exact ⟨_, _, rfl⟩
              · have c2 : Conf T X.K H1 ((vk, ky) :: (v1, frz x) :: (v1, frz x) :: (roots σ (ρ1.set j none) ++ R)) := by
                  -- the key beside
                  have c0 : Conf T X.K H1 ((v1, x) :: (vk, ky) :: (roots σ (ρ1.set j none) ++ R)) := (c1.perm (List.Perm.cons _ (k2.append_right R))).swap
                  have c3 := c0.share
                  exact c3.perm ((List.Perm.cons _ (List.Perm.swap _ _ _)).trans (List.Perm.swap _ _ _))
                exact c2.perm (List.Perm.cons _ (List.Perm.cons _ (b1.append_right R).symm))
          by_cases hx : ∃ o ks ds, x = .dct o ks ds
          · obtain ⟨o, ks, ds, ex⟩ := hx
            refine ⟨_, pe_dget lk.un pv pe_wp h2, v0, g1, hi σ H ρ R _ hf c ?_⟩
            rw [ei]
            intro vk H1 f1 c1
            obtain ⟨x', d', i1, _, i3, A, c2, k2⟩ := go vk H1 f1 c1
            obtain ⟨o', ds', rfl⟩ := i3 o ks ds ex
            have hd : (keyF ky).bind (lookF ks ds') = some d' := by simpa [itemF] using i1
            obtain ⟨kk, hk, hl2⟩ := Option.bind_eq_some_iff.mp hd
            obtain rfl := keyF_ok hk c2
            obtain ⟨p, vs, rfl, hp, l1, l2, _, c4⟩ := dct_rw c2.tail
            obtain ⟨v, hv2, c5⟩ := lookF_ok hl2 l1 c4
            exact ⟨p, v, rfl, .inl ⟨_, _, .inl hp, rfl, hv2.symm⟩, k2 v c5⟩
          · refine ⟨_, pe_ix ixR_wp pv pe_wp h1, v0, g1, hi σ H ρ R _ hf c ?_⟩
            rw [ei]
            intro vk H1 f1 c1
            obtain ⟨x', d', i1, i2, _, A, c2, k2⟩ := go vk H1 f1 c1
            exact itemF_ok i1 (fun o ks ds e => by obtain ⟨o', ds', e'⟩ := i2 o ks ds e; exact hx ⟨o', ks, ds', e'⟩) c2 k2
  · rw [if_neg hs] at hP
    exact hP.elim
theorem sndO_non : SndO T cf X W none .non := fun σ H ρ R Q hf c hP => ⟨_, po_none, hP H hf c⟩
theorem sndO_som (ha : SndE T cf X W a xa) : SndO T cf X W (some a) (.som xa) := fun σ H ρ R Q hf c hP =>
  ⟨_, po_some pe_wp, SndE.use ha [] hf c hP fun d ρ1 v H1 _ p1 f1 c1 => by
    cases d with
    | int i =>
      obtain rfl := c1.sca_eq rfl
      exact ⟨i, rfl, p1 H1 f1 c1.tail⟩
    | _ => exact p1.elim⟩
theorem cut_mk (s : List Nat) (lo hi : Option Int) : cutS (mkS s) lo hi = mkS (cutL s lo hi) := by
  unfold cutS cutL
  rw [mkS_length]
  rfl
theorem snd_sl {lo hi : Option Expr} {xl xh : Oe} {p2 : Pos} (ha : SndE T cf X W a xa) (hl : SndO T cf X W lo xl) (hh : SndO T cf X W hi xh) : SndE T cf X W (.Subscript a (.Slice lo hi none p2) pos) (.sl xa xl xh) := fun σ H ρ R Q hf c hP =>
  ⟨_, pe_slice slR_wp pe_wp po_wp po_wp, SndE.use ha [] hf c hP fun x ρ1 v H1 e1 p1 f1 c1 => SndO.use hl [(v, x)] f1 (Conf.mv1 c1) p1 fun l ρ2 H2 e2 p2 f2 c2 =>
    SndO.use hh [(v, x)] f2 c2 p2 fun h ρ3 H3 e3 p3 f3 c3 => by
      obtain ⟨d, hd, ok⟩ := p3.ofO
      unfold sliceF at hd
      split at hd
      · rename_i s
        obtain ⟨hz, rfl⟩ := opt_some hd
        have c4 := Conf.bk1 (B := roots σ ρ3) c3
        obtain rfl := c4.sca_eq rfl
        refine ⟨_, sl_str, mkS s, rfl, by rw [mkS_length]; exact szOk_le hz, ?_⟩
        rw [cut_mk]
        exact ok _ _ f3 (Conf.sca (d := .str (cutL s l h)) c4.tail rfl)
      · exact nomatch hd⟩
end
end Ev

/-! Ev7: argument lists, displays, calls. -/
namespace Ev
open PySem PySem.Spec PyProof.Rows L2
def NoStar (e : Expr) : Prop := ∀ p q, e ≠ .Starred p q
theorem star_cons {e : Expr} {es : List Expr} {env : PySem.Env} (h : NoStar e) : starEach (e :: es) env = (false, eval e env) :: starEach es env := by
  cases e <;> first | rfl | exact absurd rfl (h _ _)
theorem plain_star {pos : Pos} {env : PySem.Env} : ∀ {es : List Expr}, (∀ e ∈ es, NoStar e) → (backTo pos (starEach es env)).any (·.1) = false
  | [], _ => rfl
  | e :: es, h => by
    rw [star_cons (h e List.mem_cons_self)]
    show (false || (backTo pos (starEach es env)).any (·.1)) = false
    rw [plain_star fun z hz => h z (List.mem_cons_of_mem _ hz)]
    rfl
section
variable {T : Tb} {S : Sta} {cf : CF} {X : Cx} {W : WX} {σ : L2.St} {H : Hp} {ρ : Env} {R B : List Root} {Q Q' : VK} {a b e i : Expr} {xa xb xc xi x : Ex} {pos : Pos} {es : List Expr} {xs : Exs}
theorem Conf.insert {A C : List Root} {r : Root} (c : Conf T X.K H (A ++ (C ++ (r :: R)))) : Conf T X.K H (r :: (A ++ (C ++ R))) := c.perm (by
  have h : (C ++ (r :: R)).Perm (r :: (C ++ R)) := List.perm_middle
  exact (h.append_left A).trans List.perm_middle)
theorem sndA_nil : SndA T cf X W [] .nil := fun σ H ρ R Q hf c hP => ⟨_, pa_nil, hP [] H hf trivial c⟩
theorem sndA_val (hs : NoStar e) (ha : SndE T cf X W e x) (hr : SndA T cf X W es xs) : SndA T cf X W (e :: es) (.cons .val x xs) := fun σ H ρ R Q hf c hP =>
  ⟨_, pa_cons pe_wp pa_wp (star_cons hs), SndE.use ha [] hf c hP fun d ρ1 v H1 _ p1 f1 c1 => SndA.use hr [(v, d)] f1 (Conf.mv1 c1) p1 fun as ρ2 vs H2 _ p2 f2 av c2 => p2 (v :: vs) H2 f2 av (Conf.insert c2)⟩
theorem sndA_ref {j : Nat} {y : Str} {p' : Pos} (lk : Lk T S cf X W) (hj : S.N[j]? = some y) (hv : Vis S.sc y) (n1 : (y == ("__debug__" : Str)) = false) (n2 : (y == ("__classdict__" : Str)) = false) (hr : SndA T cf X W es xs) :
    SndA T cf X W (.Name y p' :: es) (.cons .ref (.var j) xs) := fun σ H ρ R Q hf c hP => by
  have hP : Post T X.K W σ R (okA T X.K σ R Q) (if (look ρ j).isSome = true then (evA cf xs ρ).bind fun as ρ1 => .ok (.r j :: as) ρ1 else .err) := hP
  by_cases hs : (look ρ j).isSome = true
  · rw [if_pos hs] at hP
    obtain ⟨d0, hd0⟩ := Option.isSome_iff_exists.mp hs
    obtain ⟨v0, g1, _, _⟩ := roots_take hf hd0
    have pv : PE X (.Name y p') (tVar j) := pe_var (by rw [lk.hN]; exact hj) (by rw [lk.sc]; exact hv) n1 n2
    exact ⟨_, pa_cons pv pa_wp (star_cons fun _ _ z => nomatch z), v0, g1, SndA.use hr [] hf c hP fun as ρ2 vs H2 _ p2 f2 av c2 => p2 (v0 :: vs) H2 f2 ⟨g1, av⟩ c2⟩
  · rw [if_neg hs] at hP; exact hP.elim
theorem sndK_nil : SndK T cf X W [] .nil := fun σ H ρ R Q hf c hP => ⟨_, pk_nil, hP [] H hf trivial c⟩
theorem sndK_cons {nm : Option Str} {kp : Pos} {ks : List Keyword} (ha : SndE T cf X W e x) (hr : SndK T cf X W ks xs) : SndK T cf X W (⟨nm, e, kp⟩ :: ks) (.cons .val x xs) := fun σ H ρ R Q hf c hP =>
  ⟨_, pk_cons pe_wp pk_wp, SndE.use ha [] hf c hP fun d ρ1 v H1 _ p1 f1 c1 => SndK.use hr [(v, d)] f1 (Conf.mv1 c1) p1 fun as ρ2 vs H2 _ p2 f2 av c2 => p2 (v :: vs) H2 f2 av (Conf.insert c2)⟩
/-! displays -/
theorem valsA_ok : ∀ {as : List Ar} {ds : List D} {vs : List V}, valsA as = some ds → ArV σ as vs → arR vs as = zipR vs ds ∧ vs.length = ds.length
  | [], ds, [], h, _ => by
    unfold valsA at h
    obtain rfl := Option.some.inj h
    exact ⟨rfl, rfl⟩
  | [], _, _ :: _, _, h => h.elim
  | .v d :: as, ds, [], _, h => h.elim
  | .v d :: as, ds, v :: vs, h, hv => by
    unfold valsA at h
    obtain ⟨ds', e, rfl⟩ := Option.map_eq_some_iff.mp h
    obtain ⟨h1, h2⟩ := valsA_ok e hv
    exact ⟨congrArg ((v, d) :: ·) h1, by rw [List.length_cons, List.length_cons, h2]⟩
  | .r j :: as, ds, _, h, _ => by
    unfold valsA at h
    exact nomatch h
theorem snd_tup {k : Nat} (h : SndA T cf X W es xs) : SndE T cf X W (.Tuple es k pos) (.tup xs) := fun σ H ρ R Q hf c hP =>
  ⟨_, pe_tup pa_wp, SndA.use h [] hf c hP fun as ρ1 vs H1 _ p1 f1 av c1 => by
    cases hd : valsA as with
    | none => rw [hd] at p1; exact p1.elim
    | some ds =>
      rw [hd] at p1
      dsimp only at p1
      obtain ⟨e1, e2⟩ := valsA_ok hd av
      by_cases hz : ds.length ≤ 16777216
      · rw [if_pos hz] at p1
        rw [e1] at c1
        refine ⟨by rw [e2, ← sizeL]; exact hz, fun p hp => p1 _ _ f1 (Conf.mkTup c1 e2 hp)⟩
      · rw [if_neg hz] at p1; exact p1.elim⟩
theorem snd_lst (h : SndA T cf X W es xs) : SndE T cf X W (.List es pos) (.lst xs) := fun σ H ρ R Q hf c hP =>
  ⟨_, pe_lst pa_wp, SndA.use h [] hf c hP fun as ρ1 vs H1 _ p1 f1 av c1 => by
    cases hd : valsA as with
    | none => rw [hd] at p1; exact p1.elim
    | some ds =>
      rw [hd] at p1
      dsimp only at p1
      obtain ⟨e1, e2⟩ := valsA_ok hd av
      by_cases hz : ds.length ≤ 16777216
      · rw [if_pos hz] at p1
        rw [e1] at c1
        refine ⟨by rw [e2, ← sizeL]; exact hz, fun p hp => p1 _ _ f1 (Conf.newLst c1 e2 hp)⟩
      · rw [if_neg hz] at p1; exact p1.elim⟩
/-! a dict's display: written keys -/
def kyC : Ky → Nat → Pos → Option Expr → Prop
  | .int i, k, p, e => e = some (.Constant (.int i) k p)
  | .str s, k, p, e => ∃ z : Str, e = some (.Constant (.str z) k p) ∧ z = mkS s
inductive KyL : List Ky → List (Option Expr) → Prop where
  | nil : KyL [] []
  | cons {ky : Ky} {ks : List Ky} {e : Expr} {es : List (Option Expr)} (h : PE X e (tC (kV ky.key))) (r : KyL ks es) : KyL (ky :: ks) (some e :: es)
theorem putK_new {kvs : List (Key × V)} {k : Key} {v : V} (h : k ∉ kvs.map (·.1)) : putK kvs k v = kvs ++ [(k, v)] := by
  unfold putK
  rw [if_neg]
  intro z
  rw [List.any_eq_true] at z
  obtain ⟨kv, h1, h2⟩ := z
  exact h (List.mem_map.mpr ⟨kv, h1, of_decide_eq_true h2⟩)
theorem merge_new : ∀ (more acc : List (Key × V)), ((acc ++ more).map (·.1)).Nodup → mergeK acc more = acc ++ more
  | [], acc, _ => by rw [List.append_nil]; rfl
  | (k, v) :: more, acc, h => by
    show mergeK (putK acc k v) more = _
    have hk : k ∉ acc.map (·.1) := by
      rw [List.map_append, List.nodup_append] at h
      intro z
      exact h.2.2 k z k (by simp) rfl
    rw [putK_new hk, merge_new more (acc ++ [(k, v)]) (by rw [List.append_assoc]; exact h), List.append_assoc]
    rfl
theorem key_nodup {ks : List Ky} (h : ks.Nodup) : (ks.map Ky.key).Nodup := by
  rw [List.nodup_iff_pairwise_ne] at h ⊢
  exact List.Pairwise.map _ (fun a b n e => n (key_inj.mp e)) h
/-- the pairs' evaluation -/
theorem pairs_ok : ∀ {ks : List Ky} {kes : List (Option Expr)} {ves : List Expr} {xs : Exs}, KyL (X := X) ks kes → SndA T cf X W ves xs → (∀ v ∈ ves, NoStar v) → True := fun _ _ _ => trivial
inductive SndL (T : Tb) (cf : CF) (X : Cx) (W : WX) : List Expr → Exs → Prop where
  | nil : SndL T cf X W [] .nil
  | cons {e : Expr} {x : Ex} {es : List Expr} {xs : Exs} (h : SndE T cf X W e x) (r : SndL T cf X W es xs) : SndL T cf X W (e :: es) (.cons .val x xs)
theorem pps_ok {ks : List Ky} {kes : List (Option Expr)} (hk : KyL (X := X) ks kes) : ∀ {ves : List Expr} {xs : Exs}, SndL T cf X W ves xs → ks.length = ves.length → ∃ trs, PPs X pos kes ves trs ∧
    ∀ σ H ρ R (Q : List (V × V) → Hp → Prop), Fits σ ρ → Conf T X.K H (roots σ ρ ++ R) → Post T X.K W σ R (fun as ρ1 => ∀ ds vs H1, valsA as = some ds → Fits σ ρ1 → vs.length = ds.length → ks.length = ds.length → Conf T X.K H1 (zipR vs ds ++ (roots σ ρ1 ++ R)) → Q ((ks.map fun k => kV k.key).zip vs) H1) (evA cf xs ρ) →
      (∀ as ρ1, evA cf xs ρ = .ok as ρ1 → ∃ ds, valsA as = some ds) → tPairs trs σ H Q := by
  induction hk with
  | nil =>
    intro ves xs hs hl
    cases hs with
    | cons _ _ => exact nomatch hl
    | nil => exact ⟨[], pps_nil, fun σ H ρ R Q hf c hP _ => hP [] [] H rfl hf rfl rfl c⟩
  | @cons ky ks e kes h r ih =>
    intro ves xs hs hl
    cases hs with
    | nil => exact nomatch hl
    | @cons ve vx ves vxs h2 r2 =>
      obtain ⟨trs, h3, h4⟩ := ih r2 (by simpa using hl)
      refine ⟨(tC (kV ky.key), WpE X ve) :: trs, pps_cons h pe_wp h3, fun σ H ρ R Q hf c hP hall => ?_⟩
      show WpE X ve σ H _
      have hP' : Post T X.K W σ R (fun as ρ1 => ∀ ds vs H1, valsA as = some ds → Fits σ ρ1 → vs.length = ds.length → (ky :: ks).length = ds.length → Conf T X.K H1 (zipR vs ds ++ (roots σ ρ1 ++ R)) → Q (((ky :: ks).map fun k => kV k.key).zip vs) H1) ((evE cf vx ρ).bind fun d ρ1 => (evA cf vxs ρ1).bind fun as ρ2 => .ok (.v d :: as) ρ2) := hP
      refine SndE.use h2 [] hf c hP' fun d ρ1 v H1 e1 p1 f1 c1 => ?_
      refine h4 σ H1 ρ1 ([(v, d)] ++ R) _ f1 (Conf.mv1 c1) (p1.bind fun as ρ2 e2 p2 => fun ds vs H2 hd f2 l1 l2 c2 => ?_) fun as ρ2 e2 => ?_
      · exact p2 (d :: ds) (v :: vs) H2 (by show (valsA as).map _ = _; rw [hd]; rfl) f2 (by simp [l1]) (by simp [l2]) (Conf.insert c2)
      · obtain ⟨ds, hd⟩ := hall (.v d :: as) ρ2 (by
          show ((evE cf vx ρ).bind fun d ρ1 => (evA cf vxs ρ1).bind fun as ρ2 => .ok (.v d :: as) ρ2) = _
          rw [e1, Out.bind_ok, e2]
          rfl)
        have hd : (valsA as).map (d :: ·) = some ds := hd
        obtain ⟨ds', e3, _⟩ := Option.map_eq_some_iff.mp hd
        exact ⟨ds', e3⟩
theorem vals_all {ves : List Expr} {xs : Exs} (h : SndL T cf X W ves xs) : ∀ ρ as ρ1, evA cf xs ρ = .ok as ρ1 → ∃ ds, valsA as = some ds := by
  induction h with
  | nil => intro ρ as ρ1 e; cases e; exact ⟨[], rfl⟩
  | @cons e x es xs h r ih =>
    intro ρ as ρ1 e1
    have e1 : ((evE cf x ρ).bind fun d ρ1 => (evA cf xs ρ1).bind fun as ρ2 => .ok (.v d :: as) ρ2) = .ok as ρ1 := e1
    cases ea : evE cf x ρ with
    | ok d ρ2 =>
      rw [ea, Out.bind_ok] at e1
      cases eb : evA cf xs ρ2 with
      | ok bs ρ3 =>
        rw [eb, Out.bind_ok] at e1
        cases e1
        obtain ⟨ds, hd⟩ := ih ρ2 bs ρ1 eb
        exact ⟨d :: ds, by show (valsA bs).map _ = _; rw [hd]; rfl⟩
      | exc _ _ _ => rw [eb] at e1; cases e1
      | err => rw [eb] at e1; cases e1
    | exc _ _ _ => rw [ea] at e1; cases e1
    | err => rw [ea] at e1; cases e1
theorem map_zip_key : ∀ (ks : List Ky) (vs : List V), ((ks.map fun k => kV k.key).zip vs) = ((ks.map Ky.key).zip vs).map fun kv => (kV kv.1, kv.2)
  | [], _ => rfl
  | _ :: _, [] => rfl
  | k :: ks, v :: vs => by
    exact congrArg ((kV k.key, v) :: ·) (map_zip_key ks vs)
theorem keys_zip : ∀ (ks : List Ky) (vs : List V), vs.length = ks.length → (((ks.map Ky.key).zip vs).map (·.1)) = ks.map Ky.key
  | [], _, _ => rfl
  | _ :: _, [], h => nomatch h
  | k :: ks, v :: vs, h => by
    exact congrArg (k.key :: ·) (keys_zip ks vs (by simpa using h))
theorem Conf.newDct {ks : List Ky} {vs : List V} {ds : List D} {p : Addr} (c : ConfX T X.K H p (zipR vs ds ++ R)) (hl : vs.length = ds.length) (hk : ks.length = ds.length) (hn : ks.Nodup) (hp : H p = some (.dK ((ks.map Ky.key).zip vs))) : Conf T X.K H ((.ref p, .dct true ks ds) :: R) := by
  obtain ⟨O, F, h, k, z, n⟩ := c
  obtain ⟨O1, O2, h1, h2, h3⟩ := h.split
  refine ⟨fun b => O b + if b = p then 1 else 0, F, ⟨fun b => O1 b + if b = p then 1 else 0, O2, ?_, h2, fun b => by have := h3 b; show O1 b + _ + O2 b ≤ O b + _; omega⟩, fun b => ?_⟩
  · show Rp T X.K _ (.dct true ks ds) _ _ _
    unfold Rp
    exact ⟨p, vs, rfl, O1, RpL.of_roots h1 hl, hk, hn, .inl ⟨rfl, hp, fun _ => Nat.le_refl _⟩⟩
  · show O b + _ ≤ 1 ∧ (0 < O b + _ → _)
    by_cases hb : b = p
    · subst hb
      rw [if_pos rfl, z]
      exact ⟨Nat.le_refl _, fun _ => n⟩
    · rw [if_neg hb]
      exact k b
theorem Conf.dctX {ks : List Ky} {ds : List D} {v : V} (c : Conf T X.K H ((v, .dct true ks ds) :: R)) : ∃ a vs, v = .ref a ∧ H a = some (.dK ((ks.map Ky.key).zip vs)) ∧ vs.length = ds.length ∧ ConfX T X.K H a (zipR vs ds ++ R) := by
  obtain ⟨O, F, ⟨O1, O2, r, h2, h3⟩, k⟩ := c
  have r : Rp T X.K H (.dct true ks ds) v O1 F := r
  unfold Rp at r
  obtain ⟨a, vs, e, P, hr, _, _, hs⟩ := r
  rcases hs with ⟨_, ha, hl⟩ | ⟨z, _⟩
  · refine ⟨a, vs, e, ha, hr.length, fun b => O1 b - (if b = a then 1 else 0) + O2 b, F, RpR.append (O1 := P) (O2 := O2) hr.roots h2 (fun b => ?_), fun b => ?_, ?_, ?_⟩
    · have := hl b
      show P b + O2 b ≤ O1 b - _ + O2 b
      omega
    · have h4 := h3 b
      have h5 := k b
      show O1 b - _ + O2 b ≤ 1 ∧ (0 < O1 b - _ + O2 b → _)
      exact ⟨by omega, fun z => h5.2 (by omega)⟩
    · have h4 := h3 a
      have h5 := (k a).1
      have h6 := hl a
      show O1 a - (if a = a then 1 else 0) + O2 a = 0
      rw [if_pos rfl] at h6 ⊢
      omega
    · have h4 := h3 a
      have h6 := hl a
      rw [if_pos rfl] at h6
      exact (k a).2 (by omega)
  · exact nomatch z
theorem snd_dct {ks : List Ky} {kes : List (Option Expr)} {ves : List Expr} (hk : KyL (X := X) ks kes) (hs : SndL T cf X W ves xs) (hl : ks.length = ves.length) (hall : kes.all (·.isSome) = true) (hkl : kes.length = ves.length) (h0 : kes ≠ []) (h15 : kes.length ≤ 15) (hn : ks.Nodup) :
    SndE T cf X W (.Dict kes ves pos) (.dct ks xs) := fun σ H ρ R Q hf c hP => by
  obtain ⟨trs, h1, h2⟩ := pps_ok (pos := pos) hk hs hl
  refine ⟨_, pe_disp h1 hall hkl h0 h15, fun p hp => ?_⟩
  have hP : Post T X.K W σ R (okE T X.K σ R Q) ((evA cf xs ρ).bind fun as ρ1 => match valsA as with | some ds => .ok (.dct true ks ds) ρ1 | none => .err) := hP
  -- the empty dict is held meanwhile
  have c0 : Conf T X.K (upd H p (.dK [])) ((.ref p, .dct true [] []) :: (roots σ ρ ++ R)) :=
    Conf.newDct (vs := []) (ds := []) (ks := []) ((c.fresh hp).put fun u e => by rw [hp] at e; exact nomatch e) rfl rfl List.nodup_nil upd_same
  refine h2 σ _ ρ ([(.ref p, .dct true [] [])] ++ R) _ hf (Conf.mv1 c0) (hP.bind fun as ρ1 e1 p1 => fun ds vs H1 hd f1 l1 l2 c1 => ?_) (vals_all hs ρ)
  have c2 : Conf T X.K H1 ((.ref p, .dct true [] []) :: (zipR vs ds ++ (roots σ ρ1 ++ R))) := Conf.insert c1
  obtain ⟨p', us, e, hp', l3, cx⟩ := Conf.dctX c2
  injection e with e
  subst e
  obtain rfl : us = [] := List.eq_nil_of_length_eq_zero l3
  refine ⟨hp', (ks.map Ky.key).zip vs, map_zip_key ks vs, ?_, ?_⟩
  · have : kes.length = ks.length := by omega
    rw [List.length_zip, List.length_map]
    omega
  · have e2 : mergeK [] ((ks.map Ky.key).zip vs) = (ks.map Ky.key).zip vs := by
      have := merge_new ((ks.map Ky.key).zip vs) [] (by rw [List.nil_append, keys_zip ks vs (by omega)]; exact key_nodup hn)
      rw [List.nil_append] at this
      exact this
    rw [e2]
    rw [hd] at p1
    exact p1 _ _ f1 (Conf.newDct (cx.put fun u e3 => by rw [hp'] at e3; cases e3; exact fun z => z) l1 l2 hn upd_same)
end
end Ev

/-! Ev8: calls. -/
namespace Ev
open PySem PySem.Spec PyProof.Rows L2
section
variable {T : Tb} {S : Sta} {cf : CF} {X : Cx} {W : WX} {σ : L2.St} {H : Hp} {ρ : Env} {R B : List Root} {Q Q' : VK} {a b e i : Expr} {xa xb xc xi x : Ex} {pos : Pos} {es : List Expr} {xs : Exs}
/-! built-in functions -/
theorem Conf.rw_mem {v : V} {d : D} : ∀ {A : List Root}, Conf T X.K H A → (v, d) ∈ A → Rw T X.K H d v
  | x :: A, c, h => by
    rcases List.mem_cons.mp h with h | h
    · subst h; exact c.rw
    · exact Conf.rw_mem c.tail h
theorem peek_ok : ∀ {as : List Ar} {ds : List D} {vs : List V}, peekA as ρ = some ds → ArV σ as vs → Fits σ ρ → Conf T X.K H (arR vs as ++ (roots σ ρ ++ R)) → RwL T X.K H ds vs
  | [], ds, [], h, _, _, _ => by
    unfold peekA at h
    obtain rfl := Option.some.inj h
    exact .nil
  | [], _, _ :: _, _, h, _, _ => h.elim
  | .v d :: as, ds, [], _, h, _, _ => h.elim
  | .r d :: as, ds, [], _, h, _, _ => h.elim
  | .v d :: as, ds, v :: vs, h, hv, f, c => by
    unfold peekA at h
    obtain ⟨ds', e, rfl⟩ := Option.map_eq_some_iff.mp h
    have c : Conf T X.K H ((v, d) :: (arR vs as ++ (roots σ ρ ++ R))) := c
    exact .cons c.rw (peek_ok e hv f c.tail)
  | .r j :: as, ds, v :: vs, h, hv, f, c => by
    unfold peekA at h
    obtain ⟨d, hd, h⟩ := Option.bind_eq_some_iff.mp h
    obtain ⟨ds', e, rfl⟩ := Option.map_eq_some_iff.mp h
    obtain ⟨v', g1, g2, _⟩ := roots_take f hd
    obtain ⟨hv1, hv2⟩ := hv
    obtain rfl : v' = v := by rw [hv1] at g1; cases g1; rfl
    refine .cons (Conf.rw_mem c (List.mem_append_right _ (List.mem_append_left _ (g2.mem_iff.mpr List.mem_cons_self)))) (peek_ok e hv2 f c)
def nmB : Bi → Str
  | .len => "len"
  | .int => "int"
  | .str => "str"
  | .abs => "abs"
  | .max => "max"
  | .min => "min"
  | .gcd => "math.gcd"
  | .all => "all"
  | .any => "any"
  | .sum => "sum"
theorem boot_bi : ∀ {b : Bi}, b ≠ .gcd → bootBuiltins (nmB b) = some (biV b) := by
  intro b h
  cases b <;> first | exact absurd rfl h | decide +kernel
theorem nm_ok : ∀ (b : Bi), nmB b ≠ "__name__" ∧ (nmB b == ("__debug__" : Str)) = false := by
  intro b
  cases b <;> decide +kernel
theorem gl_of (lk : Lk T S cf X W) {y : Str} (h : S.sc.names.lookup y = some .globalImplicit) : Gl X y := by
  unfold Gl PySem.Env.kindOf
  rw [lk.sc]
  exact h
/-- what is left of a call's arguments -/
theorem bi_fin {bb : Bi} (lk : Lk T S cf X W) {as : List Ar} {ρ1 : Env} {vs : List V} {H1 : Hp} (p1 : Post T X.K W σ R (okE T X.K σ R Q) (ofO ((peekA as ρ1).bind (biG bb)) ρ1)) (f1 : Fits σ ρ1) (av : ArV σ as vs) (c1 : Conf T X.K H1 (arR vs as ++ (roots σ ρ1 ++ ([] ++ R)))) :
    WpC X (biV bb) vs H1 Q := by
  obtain ⟨d, hd, ok⟩ := p1.ofO
  obtain ⟨ds, h1, h2⟩ := Option.bind_eq_some_iff.mp hd
  obtain ⟨hs, k⟩ := biG_ok (Q := Q) lk.calm h2 (peek_ok h1 av f1 c1)
  exact k (ok _ _ f1 (Conf.sca c1.keepR hs))
theorem snd_bi {bb : Bi} {p' : Pos} (lk : Lk T S cf X W) (hn : bb ≠ .gcd) (hg : S.sc.names.lookup (nmB bb) = some .globalImplicit) (hb : nmB bb ∈ S.bl) (hs : ∀ z ∈ e :: es, NoStar z) (h : SndA T cf X W (e :: es) xs) : SndE T cf X W (.Call (.Name (nmB bb) p') (e :: es) [] pos) (.bi bb xs) := fun σ H ρ R Q hf c hP => by
  have hP : Post T X.K W σ R (okE T X.K σ R Q) ((evA cf xs ρ).bind fun as ρ1 => ofO ((peekA as ρ1).bind (biG bb)) ρ1) := hP
  have st := star_cons (es := es) (env := X.env) (hs e List.mem_cons_self)
  have pl := plain_star (pos := pos) (env := X.env) fun z hz => hs z (List.mem_cons_of_mem _ hz)
  have hm := lk.bl _ hb
  have hgl := gl_of lk hg
  have hbt := boot_bi hn
  obtain ⟨n1, n2⟩ := nm_ok bb
  have go : WpA X (e :: es) σ H fun vs H1 => WpC X (biV bb) vs H1 Q := SndA.use h [] hf c hP fun as ρ1 vs H1 _ p1 f1 av c1 => bi_fin lk p1 f1 av c1
  cases bb with
  | len => exact ⟨_, pe_callB callR_wp hgl hm hbt pa_wp n1 n2 st pl, go⟩
  | int => exact ⟨_, pe_callTy callR_wp hgl hm hbt pa_wp n1 n2 st pl, go⟩
  | str => exact ⟨_, pe_callTy callR_wp hgl hm hbt pa_wp n1 n2 st pl, go⟩
  | abs => exact ⟨_, pe_callB callR_wp hgl hm hbt pa_wp n1 n2 st pl, go⟩
  | max => exact ⟨_, pe_callB callR_wp hgl hm hbt pa_wp n1 n2 st pl, go⟩
  | min => exact ⟨_, pe_callB callR_wp hgl hm hbt pa_wp n1 n2 st pl, go⟩
  | gcd => exact absurd rfl hn
  | all => exact ⟨_, pe_callB callR_wp hgl hm hbt pa_wp n1 n2 st pl, go⟩
  | any => exact ⟨_, pe_callB callR_wp hgl hm hbt pa_wp n1 n2 st pl, go⟩
  | sum => exact ⟨_, pe_callB callR_wp hgl hm hbt pa_wp n1 n2 st pl, go⟩
theorem snd_big {bb : Bi} {y : Str} {p' : Pos} (lk : Lk T S cf X W) (hg : S.sc.names.lookup y = some .globalImplicit) (hb : (y, Gb.bi bb) ∈ S.gt) (hdb : (y == ("__debug__" : Str)) = false) (hs : ∀ z ∈ e :: es, NoStar z) (h : SndA T cf X W (e :: es) xs) : SndE T cf X W (.Call (.Name y p') (e :: es) [] pos) (.bi bb xs) := fun σ H ρ R Q hf c hP => by
  have hP : Post T X.K W σ R (okE T X.K σ R Q) ((evA cf xs ρ).bind fun as ρ1 => ofO ((peekA as ρ1).bind (biG bb)) ρ1) := hP
  have st := star_cons (es := es) (env := X.env) (hs e List.mem_cons_self)
  have pl := plain_star (pos := pos) (env := X.env) fun z hz => hs z (List.mem_cons_of_mem _ hz)
  obtain ⟨id, e1, hm⟩ := lk.bi _ _ hb
  have go : WpA X (e :: es) σ H fun vs H1 => WpC X (.builtin id) vs H1 Q := SndA.use h [] hf c hP fun as ρ1 vs H1 _ p1 f1 av c1 => by
    rw [← e1]
    exact bi_fin lk p1 f1 av c1
  exact ⟨_, pe_callBfun callR_wp (gl_of lk hg) hm pa_wp hdb st pl, go⟩
/-! isinstance -/
def nmT (t : Ty) : Str := Str.ofString (tyN t)
theorem boot_ty (t : Ty) : bootBuiltins (nmT t) = some (.type (tyN t)) ∧ nmT t ≠ "__name__" ∧ (nmT t == ("__debug__" : Str)) = false := by
  cases t <;> decide +kernel
theorem pe_ty {t : Ty} {p : Pos} (lk : Lk T S cf X W) (hg : S.sc.names.lookup (nmT t) = some .globalImplicit) (hb : nmT t ∈ S.bl) : PE X (.Name (nmT t) p) (tC (.ty (tyN t))) :=
  pe_bltn (gl_of lk hg) (lk.bl _ hb) (boot_ty t).1 rfl (boot_ty t).2.1 (boot_ty t).2.2
theorem snd_isiV {t : Ty} {p1 p2 : Pos} (lk : Lk T S cf X W) (hg : S.sc.names.lookup ("isinstance" : Str) = some .globalImplicit) (hb : ("isinstance" : Str) ∈ S.bl) (tg : S.sc.names.lookup (nmT t) = some .globalImplicit) (tb : nmT t ∈ S.bl) (hs : NoStar a) (ha : SndE T cf X W a xa) :
    SndE T cf X W (.Call (.Name "isinstance" p1) [a, .Name (nmT t) p2] [] pos) (.isi .val xa t) := fun σ H ρ R Q hf c hP => by
  have hP : Post T X.K W σ R (okE T X.K σ R Q) ((evE cf xa ρ).bind fun x ρ1 => ofO ((isiF x t).map .bl) ρ1) := hP
  refine ⟨_, pe_callB callR_wp (gl_of lk hg) (lk.bl _ hb) PyProof.Rows.boot_isinstance (pa_cons pe_wp (pa_cons (pe_ty lk tg tb) pa_nil (star_cons fun _ _ z => nomatch z)) (star_cons hs)) (by decide) (by decide) (star_cons hs) (plain_star fun z hz => by obtain rfl := List.mem_singleton.mp hz; exact fun _ _ z => nomatch z), ?_⟩
  refine SndE.use ha [] hf c hP fun x ρ1 v H1 _ p1 f1 c1 => ?_
  obtain ⟨d, hd, ok⟩ := p1.ofO
  obtain ⟨k, hk, rfl⟩ := Option.map_eq_some_iff.mp hd
  exact isiF_ok hk c1.rw (ok _ _ f1 (Conf.sca (d := .bl k) c1.tail rfl))
theorem snd_isiR {j : Nat} {y : Str} {t : Ty} {p0 p1 p2 : Pos} (lk : Lk T S cf X W) (hg : S.sc.names.lookup ("isinstance" : Str) = some .globalImplicit) (hb : ("isinstance" : Str) ∈ S.bl) (tg : S.sc.names.lookup (nmT t) = some .globalImplicit) (tb : nmT t ∈ S.bl)
    (hj : S.N[j]? = some y) (hv : Vis S.sc y) (n1 : (y == ("__debug__" : Str)) = false) (n2 : (y == ("__classdict__" : Str)) = false) :
    SndE T cf X W (.Call (.Name "isinstance" p1) [.Name y p0, .Name (nmT t) p2] [] pos) (.isi .ref (.var j) t) := fun σ H ρ R Q hf c hP => by
  have hP : Post T X.K W σ R (okE T X.K σ R Q) (ofO ((look ρ j).bind fun x => (isiF x t).map .bl) ρ) := hP
  obtain ⟨d, hd, ok⟩ := hP.ofO
  obtain ⟨x, hx, hd⟩ := Option.bind_eq_some_iff.mp hd
  obtain ⟨k, hk, rfl⟩ := Option.map_eq_some_iff.mp hd
  obtain ⟨v, g1, g2, _⟩ := roots_take hf hx
  have pv : PE X (.Name y p0) (tVar j) := pe_var (by rw [lk.hN]; exact hj) (by rw [lk.sc]; exact hv) n1 n2
  refine ⟨_, pe_callB callR_wp (gl_of lk hg) (lk.bl _ hb) PyProof.Rows.boot_isinstance (pa_cons pv (pa_cons (pe_ty lk tg tb) pa_nil (star_cons fun _ _ z => nomatch z)) (star_cons fun _ _ z => nomatch z)) (by decide) (by decide) (star_cons fun _ _ z => nomatch z) (plain_star fun z hz => by obtain rfl := List.mem_singleton.mp hz; exact fun _ _ z => nomatch z), ?_⟩
  exact ⟨v, g1, isiF_ok hk (Conf.rw_mem c (List.mem_append_left _ (g2.mem_iff.mpr List.mem_cons_self))) (ok _ _ hf (Conf.sca (d := .bl k) c rfl))⟩
/-! methods of texts, of one argument -/
def nmM : Mt → Str
  | .startswith => "startswith"
  | .partition => "partition"
theorem slot_m (m : Mt) : Slot "str" (nmM m) (mtI m) ∧ typeOf (.builtin (mtI m)) = pure (.type "method_descriptor") := by
  cases m with
  | startswith => exact ⟨F.slot_str_startswith, F.type_str_startswith⟩
  | partition => exact ⟨F.slot_str_partition, F.type_str_partition⟩
theorem snd_mt {m : Mt} {apos : Pos} (ho : SndE T cf X W a xa) (h : SndE T cf X W e x) (hs : NoStar e) (hbase : attributeBase a (nmM m) X.env (eval a X.env) = eval a X.env) (hline : (apos.endLine == pos.line) = true) :
    SndE T cf X W (.Call (.Attribute a (nmM m) apos) [e] [] pos) (.mt m xa (.cons .val x .nil)) := fun σ H ρ R Q hf c hP => by
  obtain ⟨sl, ty⟩ := slot_m m
  have hP : Post T X.K W σ R (okE T X.K σ R Q) ((evE cf xa ρ).bind fun o ρ1 => if isStr o = true then ((evE cf x ρ1).bind fun d ρ2 => .ok [.v d] ρ2).bind fun as ρ3 => ofO ((valsA as).bind (mtF m o)) ρ3 else .err) := hP
  refine ⟨_, pe_m1 sl ty mtR_wp pe_wp pe_wp (star_cons hs) hbase hline, SndE.use ho [] hf c hP fun o ρ1 v H1 e1 p1 f1 c1 => ?_⟩
  cases o with
  | str s =>
    have p1 : Post T X.K W σ R (okE T X.K σ R Q) (((evE cf x ρ1).bind fun d ρ2 => .ok [.v d] ρ2).bind fun as ρ3 => ofO ((valsA as).bind (mtF m (.str s))) ρ3) := p1
    have p1' : Post T X.K W σ R (okE T X.K σ R Q) ((evE cf x ρ1).bind fun d ρ2 => ofO (mtF m (.str s) [d]) ρ2) := by
      cases e2 : evE cf x ρ1 <;> rw [e2] at p1 <;> exact p1
    obtain rfl := c1.sca_eq rfl
    refine ⟨⟨mkS s, rfl⟩, SndE.use h [(.str (mkS s), .str s)] f1 (Conf.mv1 c1) p1' fun d ρ2 w H2 e2 p2 f2 c2 => ?_⟩
    obtain ⟨r, hr, ok⟩ := p2.ofO
    have c3 := Conf.bk2 c2
    exact (mtF_ok hr c3.tail.rw (.cons c3.rw .nil) (Conf.tail2 c3) fun v' H' c4 => ok v' H' f2 c4).2
  | _ => exact p1.elim
/-! f-strings -/
inductive FsL (T : Tb) (cf : CF) (X : Cx) (W : WX) : List Expr → Exs → Prop where
  | nil : FsL T cf X W [] .nil
  | str {z : Str} {s : List Nat} {k : Nat} {p : Pos} {es : List Expr} {xs : Exs} (hz : z = mkS s) (r : FsL T cf X W es xs) : FsL T cf X W (.Constant (.str z) k p :: es) (.cons .val (.con (.str s)) xs)
  | fmt {e : Expr} {p : Pos} {x : Ex} {es : List Expr} {xs : Exs} (h : SndE T cf X W e x) (r : FsL T cf X W es xs) : FsL T cf X W (.FormattedValue e (-1) none p :: es) (.cons .val x xs)
theorem mkS_app (a b : List Nat) : mkS a ++ mkS b = mkS (a ++ b) := TL.ext_tl (by rw [TL.tl_append]; rfl)
theorem fmt_ok {d : D} {s : List Nat} {v : V} {A : List Root} (h : fmtF d = some s) (c : Conf T X.K H ((v, d) :: A)) (k : Q (.str (mkS s)) H) : (∃ y : Str, v = .str y ∧ y.length ≤ sizeLine ∧ Q (.str y) H) ∨ ∃ i : Int, v = .int i ∧ i.natAbs.log2 < 1920 ∧ Q (.str (toString i)) H := by
  unfold fmtF at h
  split at h
  · obtain ⟨hz, rfl⟩ := opt_some h
    obtain rfl := c.sca_eq rfl
    exact .inl ⟨_, rfl, by rw [mkS_length]; exact szOk_le hz, k⟩
  · obtain ⟨hz, rfl⟩ := opt_some h
    obtain rfl := c.sca_eq rfl
    refine .inr ⟨_, rfl, of_decide_eq_true hz, ?_⟩
    show Q (.str (Str.ofString _)) H
    rw [mkS_num]
    exact k
  · exact nomatch h
theorem fs_ok : ∀ {es : List Expr} {xs : Exs}, FsL T cf X W es xs → ∃ ts, PJ X es ts ∧ ∀ σ H ρ R (acc : List Nat) (Q : VK), Fits σ ρ → Conf T X.K H (roots σ ρ ++ R) → Post T X.K W σ R (okE T X.K σ R Q) (evF cf xs acc ρ) → tJs ts (mkS acc) σ H (fun out H1 => Q (.str out) H1) := by
  intro es xs h
  induction h with
  | nil => exact ⟨[], .nil, fun σ H ρ R acc Q hf c hP => hP _ _ hf (Conf.sca (d := .str acc) c rfl)⟩
  | @str z s k p es xs hz r ih =>
    obtain ⟨ts, h1, h2⟩ := ih
    refine ⟨tC (.str z) :: ts, .cons (pe_str (X := X)) h1, fun σ H ρ R acc Q hf c hP => ?_⟩
    have hP : Post T X.K W σ R (okE T X.K σ R Q) ((Out.ok (D.str s) ρ).bind fun d ρ1 => match fmtF d with
      | some s => if acc.length + s.length ≤ 16777216 then evF cf xs (acc ++ s) ρ1 else .err
      | none => .err) := hP
    rw [Out.bind_ok] at hP
    cases hs : fmtF (.str s) with
    | none => rw [hs] at hP; exact hP.elim
    | some s' =>
      rw [hs] at hP
      obtain ⟨_, es'⟩ := opt_some (show opt (szOk s.length) s = some s' from hs)
      subst es'
      dsimp only at hP
      by_cases hl : acc.length + s.length ≤ 16777216
      · rw [if_pos hl] at hP
        show ∃ y : Str, V.str z = .str y ∧ (mkS acc ++ y).length ≤ sizeLine ∧ tJs ts (mkS acc ++ y) σ H _
        refine ⟨z, rfl, ?_, ?_⟩
        · rw [hz, mkS_app, mkS_length, List.length_append, ← sizeL]; exact hl
        · rw [hz, mkS_app]; exact h2 σ H ρ R _ Q hf c hP
      · rw [if_neg hl] at hP; exact hP.elim
  | @fmt e p x es xs h r ih =>
    obtain ⟨ts, h1, h2⟩ := ih
    refine ⟨_ :: ts, .cons (pe_fmt (pe_wp (X := X) (e := e))) h1, fun σ H ρ R acc Q hf c hP => ?_⟩
    have hP : Post T X.K W σ R (okE T X.K σ R Q) ((evE cf x ρ).bind fun d ρ1 => match fmtF d with
      | some s => if acc.length + s.length ≤ 16777216 then evF cf xs (acc ++ s) ρ1 else .err
      | none => .err) := hP
    refine SndE.use h [] hf c hP fun d ρ1 v H1 e1 p1 f1 c1 => ?_
    cases hs : fmtF d with
    | none => rw [hs] at p1; exact p1.elim
    | some s =>
      rw [hs] at p1
      dsimp only at p1
      by_cases hl : acc.length + s.length ≤ 16777216
      · rw [if_pos hl] at p1
        refine fmt_ok (Q := fun x H1 => ∃ y : Str, x = .str y ∧ (mkS acc ++ y).length ≤ sizeLine ∧ tJs ts (mkS acc ++ y) σ H1 (fun out H1 => Q (.str out) H1)) hs c1 ⟨mkS s, rfl, ?_, ?_⟩
        · rw [mkS_app, mkS_length, List.length_append, ← sizeL]; exact hl
        · rw [mkS_app]; exact h2 σ H1 ρ1 R _ Q f1 c1.tail p1
      · rw [if_neg hl] at p1; exact p1.elim
theorem snd_fs {e1 e2 : Expr} (h : FsL T cf X W (e1 :: e2 :: es) xs) : SndE T cf X W (.JoinedStr (e1 :: e2 :: es) pos) (.fs xs) := fun σ H ρ R Q hf c hP => by
  obtain ⟨ts, h1, h2⟩ := fs_ok h
  exact ⟨_, pe_joined h1, h2 σ H ρ R [] Q hf c hP⟩
theorem snd_fs1 {p : Pos} (h : SndE T cf X W e x) : SndE T cf X W (.JoinedStr [.FormattedValue e (-1) none p] pos) (.fs (.cons .val x .nil)) := fun σ H ρ R Q hf c hP => by
  have hP : Post T X.K W σ R (okE T X.K σ R Q) ((evE cf x ρ).bind fun d ρ1 => match fmtF d with
      | some s => if [].length + s.length ≤ 16777216 then .ok (.str ([] ++ s)) ρ1 else .err
      | none => .err) := hP
  refine ⟨_, pe_joined1 (pe_fmt pe_wp), SndE.use h [] hf c hP fun d ρ1 v H1 e1 p1 f1 c1 => ?_⟩
  cases hs : fmtF d with
  | none => rw [hs] at p1; exact p1.elim
  | some s =>
    rw [hs] at p1
    dsimp only at p1
    by_cases hl : ([] : List Nat).length + s.length ≤ 16777216
    · rw [if_pos hl] at p1
      exact fmt_ok hs c1 (p1 _ _ f1 (Conf.sca (d := .str s) c1.tail rfl))
    · rw [if_neg hl] at p1; exact p1.elim
end
end Ev

/-! Ev9: calls of the text's own defs. -/
namespace Ev
open PySem PySem.Spec PyProof.Rows L2
theorem swap3 {α : Type} (A B C : List α) : (A ++ (B ++ C)).Perm (B ++ (A ++ C)) := by
  rw [← List.append_assoc, ← List.append_assoc]
  exact List.perm_append_comm.append_right C
def rtOf : V × Ar → Option Root
  | (v, .v d) => some (v, d)
  | (_, .r _) => none
def rfOk (σ : L2.St) : V × Ar → Prop
  | (_, .v _) => True
  | (v, .r j) => σ[j]? = some (some v)
theorem arR_eq : ∀ (vs : List V) (as : List Ar), arR vs as = (vs.zip as).filterMap rtOf
  | [], _ => by cases ‹List Ar› <;> rfl
  | _ :: _, [] => rfl
  | v :: vs, .v d :: as => congrArg ((v, d) :: ·) (arR_eq vs as)
  | v :: vs, .r j :: as => arR_eq vs as
theorem arV_iff {σ : L2.St} : ∀ (as : List Ar) (vs : List V), ArV σ as vs ↔ as.length = vs.length ∧ ∀ p ∈ vs.zip as, rfOk σ p
  | [], [] => ⟨fun _ => ⟨rfl, fun _ h => nomatch h⟩, fun _ => trivial⟩
  | [], _ :: _ => ⟨fun h => h.elim, fun h => nomatch h.1⟩
  | .v _ :: _, [] => ⟨fun h => h.elim, fun h => nomatch h.1⟩
  | .r _ :: _, [] => ⟨fun h => h.elim, fun h => nomatch h.1⟩
  | .v d :: as, v :: vs => by
    have ih := arV_iff (σ := σ) as vs
    constructor
    · intro h
      obtain ⟨h1, h2⟩ := ih.mp h
      refine ⟨by simp [h1], fun p hp => ?_⟩
      rcases List.mem_cons.mp hp with rfl | hp
      · trivial
      · exact h2 p hp
    · intro h
      exact ih.mpr ⟨by simpa using h.1, fun p hp => h.2 p (List.mem_cons_of_mem _ hp)⟩
  | .r j :: as, v :: vs => by
    have ih := arV_iff (σ := σ) as vs
    constructor
    · intro h
      obtain ⟨h1, h2⟩ := ih.mp h.2
      refine ⟨by simp [h1], fun p hp => ?_⟩
      rcases List.mem_cons.mp hp with rfl | hp
      · exact h.1
      · exact h2 p hp
    · intro h
      exact ⟨h.2 _ List.mem_cons_self, ih.mpr ⟨by simpa using h.1, fun p hp => h.2 p (List.mem_cons_of_mem _ hp)⟩⟩
def ioV (io : List Nat) : Nat → List V → List V
  | _, [] => []
  | i, v :: vs => if i ∈ io then v :: ioV io (i + 1) vs else ioV io (i + 1) vs
theorem ioV_eq (io : List Nat) : ∀ (as : List Ar) (vs pre : List V), as.length = vs.length → (refPos io pre.length as).map (fun i => (pre ++ vs).getD i .non) = ioV io pre.length vs
  | [], [], _, _ => rfl
  | [], _ :: _, _, h => nomatch h
  | _ :: _, [], _, h => nomatch h
  | a :: as, v :: vs, pre, h => by
    have ih := ioV_eq io as vs (pre ++ [v]) (by simpa using h)
    rw [List.length_append, List.append_assoc] at ih
    have ih : (refPos io (pre.length + 1) as).map (fun i => (pre ++ v :: vs).getD i .non) = ioV io (pre.length + 1) vs := ih
    unfold refPos ioV
    split
    · show (pre ++ v :: vs).getD pre.length .non :: _ = _
      rw [show (pre ++ v :: vs).getD pre.length .non = v by simp [List.getD]]
      exact congrArg (v :: ·) ih
    · exact ih
section
variable {T : Tb} {S : Sta} {cf : CF} {X : Cx} {W : WX} {σ : L2.St} {H : Hp} {ρ : Env} {R B : List Root} {Q Q' : VK} {a b e i : Expr} {xa xb xc xi x : Ex} {pos : Pos} {es : List Expr} {xs : Exs}
theorem Conf.outs {A C : List Root} {r : Root} (c : Conf T X.K H (r :: (A ++ (C ++ R)))) : Conf T X.K H (A ++ (C ++ (r :: R))) := c.perm (by
  have h : (C ++ (r :: R)).Perm (r :: (C ++ R)) := List.perm_middle
  exact ((h.append_left A).trans List.perm_middle).symm)
theorem take_ok : ∀ {as : List Ar} {ρ ρ2 : Env} {ds : List D} {vs : List V} {R : List Root}, takeA as ρ = some (ds, ρ2) → Fits σ ρ → ArV σ as vs → Conf T X.K H (arR vs as ++ (roots σ ρ ++ R)) →
    Fits σ ρ2 ∧ vs.length = ds.length ∧ Conf T X.K H (zipR vs ds ++ (roots σ ρ2 ++ R))
  | [], ρ, ρ2, ds, [], R, h, f, _, c => by
    unfold takeA at h
    cases h
    exact ⟨f, rfl, c⟩
  | [], _, _, _, _ :: _, _, _, _, h, _ => h.elim
  | .v _ :: _, _, _, _, [], _, _, _, h, _ => h.elim
  | .r _ :: _, _, _, _, [], _, _, _, h, _ => h.elim
  | .v d :: as, ρ, ρ2, ds, v :: vs, R, h, f, hv, c => by
    unfold takeA at h
    obtain ⟨⟨ds', r⟩, e, e2⟩ := Option.map_eq_some_iff.mp h
    cases e2
    obtain ⟨h1, h2, h3⟩ := take_ok e f hv (Conf.outs (r := (v, d)) (A := arR vs as) c)
    exact ⟨h1, by simp [h2], Conf.insert h3⟩
  | .r j :: as, ρ, ρ2, ds, v :: vs, R, h, f, hv, c => by
    unfold takeA at h
    cases hl : look ρ j with
    | none => rw [hl] at h; exact nomatch h
    | some d =>
      rw [hl] at h
      obtain ⟨⟨ds', r⟩, e, e2⟩ := Option.map_eq_some_iff.mp h
      cases e2
      obtain ⟨v', g1, g2, g3⟩ := roots_take f hl
      obtain ⟨hv1, hv2⟩ := hv
      obtain rfl : v' = v := by rw [hv1] at g1; cases g1; rfl
      have c2 : Conf T X.K H (arR vs as ++ (roots σ (ρ.set j none) ++ ((v', d) :: R))) := c.perm ((((g2.append_right R).trans (List.perm_middle (l₁ := roots σ (ρ.set j none))).symm)).append_left (arR vs as))
      obtain ⟨h1, h2, h3⟩ := take_ok e g3 hv2 c2
      exact ⟨h1, by simp [h2], Conf.insert h3⟩
theorem put_ok {io : List Nat} : ∀ {i : Nat} {as : List Ar} {ps : List D} {ρ r : Env} {vs : List V}, putA io i as ps ρ = some r → Fits σ ρ → ArV σ as vs → Conf T X.K H (zipR (ioV io i vs) ps ++ (roots σ ρ ++ R)) → Fits σ r ∧ Conf T X.K H (roots σ r ++ R)
  | i, [], [], ρ, r, [], h, f, _, c => by
    unfold putA at h
    cases h
    exact ⟨f, c⟩
  | i, [], _ :: _, _, _, _, h, _, _, _ => by unfold putA at h; exact nomatch h
  | i, [], [], _, _, _ :: _, _, _, h, _ => h.elim
  | i, .v _ :: _, _, _, _, [], _, _, h, _ => h.elim
  | i, .r _ :: _, _, _, _, [], _, _, h, _ => h.elim
  | i, .v d :: as, ps, ρ, r, v :: vs, h, f, hv, c => by
    unfold putA at h
    unfold ioV at c
    split at h
    · rename_i hi
      rw [if_pos hi] at c
      cases ps with
      | nil => exact nomatch h
      | cons p ps => exact put_ok h f hv (Conf.tail (x := (v, p)) c)
    · rename_i hi
      rw [if_neg hi] at c
      exact put_ok h f hv c
  | i, .r j :: as, [], _, _, _ :: _, h, _, _, _ => by unfold putA at h; exact nomatch h
  | i, .r j :: as, p :: ps, ρ, r, v :: vs, h, f, hv, c => by
    unfold putA at h
    unfold ioV at c
    split at h
    · rename_i hi
      rw [if_pos hi] at c
      obtain ⟨hv1, hv2⟩ := hv
      have c : Conf T X.K H ((v, p) :: (zipR (ioV io (i + 1) vs) ps ++ (roots σ ρ ++ R))) := c
      obtain ⟨b1, b2⟩ := roots_back p hv1 f
      have c2 : Conf T X.K H (roots σ ρ ++ ((v, p) :: (zipR (ioV io (i + 1) vs) ps ++ R))) := by
        have c3 : Conf T X.K H ((v, p) :: (roots σ ρ ++ (zipR (ioV io (i + 1) vs) ps ++ R))) := c.perm (List.Perm.cons _ (by
          rw [← List.append_assoc, ← List.append_assoc]
          exact List.perm_append_comm.append_right R))
        exact Conf.mv1 c3
      have c4 := Conf.noneOf j c2
      have c5 : Conf T X.K H ((v, p) :: (roots σ (ρ.set j none) ++ (zipR (ioV io (i + 1) vs) ps ++ R))) := Conf.bk1 c4
      have c6 : Conf T X.K H (roots σ (ρ.set j (some p)) ++ (zipR (ioV io (i + 1) vs) ps ++ R)) := Conf.permL (A := _ :: _) c5 b1.symm
      exact put_ok h b2 hv2 (Conf.mv c6)
    · exact nomatch h
/-- a def's promise, over the arguments as they were evaluated -/
theorem call_prom {f np : Nat} {io : List Nat} {cs : List Ar} {vs : List V} {ρ1 : Env} (hP : Post T X.K W σ R (okE T X.K σ R Q) (callB cf f io cs ρ1)) (hf : Fits σ ρ1) (av : ArV σ cs vs) (hn : vs.length = np) (c : Conf T X.K H (arR vs cs ++ (roots σ ρ1 ++ R))) :
    spOf T X.K cf f np io vs H Q (fun cl d H' => W cl d σ H') := by
  unfold callB at hP
  by_cases hio : refPos io 0 cs = io
  · rw [if_pos hio] at hP
    cases ht : takeA cs ρ1 with
    | none => rw [ht] at hP; exact hP.elim
    | some q =>
      obtain ⟨ds, ρ2⟩ := q
      rw [ht] at hP
      dsimp only at hP
      obtain ⟨f2, l2, c2⟩ := take_ok ht hf av c
      refine ⟨hn, ds, roots σ ρ2 ++ R, l2, c2, ?_⟩
      have eio : (io.map fun i => vs.getD i .non) = ioV io 0 vs := by
        have := ioV_eq io cs vs [] ((arV_iff cs vs).mp av).1
        rw [show ([] : List V).length = 0 from rfl, hio] at this
        exact this
      rw [eio]
      cases hc : cf f ds with
      | err => rw [hc] at hP; exact hP.elim
      | ok d ps =>
        rw [hc] at hP
        dsimp only at hP
        intro v H' c3
        cases hp : putA io 0 cs ps ρ2 with
        | none => rw [hp] at hP; exact hP.elim
        | some r =>
          rw [hp] at hP
          have c4 : Conf T X.K H' (zipR (ioV io 0 vs) ps ++ (roots σ ρ2 ++ ((v, d) :: R))) := Conf.outs c3
          obtain ⟨f5, c5⟩ := put_ok hp f2 av c4
          exact hP v H' f5 (Conf.bk1 c5)
      | exc k d ps =>
        rw [hc] at hP
        dsimp only at hP
        intro v H' dx hx c3
        cases hp : putA io 0 cs ps ρ2 with
        | none => rw [hp] at hP; exact hP.elim
        | some r =>
          rw [hp] at hP
          have c4 : Conf T X.K H' (zipR (ioV io 0 vs) ps ++ (roots σ ρ2 ++ ((v, d) :: R))) := Conf.outs c3
          obtain ⟨f5, c5⟩ := put_ok hp f2 av c4
          exact hP v H' dx f5 hx (Conf.bk1 c5)
  · rw [if_neg hio] at hP; exact hP.elim
theorem range_getD {α : Type} (l : List α) (d : α) : (List.range l.length).map (fun i => l.getD i d) = l := by
  apply List.ext_getElem (by simp)
  intro n h1 h2
  simp [List.getD, List.getElem?_eq_getElem h2]
theorem perm_getD {α : Type} {l : List α} {d : α} {ix : List Nat} (h : ix.Perm (List.range l.length)) : (ix.map fun i => l.getD i d).Perm l := by
  have := h.map (fun i => l.getD i d)
  rw [range_getD] at this
  exact this
theorem zip_getD (vs : List V) (bs : List Ar) (h : bs.length = vs.length) (i : Nat) (hi : i < bs.length) : (vs.zip bs).getD i (.non, .v .non) = (vs.getD i .non, bs.getD i (.v .non)) := by
  have h2 : i < vs.length := by omega
  have h3 : i < (vs.zip bs).length := by rw [List.length_zip]; omega
  simp [List.getD, List.getElem?_eq_getElem hi, List.getElem?_eq_getElem h2, List.getElem?_eq_getElem h3]
theorem zip_map2 (ix : List Nat) (f : Nat → V) (g : Nat → Ar) : (ix.map f).zip (ix.map g) = ix.map fun i => (f i, g i) := by
  induction ix with
  | nil => rfl
  | cons i ix ih => exact congrArg ((f i, g i) :: ·) ih
/-- keywords in their places -/
theorem kw_ok {as bs cs : List Ar} {vs zs : List V} {ix : List Nat} {C : List Root} (h : kwA as bs ix = some cs) (h1 : ArV σ as vs) (h2 : ArV σ bs zs) (c : Conf T X.K H (arR vs as ++ (arR zs bs ++ C))) :
    ArV σ cs (kwG .non ix vs zs) ∧ Conf T X.K H (arR (kwG .non ix vs zs) cs ++ C) ∧ (kwG .non ix vs zs).length = cs.length := by
  unfold kwA at h
  split at h
  · rename_i hp
    obtain rfl := Option.some.inj h
    have hp : ix.Perm (List.range bs.length) := List.isPerm_iff.mp hp
    obtain ⟨l1, r1⟩ := (arV_iff as vs).mp h1
    obtain ⟨l2, r2⟩ := (arV_iff bs zs).mp h2
    have lz : zs.length = ix.length := by rw [hp.length_eq, List.length_range, l2]
    have eg : kwG .non ix vs zs = vs ++ ix.map fun i => zs.getD i .non := if_pos lz
    rw [eg]
    have hz : (vs ++ ix.map fun i => zs.getD i .non).zip (as ++ ix.map fun i => bs.getD i (.v .non)) = vs.zip as ++ (ix.map fun i => (zs.zip bs).getD i (.non, .v .non)) := by
      rw [List.zip_append l1.symm, zip_map2]
      congr 1
      refine List.map_congr_left fun i hi => ?_
      exact (zip_getD zs bs l2 i (List.mem_range.mp (hp.mem_iff.mp hi))).symm
    have hlen : (zs.zip bs).length = bs.length := by rw [List.length_zip]; omega
    have hq : (ix.map fun i => (zs.zip bs).getD i (.non, .v .non)).Perm (zs.zip bs) := perm_getD (by rw [hlen]; exact hp)
    have hl : (vs ++ ix.map fun i => zs.getD i .non).length = (as ++ ix.map fun i => bs.getD i (.v .non)).length := by
      rw [List.length_append, List.length_append, List.length_map, List.length_map, l1]
    refine ⟨(arV_iff _ _).mpr ⟨hl.symm, fun p hp2 => ?_⟩, ?_, hl⟩
    · rw [hz] at hp2
      rcases List.mem_append.mp hp2 with hp2 | hp2
      · exact r1 p hp2
      · exact r2 p (hq.mem_iff.mp hp2)
    · rw [arR_eq]
      rw [hz, List.filterMap_append, ← arR_eq, List.append_assoc]
      refine c.perm (List.Perm.append_left _ (List.Perm.append_right _ ?_))
      rw [arR_eq]
      exact (hq.filterMap rtOf).symm
  · exact nomatch h
/-! the calls' rules, what is raised wished for at the slots -/
section
variable {CX' : CXT} {k : Nat} {f : Addr} {fd : FuncData} {ps ks : List Str} {sp : Sp} {E : L2.St → XK} {y m : Str} {p : Pos} {t tk : TA} {kws : List Keyword} {g : List Value → List Value → List Value} {gV : List V → List V → List V}
theorem pe_callS0 (F : FnOk X.prog X.w X.K X.mg X.base CX' k f fd ps sp) (hr : Room k X.A) (hg : Gl X y) (hm : X.mg y = some (.ref f)) (hk : PySem.W.keepIn X.K (.ref f) = true) (hb : Binds X.K fd ps []) (hx : ∀ σ, PassesAt CX' X σ (E σ))
    (hdb : (y == ("__debug__" : Str)) = false) : PE X (.Call (.Name y p) [] [] pos) (tCallS sp E tNil) := by
  refine ⟨fun pins s σ H Q I h => ?_⟩
  refine wpAny_Call_Name_kw (ld_glob I hg hm ?_ hdb)
  exact PySem.W.callWith_K0 I.kIn hk (run_fnS F hr hb (hx σ) I .nil h)
def tCallKS (sp : Sp) (gV : List V → List V → List V) (E : L2.St → XK) (t tk : TA) : TE := fun σ H Q => t σ H fun vs H1 => tk σ H1 fun zs H2 => sp (gV vs zs) H2 Q (E σ)
theorem run_fnkS {pins : List (Addr × Obj)} {σ : L2.St} {H : Hp} {s : Shared} {Q : VK} {us ws : List Value} {vs zs : List V} (F : FnOk X.prog X.w X.K X.mg X.base CX' k f fd ps sp) (hr : Room k X.A) (hb : KBinds X.K fd ps ks g gV) (hx : PassesAt CX' X σ (E σ))
    (I : Inv X pins σ H s) (r : Vals vs us) (rz : Vals zs ws) (h : sp (gV vs zs) H Q (E σ)) : wpAny (model X.prog X.w) X.A (PySem.call (.ref f) us (ks.zip ws)) (EP X pins σ Q) X.xe s := by
  have r2 := hb.rel r rz
  have hl : (g us ws).length = ps.length := by rw [← r2.length]; exact F.len _ _ _ _ h
  refine wpAny_call (codeAny_mono (F.run X.A X.stack s H ⟨us, ks.zip ws⟩ (g us ws) (gV vs zs) Q (E σ) hr I.env0 (hb.to s us ws I.kIn hl) r2 h) fun r s' hq => ?_)
  cases r with
  | error e => exact hx pins H s e s' I hq
  | ok fl =>
    cases fl with
    | ret u => exact I.after hq
    | next => exact False.elim hq
    | brk => exact False.elim hq
    | cont => exact False.elim hq
theorem pe_callKS (F : FnOk X.prog X.w X.K X.mg X.base CX' k f fd ps sp) (hr : Room k X.A) (hg : Gl X y) (hm : X.mg y = some (.ref f)) (hk : PySem.W.keepIn X.K (.ref f) = true) (hb : KBinds X.K fd ps ks g gV) (hx : ∀ σ, PassesAt CX' X σ (E σ))
    (ha : PA X (e :: es) t) (hkw : PK X kws tk) (hall : (backToKw pos (keywordEach kws X.env)).all (·.1.isSome) = true) (hks : (backToKw pos (keywordEach kws X.env)).filterMap (·.1) = ks)
    (hdb : (y == ("__debug__" : Str)) = false) (he : starEach (e :: es) X.env = (false, eval e X.env) :: starEach es X.env)
    (hpl : ((backTo pos (starEach (e :: es) X.env)).any (·.1) || (backToKw pos (keywordEach kws X.env)).any (·.1.isNone)) = false) :
    PE X (.Call (.Name y p) (e :: es) kws pos) (tCallKS sp gV E t tk) := by
  refine ⟨fun pins s σ H Q I h => ?_⟩
  refine wpAny_Call_Name_kw (ld_glob I hg hm ?_ hdb)
  refine PySem.W.callWith_KW (h₀ := X.base) I.ok.mod.kin hk hall (thn (ha.run pos pins s σ H _ I h) fun us s1 ⟨vs, H1, I1, r, q⟩ => ?_) hpl he
  refine thn (hkw.run pos pins s1 σ H1 _ I1 q) fun ws s2 ⟨zs, H2, I2, rz, q2⟩ => ⟨I2.kIn, ?_⟩
  rw [hks]
  exact run_fnkS F hr hb (hx σ) I2 r rz q2
theorem pe_callKS0 (F : FnOk X.prog X.w X.K X.mg X.base CX' k f fd ps sp) (hr : Room k X.A) (hg : Gl X y) (hm : X.mg y = some (.ref f)) (hk : PySem.W.keepIn X.K (.ref f) = true) (hb : KBinds X.K fd ps ks g gV) (hx : ∀ σ, PassesAt CX' X σ (E σ))
    (hkw : PK X kws tk) (hall : (backToKw pos (keywordEach kws X.env)).all (·.1.isSome) = true) (hks : (backToKw pos (keywordEach kws X.env)).filterMap (·.1) = ks)
    (hdb : (y == ("__debug__" : Str)) = false)
    (hpl : ((backTo pos (starEach [] X.env)).any (·.1) || (backToKw pos (keywordEach kws X.env)).any (·.1.isNone)) = false) :
    PE X (.Call (.Name y p) [] kws pos) (tCallKS sp gV E tNil tk) := by
  refine ⟨fun pins s σ H Q I h => ?_⟩
  refine wpAny_Call_Name_kw (ld_glob I hg hm ?_ hdb)
  refine PySem.W.callWith_KW0 (h₀ := X.base) I.ok.mod.kin hk hall (thn (hkw.run pos pins s σ H _ I h) fun ws s2 ⟨zs, H2, I2, rz, q2⟩ => ⟨I2.kIn, ?_⟩) hpl
  rw [hks]
  exact run_fnkS (us := []) (vs := []) F hr hb (hx σ) I2 .nil rz q2
end
/-! the forms -/
theorem callPost {f : Nat} {io ix : List Nat} {as bs : List Ar} {ρ2 : Env} (hP : Post T X.K W σ R (okE T X.K σ R Q) (callA cf f io ix as bs ρ2)) : ∃ cs, kwA as bs ix = some cs ∧ Post T X.K W σ R (okE T X.K σ R Q) (callB cf f io cs ρ2) := by
  unfold callA at hP
  cases h : kwA as bs ix with
  | none => rw [h] at hP; exact hP.elim
  | some cs => rw [h] at hP; exact ⟨cs, rfl, hP⟩
theorem kwA_len {as bs cs : List Ar} {ix : List Nat} (h : kwA as bs ix = some cs) : cs.length = as.length + ix.length := by
  unfold kwA at h
  split at h
  · cases h; rw [List.length_append, List.length_map]
  · exact nomatch h
theorem kwA_nil (as : List Ar) : kwA as [] [] = some as := by
  unfold kwA
  rw [if_pos (by decide)]
  simp
theorem snd_call {f np : Nat} {io : List Nat} {ps : List Str} {kbs : List (Nat × List Str × List Nat)} {y : Str} {p' : Pos} (lk : Lk T S cf X W) (hg : S.sc.names.lookup y = some .globalImplicit) (hb : (y, Gb.fn f np io ps kbs) ∈ S.gt) (hdb : (y == ("__debug__" : Str)) = false) (hs : ∀ z ∈ e :: es, NoStar z) (h : SndA T cf X W (e :: es) xs) (hn : (e :: es).length = np)
    (hlen : ∀ ρ as ρ1, evA cf xs ρ = .ok as ρ1 → as.length = (e :: es).length) : SndE T cf X W (.Call (.Name y p') (e :: es) [] pos) (.call f io xs .nil []) := fun σ H ρ R Q hf c hP => by
  obtain ⟨a, fd, k, hm, hk, hr, F, hB, _⟩ := (lk.fn _ _ _ _ _ _ hb).ex
  have hP : Post T X.K W σ R (okE T X.K σ R Q) ((evA cf xs ρ).bind fun as ρ1 => (Out.ok [] ρ1).bind fun bs ρ2 => callA cf f io [] as bs ρ2) := hP
  have go : WpA X (e :: es) σ H fun vs H1 => spOf T X.K cf f np io vs H1 Q (fun cl d H' => W cl d σ H') := SndA.use h [] hf c hP fun as ρ1 vs H1 e1 p1 f1 av c1 => by
    rw [Out.bind_ok] at p1
    obtain ⟨cs, hk, p2⟩ := callPost p1
    rw [kwA_nil] at hk
    obtain rfl := Option.some.inj hk
    have hl := ((arV_iff as vs).mp av).1
    exact call_prom p2 f1 av (by rw [← hl, hlen ρ as ρ1 e1, hn]) c1
  exact ⟨_, pe_callS F hr (gl_of lk hg) hm hk hB (fun σ => passAt lk.tk σ) pa_wp hdb (star_cons (hs e List.mem_cons_self)) (plain_star fun q hq => hs q (List.mem_cons_of_mem _ hq)), go⟩
theorem snd_call0 {f : Nat} {io : List Nat} {ps : List Str} {kbs : List (Nat × List Str × List Nat)} {y : Str} {p' : Pos} (lk : Lk T S cf X W) (hg : S.sc.names.lookup y = some .globalImplicit) (hb : (y, Gb.fn f 0 io ps kbs) ∈ S.gt) (hdb : (y == ("__debug__" : Str)) = false) :
    SndE T cf X W (.Call (.Name y p') [] [] pos) (.call f io .nil .nil []) := fun σ H ρ R Q hf c hP => by
  obtain ⟨a, fd, k, hm, hk, hr, F, hB, _⟩ := (lk.fn _ _ _ _ _ _ hb).ex
  have hP : Post T X.K W σ R (okE T X.K σ R Q) (callA cf f io [] [] [] ρ) := hP
  obtain ⟨cs, hk2, p2⟩ := callPost hP
  rw [kwA_nil] at hk2
  obtain rfl := Option.some.inj hk2
  exact ⟨_, pe_callS0 F hr (gl_of lk hg) hm hk hB (fun σ => passAt lk.tk σ) hdb, call_prom (vs := []) p2 hf trivial rfl c⟩
theorem kw_names {env : PySem.Env} {ks : List Str} : ∀ {kws : List Keyword}, kws.map (·.arg) = ks.map some → (backToKw pos (keywordEach kws env)).all (·.1.isSome) = true ∧ (backToKw pos (keywordEach kws env)).filterMap (·.1) = ks ∧ (backToKw pos (keywordEach kws env)).any (·.1.isNone) = false := by
  induction ks with
  | nil =>
    intro kws h
    cases kws with
    | nil => exact ⟨rfl, rfl, rfl⟩
    | cons _ _ => exact nomatch h
  | cons k ks ih =>
    intro kws h
    cases kws with
    | nil => exact nomatch h
    | cons kw kws =>
      obtain ⟨nm, e, kp⟩ := kw
      rw [List.map_cons, List.map_cons] at h
      injection h with h1 h2
      have h1 : nm = some k := h1
      subst h1
      obtain ⟨i1, i2, i3⟩ := ih h2
      refine ⟨?_, ?_, ?_⟩
      · show (true && (backToKw pos (keywordEach kws env)).all (·.1.isSome)) = true
        rw [i1]; rfl
      · show k :: (backToKw pos (keywordEach kws env)).filterMap (·.1) = _
        rw [i2]
      · show (false || (backToKw pos (keywordEach kws env)).any (·.1.isNone)) = false
        rw [i3]; rfl
theorem snd_callK {f np n : Nat} {io ix : List Nat} {ps ks : List Str} {kbs : List (Nat × List Str × List Nat)} {y : Str} {p' : Pos} {kws : List Keyword} {xk : Exs} (lk : Lk T S cf X W) (hg : S.sc.names.lookup y = some .globalImplicit) (hb : (y, Gb.fn f np io ps kbs) ∈ S.gt) (hkb : (n, ks, ix) ∈ kbs) (hdb : (y == ("__debug__" : Str)) = false)
    (hs : ∀ z ∈ es, NoStar z) (h : SndA T cf X W es xs) (hkw : SndK T cf X W kws xk) (hks : kws.map (·.arg) = ks.map some) (hn : es.length + ix.length = np)
    (hlen : ∀ ρ as ρ1, evA cf xs ρ = .ok as ρ1 → as.length = es.length) (hx : xs = .nil → es = []) (hx0 : es = [] → xs = .nil) : SndE T cf X W (.Call (.Name y p') es kws pos) (.call f io xs xk ix) := fun σ H ρ R Q hf c hP => by
  obtain ⟨a, fd, k, hm, hk, hr, F, _, hKB⟩ := (lk.fn _ _ _ _ _ _ hb).ex
  have hKb := hKB _ hkb
  have hP : Post T X.K W σ R (okE T X.K σ R Q) ((evA cf xs ρ).bind fun as ρ1 => (evA cf xk ρ1).bind fun bs ρ2 => callA cf f io ix as bs ρ2) := hP
  obtain ⟨k1, k2, k3⟩ := kw_names (pos := pos) (env := X.env) hks
  have inner : ∀ as vs ρ1 H1, as.length = es.length → Post T X.K W σ R (okE T X.K σ R Q) ((evA cf xk ρ1).bind fun bs ρ2 => callA cf f io ix as bs ρ2) → Fits σ ρ1 → ArV σ as vs → Conf T X.K H1 (arR vs as ++ (roots σ ρ1 ++ R)) → WpK X kws σ H1 fun zs H2 => spOf T X.K cf f np io (kwG .non ix vs zs) H2 Q (fun cl d H' => W cl d σ H') := fun as vs ρ1 H1 la p1 f1 av c1 => by
    refine SndK.use hkw (arR vs as) f1 (Conf.mv c1) p1 fun bs ρ2 zs H2 e2 p2 f2 bv c2 => ?_
    obtain ⟨cs, hk, p3⟩ := callPost p2
    have c3 : Conf T X.K H2 (arR vs as ++ (arR zs bs ++ (roots σ ρ2 ++ R))) := c2.perm (by
      have h1 : (roots σ ρ2 ++ (arR vs as ++ R)).Perm (arR vs as ++ (roots σ ρ2 ++ R)) := by
        rw [← List.append_assoc, ← List.append_assoc]
        exact List.perm_append_comm.append_right R
      refine (h1.append_left (arR zs bs)).trans ?_
      exact swap3 _ _ _)
    obtain ⟨av2, c4, l4⟩ := kw_ok hk av bv c3
    have hl := ((arV_iff as vs).mp av).1
    exact call_prom p3 f2 av2 (by rw [l4, kwA_len hk, la, hn]) c4
  cases es with
  | nil =>
    obtain rfl := hx0 rfl
    refine ⟨_, pe_callKS0 F hr (gl_of lk hg) hm hk hKb (fun σ => passAt lk.tk σ) pk_wp k1 k2 hdb (by rw [k3]; rfl), ?_⟩
    exact inner [] [] ρ H rfl hP hf trivial c
  | cons z zs =>
    refine ⟨_, pe_callKS F hr (gl_of lk hg) hm hk hKb (fun σ => passAt lk.tk σ) pa_wp pk_wp k1 k2 hdb (star_cons (hs z List.mem_cons_self)) (by rw [k3, plain_star hs]; rfl), ?_⟩
    exact SndA.use h [] hf c hP fun as ρ1 vs H1 e1 p1 f1 av c1 => inner as vs ρ1 H1 (hlen ρ as ρ1 e1) p1 f1 av c1
end
end Ev

/-! Ev10: what is walked; list comprehensions. -/
namespace Ev
open PySem PySem.Spec PyProof.Rows L2
section
variable {T : Tb} {S : Sta} {cf : CF} {X : Cx} {W : WX} {σ : L2.St} {H : Hp} {ρ : Env} {R B : List Root} {Q Q' : VK} {a b e i tg : Expr} {xa xb xc xi x : Ex} {pos : Pos} {es : List Expr} {xs : Exs}
theorem it_range (n : Nat) : ItOk T X.K (Itr 0 n) [] (rngL n) := by
  intro S i H c
  refine ⟨fun d hd => ?_, fun h => ?_⟩
  · unfold rngL at hd
    rw [List.getElem?_map] at hd
    obtain ⟨k, hk, rfl⟩ := Option.map_eq_some_iff.mp hd
    obtain ⟨h1, h2⟩ := List.getElem?_eq_some_iff.mp hk
    have hlt : i < n := by simpa using h1
    have hki : k = i := by rw [← h2]; simp
    subst hki
    refine ⟨hlt, fun x H' y => ?_⟩
    obtain ⟨rfl, rfl⟩ := y
    have := c.sca (d := .int ((0 : Int) + (k : Nat))) rfl
    rw [Int.zero_add] at this ⊢
    exact this
  · subst h
    show n ≤ (rngL n).length
    simp [rngL]
theorem zipR_get {vs : List V} {ds : List D} {i : Nat} {d : D} (hd : ds[i]? = some d) (hl : vs.length = ds.length) : ∃ v, vs[i]? = some v := by
  have := (List.getElem?_eq_some_iff.mp hd).1
  exact ⟨vs[i], List.getElem?_eq_getElem (by omega)⟩
theorem it_list {a : Addr} {o : Bool} {ds : List D} : ItOk T X.K (Itl X.K a) [(.ref a, .lst o (frzL ds))] (frzL ds) := by
  intro S i H c
  obtain ⟨a', vs, e, ha, hl, c2⟩ := Conf.lstShare (v := .ref a) c
  injection e with e
  subst e
  rw [frzL_length] at hl
  rw [frzL_idem] at c2
  have hq : SqL X.K H a vs := SqL.of ha
  refine ⟨fun d hd => ?_, fun h => ⟨vs, hq, by rw [h, frzL_length, hl]; exact Nat.le_refl _⟩⟩
  obtain ⟨v, hv⟩ := zipR_get hd (vs := vs) (by rw [frzL_length]; exact hl)
  refine ⟨⟨vs, v, hq, hv⟩, fun x H' y => ?_⟩
  obtain ⟨rfl, y⟩ := y
  exact c2.pick (y vs hq) hd
theorem it_tup {a : Addr} {ds : List D} : ItOk T X.K (Itt X.K a) [(.ref a, .tup (frzL ds))] (frzL ds) := by
  intro S i H c
  obtain ⟨a', vs, e, ha, hl, c2⟩ := Conf.tupShare (v := .ref a) c
  injection e with e
  subst e
  rw [frzL_length] at hl
  rw [frzL_idem] at c2
  refine ⟨fun d hd => ?_, fun h => ⟨vs, ha, by rw [h, frzL_length, hl]; exact Nat.le_refl _⟩⟩
  obtain ⟨v, hv⟩ := zipR_get hd (vs := vs) (by rw [frzL_length]; exact hl)
  refine ⟨⟨vs, v, ha, hv⟩, fun x H' y => ?_⟩
  obtain ⟨rfl, y⟩ := y
  exact c2.pick (y vs ha) hd
theorem it_scr {a : Addr} {ds : List D} : ItOk T X.K (Itl X.K a) [(.ref a, .scr (frzL ds))] (frzL ds) := by
  intro S i H c
  obtain ⟨a', vs, e, ha, hl, c2⟩ := Conf.scrShare (v := .ref a) c
  injection e with e
  subst e
  rw [frzL_length] at hl
  rw [frzL_idem] at c2
  refine ⟨fun d hd => ?_, fun h => ⟨vs, ha, by rw [h, frzL_length, hl]; exact Nat.le_refl _⟩⟩
  obtain ⟨v, hv⟩ := zipR_get hd (vs := vs) (by rw [frzL_length]; exact hl)
  refine ⟨⟨vs, v, ha, hv⟩, fun x H' y => ?_⟩
  obtain ⟨rfl, y⟩ := y
  exact c2.pick (y vs ha) hd
theorem it_str (s : List Nat) : ItOk T X.K (Its (mkS s)) [] (s.map fun c => .str [c]) := by
  intro S i H c
  refine ⟨fun d hd => ?_, fun h => ?_⟩
  · rw [List.getElem?_map] at hd
    obtain ⟨k, hk, rfl⟩ := Option.map_eq_some_iff.mp hd
    have hlt := (List.getElem?_eq_some_iff.mp hk).1
    refine ⟨by show i < (mkS s).cps.size; simpa [mkS] using hlt, fun x H' y => ?_⟩
    obtain ⟨rfl, ch, h1, rfl⟩ := y
    have e : (mkS s).cps[i]? = s[i]? := by simp [mkS]
    rw [e, hk] at h1
    cases h1
    exact c.sca (d := .str [k]) rfl
  · show (mkS s).cps.size ≤ i
    rw [h]
    simp [mkS]
theorem sndI_rng1 {p' : Pos} (lk : Lk T S cf X W) (hg : S.sc.names.lookup ("range" : Str) = some .globalImplicit) (hb : ("range" : Str) ∈ S.bl) (hs : NoStar a) (ha : SndE T cf X W a xa) : SndI T cf X W tg (.Call (.Name "range" p') [a] [] pos) (.rng1 xa) := fun σ H ρ R Q hf c hP => by
  refine ⟨_, pi_range1 (gl_of lk hg) (lk.bl _ hb) (pa_cons pe_wp pa_nil (star_cons hs)) (star_cons hs), ?_⟩
  refine SndE.use ha [] hf c hP fun d ρ1 v H1 e1 p1 f1 c1 => ?_
  cases d with
  | int j =>
    obtain rfl := c1.sca_eq rfl
    dsimp only at p1
    by_cases hj : -(2 ^ 62) ≤ j ∧ j < 2 ^ 62
    · rw [if_pos hj] at p1
      exact ⟨j, rfl, hj.1, hj.2, p1 _ H1 [] f1 (it_range _) c1.tail⟩
    · rw [if_neg hj] at p1; exact p1.elim
  | _ => exact p1.elim
theorem sndI_ov (ha : SndE T cf X W a xa) : SndI T cf X W tg a (.ov xa) := fun σ H ρ R Q hf c hP => by
  have hP : Post T X.K W σ R (okI T X.K σ R Q) ((evE cf xa ρ).bind fun d ρ1 => ofO (itemsF d) ρ1) := hP
  cases e1 : evE cf xa ρ with
  | err => rw [e1] at hP; exact hP.elim
  | exc k d r =>
    rw [e1] at hP
    refine ⟨_, pi_list (pe_wp (X := X) (e := a)), ha σ H ρ ([] ++ R) _ hf c ?_⟩
    rw [e1]
    exact PX.frame (B := []) hP
  | ok d ρ1 =>
    rw [e1, Out.bind_ok] at hP
    obtain ⟨ds, hd, ok⟩ := hP.ofO
    cases d with
    | str s =>
      obtain rfl := Option.some.inj hd
      refine ⟨_, pi_str (pe_wp (X := X) (e := a)), ha σ H ρ ([] ++ R) _ hf c ?_⟩
      rw [e1]
      intro v H1 f1 c1
      obtain rfl := c1.sca_eq rfl
      exact ⟨mkS s, rfl, ok _ H1 [] f1 (it_str s) c1.tail⟩
    | lst o es =>
      obtain rfl := Option.some.inj hd
      refine ⟨_, pi_list (pe_wp (X := X) (e := a)), ha σ H ρ ([] ++ R) _ hf c ?_⟩
      rw [e1]
      intro v H1 f1 c1
      obtain ⟨p, vs, rfl, hp, hl, c2⟩ := Conf.lstShare c1
      exact ⟨p, rfl, ⟨vs, SqL.of hp⟩, ok _ H1 [(.ref p, .lst o (frzL es))] f1 it_list c2.keepR⟩
    | tup es =>
      obtain rfl := Option.some.inj hd
      refine ⟨_, pi_tup (pe_wp (X := X) (e := a)), ha σ H ρ ([] ++ R) _ hf c ?_⟩
      rw [e1]
      intro v H1 f1 c1
      obtain ⟨p, vs, rfl, hp, hl, c2⟩ := Conf.tupShare c1
      exact ⟨p, rfl, ⟨vs, hp⟩, ok _ H1 [(.ref p, .tup (frzL es))] f1 it_tup c2.keepR⟩
    | scr es =>
      obtain rfl := Option.some.inj hd
      refine ⟨_, pi_list (pe_wp (X := X) (e := a)), ha σ H ρ ([] ++ R) _ hf c ?_⟩
      rw [e1]
      intro v H1 f1 c1
      obtain ⟨p, vs, rfl, hp, hl, c2⟩ := Conf.scrShare c1
      exact ⟨p, rfl, ⟨vs, hp⟩, ok _ H1 [(.ref p, .scr (frzL es))] f1 it_scr c2.keepR⟩
    | _ => exact nomatch hd
/-! list comprehensions -/
/-- the block's place -/
def blkS (S : Sta) (scope : Scope) (y : Str) : Sta := { S with sc := relS scope S.sc, sto := [y], io := [] }
def W0 : WX := fun _ _ _ _ => False
theorem lk_blk {scope : Scope} {y : Str} {s : Shared} {H0 : Hp} {C : Addr} {cl : List (Str × Addr)} {fp : List Addr} (lk : Lk T S cf X W) (hk : scope.kind = .function) (hy : scope.names.lookup y = some .local ∨ scope.names.lookup y = some .cell) :
    Lk T (blkS S scope y) cf (X.blk s H0 scope (compEnvC scope cl C X.env) fp) W0 where
  hN := lk.hN
  nd := lk.nd
  sc := by
    show relabel scope X.env = relS scope S.sc
    rw [← lk.sc]
    rfl
  fx := fun z hz => by
    obtain rfl := List.mem_singleton.mp hz
    rcases hy with h | h
    · have := lookup_relS_keep (sc := S.sc) (k := .local) (by decide) h
      exact ⟨.inl this, .inr this⟩
    · have := lookup_relS_keep (sc := S.sc) (k := .cell) (by decide) h
      refine ⟨.inr this, .inl ?_⟩
      show (scope.names.lookup z == some .cell) = true
      rw [h]
      rfl
  calm := lk.calm
  tk := takes0
  hp := PassesOwn.never
  kd := hk
  un := lk.un
  bl := lk.bl
  con := lk.con
  bi := lk.bi
  fn := fun x f np io ps kbs h => ⟨(lk.fn x f np io ps kbs h).ex⟩
theorem lcF_len {g : D → Env → Env} {bd : Env → Out D} : True := trivial
theorem fits_mono : ∀ {σ : L2.St} {ρ : Env} {j : Nat}, Fits (σ.set j none) ρ → Fits σ ρ
  | [], _, _, f => f
  | s :: σ, [], 0, f => f.elim
  | s :: σ, [], _ + 1, f => f.elim
  | s :: σ, d :: ρ, 0, f => ⟨fun h => absurd (f.1 h) (by decide), f.2⟩
  | s :: σ, d :: ρ, j + 1, f => ⟨f.1, fits_mono f.2⟩
/-- the reading of a comprehension -/
theorem lc_ok {scope : Scope} {j : Nat} {it : Expr} {xit : Itx} {elt : Expr} {Q : VK} (lk : Lk T S cf X W) (hi : SndI T cf X W tg it xit) (he : ∀ s H0 C cl fp, SndE T cf (X.blk s H0 scope (compEnvC scope cl C X.env) fp) W0 elt x)
    (hf : Fits σ ρ) (c : Conf T X.K H (roots σ ρ ++ R)) (hP : Post T X.K W σ R (okE T X.K σ R Q) (evE cf (.lc j xit x) ρ)) :
    tLc (WpI X tg it) (gName j) tYes (fun σ H Q => ∀ s H0 C cl fp, WpE (X.blk s H0 scope (compEnvC scope cl C X.env) fp) elt σ H Q) [j] σ H Q := by
  have hP : Post T X.K W σ R (okE T X.K σ R Q) ((evI cf xit ρ).bind fun ds ρ1 => (lcF (fun d r => r.set j (some d)) (evE cf x) ds (ρ1.set j none) []).bind fun out ρ2 => .ok (.lst true out) (ρ2.set j (look ρ1 j))) := hP
  refine hi σ H ρ ([] ++ R) _ hf c (hP.bind fun ds ρ1 e1 p1 => fun J H1 Rt f1 it1 c1 => ?_)
  intro Dd hD
  -- the old value of the block's name is held
  have hold : ∃ h0 : List Root, (∀ {A : List Root} {H2 : Hp}, Conf T X.K H2 (A ++ (roots σ ρ1 ++ R)) → Conf T X.K H2 (A ++ (roots σ (ρ1.set j none) ++ (h0 ++ R)))) ∧
      (∀ {A : List Root} {H2 : Hp} {ρ2 : Env}, Fits σ (ρ2.set j none) → Conf T X.K H2 (A ++ (roots σ (ρ2.set j none) ++ (h0 ++ R))) → Fits σ (ρ2.set j (look ρ1 j)) ∧ Conf T X.K H2 (A ++ (roots σ (ρ2.set j (look ρ1 j)) ++ R))) := by
    cases hl : look ρ1 j with
    | none =>
      refine ⟨[], fun {A H2} c => ?_, fun {A H2 ρ2} f c => ⟨f, c⟩⟩
      have := Conf.noneOf j (R := A ++ R) (Conf.mv c)
      exact Conf.mv this
    | some d =>
      obtain ⟨v, g1, g2, g3⟩ := roots_take f1 hl
      refine ⟨[(v, d)], fun {A H2} c => c.perm (((g2.append_right R).trans (List.perm_middle (l₁ := roots σ (ρ1.set j none))).symm).append_left A), fun {A H2 ρ2} f c => ?_⟩
      obtain ⟨b1, b2⟩ := roots_back d g1 f
      rw [List.set_set] at b1 b2
      refine ⟨b2, c.perm (List.Perm.append_left A ?_)⟩
      have h1 : (roots σ (ρ2.set j none) ++ ([(v, d)] ++ R)).Perm ((v, d) :: (roots σ (ρ2.set j none) ++ R)) := List.perm_middle
      rw [List.set_set] at b1
      exact h1.trans ((b1.append_right R).symm)
  obtain ⟨h0, hin, hout⟩ := hold
  have w1 : wipe σ [j] = σ.set j none := rfl
  -- what holds between two turns
  refine ⟨fun i m H2 => ∃ ρ2 acc, m = ds.length - i ∧ i ≤ ds.length ∧ Fits σ (ρ2.set j none) ∧ Conf T X.K H2 ((.ref Dd, .lst true acc) :: (Rt ++ (roots σ (ρ2.set j none) ++ (h0 ++ R)))) ∧
    Post T X.K W σ R (okE T X.K σ R Q) ((lcF (fun d r => r.set j (some d)) (evE cf x) (ds.drop i) ρ2 acc).bind fun out ρ3 => .ok (.lst true out) (ρ3.set j (look ρ1 j))), ⟨ds.length, ρ1.set j none, [], rfl, Nat.zero_le _, ?_, ?_, ?_⟩, ?_⟩
  · rw [List.set_set]; exact fits_none j f1
  · rw [List.set_set]
    exact ConfX.mkLst (vs := []) (ds := []) (((hin c1).fresh hD).put fun u e => by rw [hD] at e; exact nomatch e) rfl upd_same
  · rw [List.drop_zero]; exact p1
  · rintro i m H2 ⟨ρ2, acc, rfl, hi, f2, c2, p2⟩
    have itk := it1 ((.ref Dd, .lst true acc) :: (roots σ (ρ2.set j none) ++ (h0 ++ R))) i H2 (Conf.mv1 (B := Rt) c2)
    by_cases hlt : i < ds.length
    · have hd : ds[i]? = some ds[i] := List.getElem?_eq_getElem hlt
      rw [List.drop_eq_getElem_cons hlt] at p2
      have p2 : Post T X.K W σ R (okE T X.K σ R Q) ((match evE cf x (ρ2.set j (some ds[i])) with
        | .ok y ρ3 => if acc.length < 16777216 then lcF (fun d r => r.set j (some d)) (evE cf x) (ds.drop (i + 1)) ρ3 (acc ++ [y]) else .err
        | _ => .err).bind fun out ρ3 => .ok (.lst true out) (ρ3.set j (look ρ1 j))) := p2
      obtain ⟨hgo, hy⟩ := itk.1 _ hd
      refine .inr ⟨hgo, fun H3 => ∃ ρ3 y, i + 1 ≤ ds.length ∧ Fits σ (ρ3.set j none) ∧ Conf T X.K H3 ((.ref Dd, .lst true (acc ++ [y])) :: (Rt ++ (roots σ (ρ3.set j none) ++ (h0 ++ R)))) ∧
        Post T X.K W σ R (okE T X.K σ R Q) ((lcF (fun d r => r.set j (some d)) (evE cf x) (ds.drop (i + 1)) ρ3 (acc ++ [y])).bind fun out ρ4 => .ok (.lst true out) (ρ4.set j (look ρ1 j))), fun H3 ⟨ρ3, y, h1, h2, h3, h4⟩ => ⟨ds.length - (i + 1), by omega, ρ3, _, rfl, h1, h2, h3, h4⟩, fun xv H3 yv => ?_⟩
      refine ⟨?_, ?_⟩
      · rw [w1]
        show ((σ.set j none).set j (some xv)).set j none = σ.set j none
        rw [List.set_set, List.set_set]
      · dsimp only [tYes]
        rw [if_pos rfl, w1]
        have c3 := hy xv H3 yv
        -- the block's state
        cases e3 : evE cf x (ρ2.set j (some ds[i])) with
        | err => rw [e3] at p2; exact p2.elim
        | exc _ _ _ => rw [e3] at p2; exact p2.elim
        | ok y ρ3 =>
          rw [e3] at p2
          dsimp only at p2
          intro s H0 C cl fp
          have fw : Fits (σ.set j none) (ρ2.set j none) := by
            have := fits_wipe j f2
            rw [List.set_set] at this
            exact this
          have rw1 : roots (σ.set j none) (ρ2.set j none) = roots σ (ρ2.set j none) := by
            have := roots_wipe σ (ρ2.set j none) j
            rw [List.set_set] at this
            exact this
          have c4 : Conf T X.K H3 ((xv, ds[i]) :: (roots (σ.set j none) (ρ2.set j none) ++ ((.ref Dd, .lst true acc) :: (Rt ++ (h0 ++ R))))) := by
            rw [rw1]
            refine c3.perm (List.Perm.cons _ ?_)
            refine (swap3 Rt [(.ref Dd, .lst true acc)] _).trans ?_
            refine List.Perm.trans ?_ (List.perm_middle (l₁ := roots σ (ρ2.set j none))).symm
            exact List.Perm.cons _ (swap3 Rt _ _)
          obtain ⟨fs, cs⟩ := Conf.store j fw c4
          have es : (ρ2.set j none).set j (some ds[i]) = ρ2.set j (some ds[i]) := List.set_set ..
          rw [es] at fs cs
          have snd := he s H0 C cl fp ((σ.set j none).set j (some xv)) H3 (ρ2.set j (some ds[i])) ((.ref Dd, .lst true acc) :: (Rt ++ (h0 ++ R)))
            (fun yv H4 => ∃ ac, H4 Dd = some (.lst ac) ∧ ac.length < sizeLine ∧ ∃ ρ3 y, i + 1 ≤ ds.length ∧ Fits σ (ρ3.set j none) ∧ Conf T X.K (upd H4 Dd (.lst (ac ++ [yv]))) ((.ref Dd, .lst true (acc ++ [y])) :: (Rt ++ (roots σ (ρ3.set j none) ++ (h0 ++ R)))) ∧
              Post T X.K W σ R (okE T X.K σ R Q) ((lcF (fun d r => r.set j (some d)) (evE cf x) (ds.drop (i + 1)) ρ3 (acc ++ [y])).bind fun out ρ4 => .ok (.lst true out) (ρ4.set j (look ρ1 j)))) fs cs
          refine snd ?_
          rw [e3]
          intro yv H4 f4 c5
          by_cases hz : acc.length < 16777216
          · rw [if_pos hz] at p2
            have c6 : Conf T X.K H4 ((.ref Dd, .lst true acc) :: (yv, y) :: (roots ((σ.set j none).set j (some xv)) ρ3 ++ (Rt ++ (h0 ++ R)))) := (Conf.bk2 c5).swap
            obtain ⟨p, us, e, hp, l1, cx⟩ := Conf.lstX c6
            injection e with e
            subst e
            have f5 : Fits σ (ρ3.set j none) := by
              have h1 := fits_none j f4
              have h2 := fits_wipe j h1
              rw [List.set_set, List.set_set, List.set_set] at h2
              -- σ itself has all that its wiped form has
              exact fits_mono h2
            have r5 : roots ((σ.set j none).set j (some xv)) (ρ3.set j none) = roots σ (ρ3.set j none) := by
              have h1 := roots_wipe ((σ.set j none).set j (some xv)) ρ3 j
              rw [List.set_set, List.set_set] at h1
              rw [← h1]
              exact roots_wipe σ ρ3 j
            refine ⟨us, hp, by rw [l1, ← sizeL]; exact hz, ρ3, y, hlt, f5, ?_, p2⟩
            refine ConfX.mkLst (vs := us ++ [yv]) (ds := acc ++ [y]) ((ConfX.put ?_ fun u e => by rw [hp] at e; cases e; exact fun z => z)) (by rw [List.length_append, List.length_append, l1]; rfl) upd_same
            have ez : zipR (us ++ [yv]) (acc ++ [y]) = zipR us acc ++ [(yv, y)] := by unfold zipR; rw [List.zip_append l1]; rfl
            rw [ez, ← r5]
            -- the slot's own value is dropped
            obtain ⟨B5, hB⟩ := roots_none ((σ.set j none).set j (some xv)) ρ3 j
            have cy : ConfX T X.K H4 Dd (B5 ++ ((zipR us acc ++ [(yv, y)]) ++ (Rt ++ (roots ((σ.set j none).set j (some xv)) (ρ3.set j none) ++ (h0 ++ R))))) := cx.perm (by
              have h1 : ((yv, y) :: (roots ((σ.set j none).set j (some xv)) ρ3 ++ (Rt ++ (h0 ++ R)))).Perm ((yv, y) :: (B5 ++ (Rt ++ (roots ((σ.set j none).set j (some xv)) (ρ3.set j none) ++ (h0 ++ R))))) := by
                refine List.Perm.cons _ ((hB.append_right _).trans ?_)
                rw [List.append_assoc]
                exact List.Perm.append_left _ (swap3 _ _ _)
              refine (List.Perm.append_left (zipR us acc) h1).trans ?_
              have h2 : (zipR us acc ++ ((yv, y) :: (B5 ++ (Rt ++ (roots ((σ.set j none).set j (some xv)) (ρ3.set j none) ++ (h0 ++ R)))))) = (zipR us acc ++ [(yv, y)]) ++ (B5 ++ (Rt ++ (roots ((σ.set j none).set j (some xv)) (ρ3.set j none) ++ (h0 ++ R)))) := by
                rw [List.append_assoc]; rfl
              rw [h2]
              exact swap3 _ _ _)
            exact cy.keepR
          · rw [if_neg hz] at p2; exact p2.elim
    · have hi2 : i = ds.length := by omega
      rw [List.drop_eq_nil_of_le (by omega)] at p2
      have p2 : okE T X.K σ R Q (.lst true acc) (ρ2.set j (look ρ1 j)) := p2
      refine .inl ⟨itk.2 hi2, ?_⟩
      have c3 : Conf T X.K H2 ([(.ref Dd, .lst true acc)] ++ (roots σ (ρ2.set j none) ++ (h0 ++ R))) := (Conf.mv (A := [(.ref Dd, .lst true acc)]) (B := Rt) c2).keepR
      obtain ⟨f4, c4⟩ := hout f2 c3
      exact p2 _ H2 f4 c4
end
end Ev

/-! Ev11: statements. -/
namespace Ev
open PySem PySem.Spec PyProof.Rows L2
theorem zip_set_erase {α β : Type} : ∀ (vs : List α) (ds : List β) (n : Nat) (v : α) (d : β), ((vs.set n v).zip (ds.set n d)).eraseIdx n = (vs.zip ds).eraseIdx n
  | [], _, _, _, _ => rfl
  | _ :: _, [], n, _, _ => by cases n <;> rfl
  | v :: vs, d :: ds, 0, _, _ => rfl
  | v :: vs, d :: ds, n + 1, v', d' => congrArg ((v, d) :: ·) (zip_set_erase vs ds n v' d')
/-- slots that stay as they are -/
def LkS (L : List (Nat × V)) (σ : L2.St) : Prop := ∀ p ∈ L, σ[p.1]? = some (some p.2)
theorem LkS.set {L : List (Nat × V)} {σ : L2.St} {i : Nat} {v : V} (h : LkS L σ) (hi : ∀ p ∈ L, p.1 ≠ i) : LkS L (σ.set i (some v)) := fun p hp => by
  rw [List.getElem?_set_ne (Ne.symm (hi p hp))]
  exact h p hp
section
variable (T : Tb) (K : PySem.W.Frag) (W : WX) (L : List (Nat × V)) (R : List Root) (Dn : Ends)
def okS : Fl → Env → Prop
  | .nx, ρ => ∀ σ H, LkS L σ → Fits σ ρ → Conf T K H (roots σ ρ ++ R) → Dn.nx σ H
  | .ret d, ρ => ∀ v σ H, LkS L σ → Fits σ ρ → Conf T K H ((v, d) :: (roots σ ρ ++ R)) → Dn.rt v H
  | .brk, ρ => ∀ σ H, LkS L σ → Fits σ ρ → Conf T K H (roots σ ρ ++ R) → Dn.bk σ H
  | .ct, ρ => ∀ σ H, LkS L σ → Fits σ ρ → Conf T K H (roots σ ρ ++ R) → Dn.ct σ H
def PostS : Out Fl → Prop
  | .ok f ρ => okS T K L R Dn f ρ
  | .exc c d ρ => ∀ σ, LkS L σ → PX T K W σ R c d ρ
  | .err => False
end
section
variable (T : Tb) (cf : CF) (X : Cx) (W : WX) (L : List (Nat × V))
def SndS (st : Stmt) (s : St) : Prop := ∀ σ H ρ R Dn, LkS L σ → Fits σ ρ → Conf T X.K H (roots σ ρ ++ R) → PostS T X.K W L R Dn (evS cf s ρ) → WpS X st Dn σ H
def SndSs (st : List Stmt) (s : Sts) : Prop := ∀ σ H ρ R Dn, LkS L σ → Fits σ ρ → Conf T X.K H (roots σ ρ ++ R) → PostS T X.K W L R Dn (evSs cf s ρ) → WpSs X st Dn σ H
end
section
variable {T : Tb} {S : Sta} {cf : CF} {X : Cx} {W : WX} {L : List (Nat × V)} {σ : L2.St} {H : Hp} {ρ : Env} {R B : List Root} {Q Q' : VK} {a b e i tg : Expr} {xa xb xc xi x : Ex} {pos : Pos} {es : List Expr} {xs : Exs} {Dn : Ends} {α : Type}
theorem PostS.bind {o : Out α} {f : α → Env → Out Fl} (h : PostS T X.K W L R Dn (o.bind f)) (hL : LkS L σ) {ok' : α → Env → Prop} (k : ∀ a ρ, o = .ok a ρ → PostS T X.K W L R Dn (f a ρ) → ok' a ρ) : Post T X.K W σ (B ++ R) ok' o := by
  cases o with
  | ok a ρ => exact k a ρ rfl h
  | exc c d ρ => exact PX.frame (h σ hL)
  | err => exact h
theorem SndE.useS {f : D → Env → Out Fl} (h : SndE T cf X W e x) (B : List Root) (hL : LkS L σ) (hf : Fits σ ρ) (c : Conf T X.K H (roots σ ρ ++ (B ++ R))) (hP : PostS T X.K W L R Dn ((evE cf x ρ).bind f))
    (k : ∀ d ρ1 v H1, evE cf x ρ = .ok d ρ1 → PostS T X.K W L R Dn (f d ρ1) → Fits σ ρ1 → Conf T X.K H1 ((v, d) :: (roots σ ρ1 ++ (B ++ R))) → Q' v H1) : WpE X e σ H Q' :=
  h σ H ρ (B ++ R) Q' hf c (hP.bind hL fun d ρ1 e1 p v H1 f1 c1 => k d ρ1 v H1 e1 p f1 c1)
theorem SndT.useS {f : Bool → Env → Out Fl} {Q' : Bool → Hp → Prop} (h : SndT T cf X W e x) (B : List Root) (hL : LkS L σ) (hf : Fits σ ρ) (c : Conf T X.K H (roots σ ρ ++ (B ++ R))) (hP : PostS T X.K W L R Dn ((evT cf x ρ).bind f))
    (k : ∀ d ρ1 H1, evT cf x ρ = .ok d ρ1 → PostS T X.K W L R Dn (f d ρ1) → Fits σ ρ1 → Conf T X.K H1 (roots σ ρ1 ++ (B ++ R)) → Q' d H1) : WpT X e σ H Q' :=
  h σ H ρ (B ++ R) Q' hf c (hP.bind hL fun d ρ1 e1 p H1 f1 c1 => k d ρ1 H1 e1 p f1 c1)
theorem SndI.useS {f : List D → Env → Out Fl} {xit : Itx} {it : Expr} {Q' : It → Hp → Prop} (h : SndI T cf X W tg it xit) (B : List Root) (hL : LkS L σ) (hf : Fits σ ρ) (c : Conf T X.K H (roots σ ρ ++ (B ++ R))) (hP : PostS T X.K W L R Dn ((evI cf xit ρ).bind f))
    (k : ∀ ds ρ1 J H1 Rt, evI cf xit ρ = .ok ds ρ1 → PostS T X.K W L R Dn (f ds ρ1) → Fits σ ρ1 → ItOk T X.K J Rt ds → Conf T X.K H1 (Rt ++ (roots σ ρ1 ++ (B ++ R))) → Q' J H1) : WpI X tg it σ H Q' :=
  h σ H ρ (B ++ R) Q' hf c (hP.bind hL fun d ρ1 e1 p J H1 Rt f1 it1 c1 => k d ρ1 J H1 Rt e1 p f1 it1 c1)
theorem PostS.ofO {o : Option α} {ρ : Env} {f : α → Env → Out Fl} (h : PostS T X.K W L R Dn ((ofO o ρ).bind f)) : ∃ a, o = some a ∧ PostS T X.K W L R Dn (f a ρ) := by
  cases o with
  | none => exact h.elim
  | some a => exact ⟨a, rfl, h⟩
/-! blocks -/
theorem sndSs_nil : SndSs T cf X W L [] .nil := fun σ H ρ R Dn hL hf c hP => ⟨_, pss_nil, hP σ H hL hf c⟩
theorem sndSs_cons {st : Stmt} {s : St} {sts : List Stmt} {ss : Sts} (h : SndS T cf X W L st s) (hr : SndSs T cf X W L sts ss) : SndSs T cf X W L (st :: sts) (.cons s ss) := fun σ H ρ R Dn hL hf c hP => by
  have hP : PostS T X.K W L R Dn ((evS cf s ρ).bind fun f ρ1 => match f with | .nx => evSs cf ss ρ1 | f => .ok f ρ1) := hP
  refine ⟨_, pss_cons ps_wp pss_wp, h σ H ρ R _ hL hf c ?_⟩
  cases e1 : evS cf s ρ with
  | err => rw [e1] at hP; exact hP.elim
  | exc _ _ _ => rw [e1] at hP; exact hP
  | ok f ρ1 =>
    rw [e1, Out.bind_ok] at hP
    cases f with
    | nx => exact fun σ1 H1 hL1 f1 c1 => hr σ1 H1 ρ1 R Dn hL1 f1 c1 hP
    | ret d => exact hP
    | brk => exact hP
    | ct => exact hP
/-! small statements -/
def NoCompr (e : Expr) : Prop := (∀ a b c d, e ≠ .ListComp a b c d) ∧ (∀ a b c d, e ≠ .SetComp a b c d) ∧ ∀ a b c d f, e ≠ .DictComp a b c d f
theorem swaps_no {t : Option Expr} {l : Nat} {env : PySem.Env} (h : NoCompr e) : swapsWith e t l env = pure false := by
  cases e <;> first | rfl | exact absurd rfl (h.1 _ _ _ _) | exact absurd rfl (h.2.1 _ _ _ _) | exact absurd rfl (h.2.2 _ _ _ _ _)
theorem swaps_sole {t e : Expr} {l : Nat} {env : PySem.Env} (h : NoCompr e) : swapsWithSole [t] e l env = pure false := by
  unfold swapsWithSole
  exact swaps_no h
theorem sndS_ex (hn : NoCompr e) (h : SndE T cf X W e x) : SndS T cf X W L (.Expr e pos) (.ex x) := fun σ H ρ R Dn hL hf c hP =>
  ⟨_, ps_expr pe_wp (swaps_no hn), SndE.useS h [] hL hf c hP fun d ρ1 v H1 e1 p1 f1 c1 => p1 σ H1 hL f1 c1.tail⟩
theorem sndS_pas : SndS T cf X W L (.Pass pos) .pas := fun σ H ρ R Dn hL hf c hP => ⟨_, ps_pass, hP σ H hL hf c⟩
theorem sndS_brk : SndS T cf X W L (.Break pos) .brk := fun σ H ρ R Dn hL hf c hP => ⟨_, ps_break, hP σ H hL hf c⟩
theorem sndS_cnt : SndS T cf X W L (.Continue pos) .cnt := fun σ H ρ R Dn hL hf c hP => ⟨_, ps_continue, hP σ H hL hf c⟩
theorem sndS_nev {st : Stmt} : SndS T cf X W L st .nev := fun σ H ρ R Dn hL hf c hP => hP.elim
theorem sndS_retN : SndS T cf X W L (.Return none pos) .retN := fun σ H ρ R Dn hL hf c hP => ⟨_, ps_retN, hP .non σ H hL hf (Conf.sca (d := .non) c rfl)⟩
theorem sndS_ret (h : SndE T cf X W e x) : SndS T cf X W L (.Return (some e) pos) (.ret .val x) := fun σ H ρ R Dn hL hf c hP =>
  ⟨_, ps_ret pe_wp, SndE.useS h [] hL hf c hP fun d ρ1 v H1 e1 p1 f1 c1 => p1 v σ H1 hL f1 c1⟩
theorem sndS_retR {j : Nat} {y : Str} {p' : Pos} (lk : Lk T S cf X W) (hj : S.N[j]? = some y) (hv : Vis S.sc y) (n1 : (y == ("__debug__" : Str)) = false) (n2 : (y == ("__classdict__" : Str)) = false) : SndS T cf X W L (.Return (some (.Name y p')) pos) (.ret .ref (.var j)) := fun σ H ρ R Dn hL hf c hP => by
  have hP : PostS T X.K W L R Dn (match look ρ j with | some d => .ok (.ret d) (ρ.set j none) | none => .err) := hP
  have pv : PE X (.Name y p') (tVar j) := pe_var (by rw [lk.hN]; exact hj) (by rw [lk.sc]; exact hv) n1 n2
  cases hl : look ρ j with
  | none => rw [hl] at hP; exact hP.elim
  | some d =>
    rw [hl] at hP
    obtain ⟨v, g1, g2, g3⟩ := roots_take hf hl
    exact ⟨_, ps_ret pv, v, g1, hP v σ H hL g3 (Conf.permL c g2)⟩
theorem sto_ok {y : Str} (lk : Lk T S cf X W) (h : y ∈ S.sto) : Loc X.env.scope y ∧ (X.fn y = true ∨ X.env.scope.names.lookup y = some .local) := by
  rw [lk.sc]
  exact lk.fx y h
theorem sndS_set {j : Nat} {y : Str} {p' : Pos} (lk : Lk T S cf X W) (hj : S.N[j]? = some y) (hs : y ∈ S.sto) (hl : ∀ p ∈ L, p.1 ≠ j) (hn : NoCompr e) (h : SndE T cf X W e x) : SndS T cf X W L (.Assign [.Name y p'] e pos) (.set j x) := fun σ H ρ R Dn hL hf c hP => by
  obtain ⟨h1, h2⟩ := sto_ok lk hs
  refine ⟨_, ps_set (by rw [lk.hN]; exact lk.nd) (by rw [lk.hN]; exact hj) h1 pe_wp (swaps_no hn) h2, SndE.useS h [] hL hf c hP fun d ρ1 v H1 e1 p1 f1 c1 => ?_⟩
  obtain ⟨f2, c2⟩ := Conf.store j f1 c1
  exact p1 _ H1 (hL.set hl) f2 c2
/-- name = [..] -/
theorem sndS_setLc {jt : Nat} {y : Str} {p' : Pos} {scope : Scope} {z : Str} {j : Nat} {pz : Pos} {it : Expr} {xit : Itx} {elt : Expr} {pc : Pos} (lk : Lk T S cf X W) (hj : S.N[jt]? = some y) (hs : y ∈ S.sto) (hl : ∀ p ∈ L, p.1 ≠ jt)
    (hi : SndI T cf X W (.Name z pz) it xit) (he : ∀ s H0 C cl fp, SndE T cf (X.blk s H0 scope (compEnvC scope cl C X.env) fp) W0 elt x) (hb : BlkOk S.N S.sc scope [(z, j)])
    (hz : scope.names.lookup z = some .local ∨ scope.names.lookup z = some .cell) (hset : ∀ v, foldedSetIterable it X.env v = pure v) :
    SndS T cf X W L (.Assign [.Name y p'] (.ListComp elt [⟨.Name z pz, it, [], 0⟩] scope pc) pos) (.set jt (.lc j xit x)) := fun σ H ρ R Dn hL hf c hP => by
  obtain ⟨h1, h2⟩ := sto_ok lk hs
  have hbk : BlkOk X.N X.env.scope scope [(z, j)] := by rw [lk.hN, lk.sc]; exact hb
  have hN : X.N.Nodup := by rw [lk.hN]; exact lk.nd
  have hg : ∀ s H0 C cl fp, PG (X.blk s H0 scope (compEnvC scope cl C X.env) fp) (.Name z pz) (gName j) := fun s H0 C cl fp => by
    have lb := lk_blk (s := s) (H0 := H0) (C := C) (cl := cl) (fp := fp) lk hb.kind hz
    obtain ⟨g1, g2⟩ := sto_ok lb (List.mem_singleton.mpr rfl)
    exact pg_name hN (hbk.ix (z, j) (List.mem_singleton.mpr rfl)) g1 g2
  have body : tLc (WpI X (.Name z pz) it) (gName j) tYes (fun σ H Q => ∀ s H0 C cl fp, WpE (X.blk s H0 scope (compEnvC scope cl C X.env) fp) elt σ H Q) [j] σ H (fun v H1 => Dn.nx (σ.set jt (some v)) H1) := by
    have hP : PostS T X.K W L R Dn ((evE cf (.lc j xit x) ρ).bind fun d ρ1 => .ok .nx (setS ρ1 jt d)) := hP
    refine lc_ok (R := [] ++ R) lk hi he hf c (hP.bind hL fun d ρ1 e1 p1 => fun v H1 f1 c1 => ?_)
    obtain ⟨f2, c2⟩ := Conf.store jt f1 c1
    exact p1 _ H1 (hL.set hl) f2 c2
  have ht : ∀ s H0 C cl fp, PTs (X.blk s H0 scope (compEnvC scope cl C X.env) fp) [] tYes := fun _ _ _ _ _ => pts_nil
  have hew : ∀ s H0 C cl fp, PE (X.blk s H0 scope (compEnvC scope cl C X.env) fp) elt (fun σ H Q => ∀ s H0 C cl fp, WpE (X.blk s H0 scope (compEnvC scope cl C X.env) fp) elt σ H Q) := fun s H0 C cl fp =>
    ⟨fun pins s' σ H Q I h => (pe_wp (X := X.blk s H0 scope (compEnvC scope cl C X.env) fp) (e := elt)).run pins s' σ H Q I (h s H0 C cl fp)⟩
  by_cases hsw : X.env.scope.names.lookup y = some .local ∧ (p'.line == pc.line) = true ∧ (scope.names.any fun (n, k) => n == y && (k == .local || k == .cell)) = false
  · obtain ⟨q1, q2, q3⟩ := hsw
    have sw := sw_true (elt := elt) (gs := [⟨.Name z pz, it, [], 0⟩]) (l := pos.line) (env := X.env) (by rw [lk.sc]; exact lk.kd) q1 q2 q3
    exact ⟨_, ps_setLc lk.calm hN (by rw [lk.hN]; exact hj) q1 sw pi_wp hbk hg ht hew hset, body⟩
  · have sw : swapsWith (.ListComp elt [⟨.Name z pz, it, [], 0⟩] scope pc) (some (.Name y p')) pos.line X.env = pure false := by
      unfold swapsWith
      show (pure _ : Sem Bool) = pure false
      congr 1
      have hbk2 : X.env.blockKind = .function := by
        unfold Env.blockKind
        rw [lk.sc, lk.kd]
        rfl
      rw [Bool.eq_false_iff]
      intro hq
      apply hsw
      rw [hbk2] at hq
      simp only [Bool.and_eq_true, Bool.not_eq_true', Expr.pos] at hq
      obtain ⟨⟨⟨_, k1⟩, k2⟩, k3⟩ := hq
      refine ⟨?_, k2, k3⟩
      have : X.env.kindOf y = some .local := eq_of_beq k1
      exact this
    exact ⟨_, ps_set hN (by rw [lk.hN]; exact hj) h1 (pe_lc lk.calm hN pi_wp hbk hg ht hew hset) sw h2, body⟩
/-- .. as a value -/
theorem snd_lc {scope : Scope} {z : Str} {j : Nat} {pz : Pos} {it : Expr} {xit : Itx} {elt : Expr} {pc : Pos} (lk : Lk T S cf X W)
    (hi : SndI T cf X W (.Name z pz) it xit) (he : ∀ s H0 C cl fp, SndE T cf (X.blk s H0 scope (compEnvC scope cl C X.env) fp) W0 elt x) (hb : BlkOk S.N S.sc scope [(z, j)])
    (hz : scope.names.lookup z = some .local ∨ scope.names.lookup z = some .cell) (hset : ∀ v, foldedSetIterable it X.env v = pure v) :
    SndE T cf X W (.ListComp elt [⟨.Name z pz, it, [], 0⟩] scope pc) (.lc j xit x) := fun σ H ρ R Q hf c hP => by
  have hbk : BlkOk X.N X.env.scope scope [(z, j)] := by rw [lk.hN, lk.sc]; exact hb
  have hN : X.N.Nodup := by rw [lk.hN]; exact lk.nd
  have hg : ∀ s H0 C cl fp, PG (X.blk s H0 scope (compEnvC scope cl C X.env) fp) (.Name z pz) (gName j) := fun s H0 C cl fp => by
    have lb := lk_blk (s := s) (H0 := H0) (C := C) (cl := cl) (fp := fp) lk hb.kind hz
    obtain ⟨g1, g2⟩ := sto_ok lb (List.mem_singleton.mpr rfl)
    exact pg_name hN (hbk.ix (z, j) (List.mem_singleton.mpr rfl)) g1 g2
  have ht : ∀ s H0 C cl fp, PTs (X.blk s H0 scope (compEnvC scope cl C X.env) fp) [] tYes := fun _ _ _ _ _ => pts_nil
  have hew : ∀ s H0 C cl fp, PE (X.blk s H0 scope (compEnvC scope cl C X.env) fp) elt (fun σ H Q => ∀ s H0 C cl fp, WpE (X.blk s H0 scope (compEnvC scope cl C X.env) fp) elt σ H Q) := fun s H0 C cl fp =>
    ⟨fun pins s' σ H Q I h => (pe_wp (X := X.blk s H0 scope (compEnvC scope cl C X.env) fp) (e := elt)).run pins s' σ H Q I (h s H0 C cl fp)⟩
  exact ⟨_, pe_lc lk.calm hN pi_wp hbk hg ht hew hset, lc_ok lk hi he hf c hP⟩
/-! a, b = e -/
inductive NmL (S : Sta) (L : List (Nat × V)) : List Expr → List Nat → Prop where
  | nil : NmL S L [] []
  | cons {y : Str} {j : Nat} {p : Pos} {es : List Expr} {is : List Nat} (hj : S.N[j]? = some y) (hs : y ∈ S.sto) (hl : ∀ p ∈ L, p.1 ≠ j) (r : NmL S L es is) : NmL S L (.Name y p :: es) (j :: is)
theorem nm_each {env : PySem.Env} : ∀ {es : List Expr} {is : List Nat}, NmL S L es is → (assignEach es env).length = is.length ∧ (assignEach es env).findIdx? (·.1) = none := by
  intro es is h
  induction h with
  | nil => exact ⟨rfl, rfl⟩
  | cons hj hs hl r ih =>
    refine ⟨congrArg (· + 1) ih.1, ?_⟩
    show ((false, _) :: assignEach _ env).findIdx? (·.1) = none
    rw [List.findIdx?_cons, ih.2]
    rfl
def tgs : List Nat → TGs
  | [] => gNil
  | i :: is => gCons (gName i) (tgs is)
theorem pgs_nm (lk : Lk T S cf X W) : ∀ {es : List Expr} {is : List Nat}, NmL S L es is → PGs X es (tgs is) := by
  intro es is h
  induction h with
  | nil => exact pgs_nil
  | cons hj hs hl r ih =>
    obtain ⟨h1, h2⟩ := sto_ok lk hs
    exact pgs_cons (pg_name (by rw [lk.hN]; exact lk.nd) (by rw [lk.hN]; exact hj) h1 h2) ih rfl
theorem tgs_ok : ∀ {is : List Nat} {ds : List D} {vs : List V} {ρ r : Env} {σ : L2.St} {P : L2.St → Hp → Prop}, setM is ds ρ = some r → vs.length = ds.length → (∀ p ∈ L, p.1 ∉ is) → LkS L σ → Fits σ ρ → Conf T X.K H (zipR vs ds ++ (roots σ ρ ++ R)) →
    (∀ σ', LkS L σ' → Fits σ' r → Conf T X.K H (roots σ' r ++ R) → P σ' H) → tgs is vs σ H P
  | [], [], [], ρ, r, σ, P, h, _, _, hL, f, c, k => by
    unfold setM at h
    cases h
    exact ⟨rfl, k σ hL f c⟩
  | [], [], _ :: _, _, _, _, _, _, h, _, _, _, _, _ => nomatch h
  | [], _ :: _, _, _, _, _, _, h, _, _, _, _, _, _ => by unfold setM at h; exact nomatch h
  | _ :: _, [], _, _, _, _, _, h, _, _, _, _, _, _ => by unfold setM at h; exact nomatch h
  | _ :: _, _ :: _, [], _, _, _, _, _, h, _, _, _, _, _ => nomatch h
  | i :: is, d :: ds, v :: vs, ρ, r, σ, P, h, hl, hd, hL, f, c, k => by
    unfold setM at h
    have c : Conf T X.K H ((v, d) :: (zipR vs ds ++ (roots σ ρ ++ R))) := c
    have c2 : Conf T X.K H ((v, d) :: (roots σ ρ ++ (zipR vs ds ++ R))) := c.perm (List.Perm.cons _ (swap3 _ _ _))
    obtain ⟨f3, c3⟩ := Conf.store i f c2
    exact ⟨v, vs, rfl, tgs_ok h (by simpa using hl) (fun p hp q => hd p hp (List.mem_cons_of_mem _ q)) (hL.set fun p hp q => hd p hp (by rw [q]; exact List.mem_cons_self)) f3 (Conf.mv c3) k⟩
theorem nm_lock : ∀ {es : List Expr} {is : List Nat}, NmL S L es is → ∀ p ∈ L, p.1 ∉ is := by
  intro es is h
  induction h with
  | nil => exact fun _ _ h => nomatch h
  | cons hj hs hl r ih =>
    intro p hp q
    rcases List.mem_cons.mp q with q | q
    · exact hl p hp q
    · exact ih p hp q
theorem sndS_mset {ts : List Expr} {is : List Nat} {k : Nat} {pt : Pos} (lk : Lk T S cf X W) (hn : NmL S L ts is) (hc : NoCompr e) (hw : swappedStores [.Tuple ts k pt] e X.env = pure none) (h : SndE T cf X W e x) : SndS T cf X W L (.Assign [.Tuple ts k pt] e pos) (.mset is x) := fun σ H ρ R Dn hL hf c hP => by
  obtain ⟨n1, n2⟩ := nm_each (env := X.env) hn
  refine ⟨_, ps_asg pe_wp (pg_tup lk.calm (pgs_nm lk hn) n1 n2) (swaps_sole hc) hw rfl, SndE.useS h [] hL hf c hP fun d ρ1 v H1 e1 p1 f1 c1 => ?_⟩
  cases d with
  | tup ds =>
    obtain ⟨r, hr, p2⟩ := p1.ofO
    obtain ⟨a, vs, rfl, hq, hl, c2⟩ := Conf.tup c1
    have hlen : is.length = ds.length := by
      clear p1 p2 c1 c2 f1 e1 hP hl
      have : ∀ {is : List Nat} {ds : List D} {ρ r : Env}, setM is ds ρ = some r → is.length = ds.length := by
        intro is
        induction is with
        | nil => intro ds ρ r h; cases ds with
          | nil => rfl
          | cons _ _ => unfold setM at h; exact nomatch h
        | cons i is ih => intro ds ρ r h; cases ds with
          | nil => unfold setM at h; exact nomatch h
          | cons d ds => unfold setM at h; simp [ih h]
      exact this hr
    exact ⟨a, vs, rfl, hq, by rw [hl, hlen], tgs_ok hr hl (nm_lock hn) hL f1 c2 fun σ' hL' f' c' => p2 σ' H1 hL' f' c'⟩
  | _ => exact p1.elim
/-- a, b = x, y: plain local names -/
theorem sndS_par {j1 j2 : Nat} {y1 y2 : Str} {p1 p2 pt pt2 : Pos} {kt k2 : Nat} (lk : Lk T S cf X W) (h1 : S.N[j1]? = some y1) (h2 : S.N[j2]? = some y2) (hne : j1 ≠ j2) (l1 : S.sc.names.lookup y1 = some .local) (l2 : S.sc.names.lookup y2 = some .local)
    (k1 : ∀ p ∈ L, p.1 ≠ j1) (k2' : ∀ p ∈ L, p.1 ≠ j2) (sa : NoStar a) (sb : NoStar b) (ha : SndE T cf X W a xa) (hb : SndE T cf X W b xb)
    (hw : swappedStores [.Tuple [.Name y1 p1, .Name y2 p2] kt pt] (.Tuple [a, b] k2 pt2) X.env = pure (some [y1, y2])) :
    SndS T cf X W L (.Assign [.Tuple [.Name y1 p1, .Name y2 p2] kt pt] (.Tuple [a, b] k2 pt2) pos) (.par j1 j2 xa xb) := fun σ H ρ R Dn hL hf c hP => by
  refine ⟨_, ps_par lk.calm (by rw [lk.hN]; exact lk.nd) (by rw [lk.hN]; exact h1) (by rw [lk.hN]; exact h2) hne (by rw [lk.sc]; exact l1) (by rw [lk.sc]; exact l2) (pa_cons pe_wp (pa_cons pe_wp pa_nil (star_cons sb)) (star_cons sa)) hw rfl, ?_⟩
  refine SndE.useS ha [] hL hf c hP fun x ρ1 v H1 e1 q1 f1 c1 => SndE.useS hb [(v, x)] hL f1 (Conf.mv1 c1) q1 fun y ρ2 w H2 e2 q2 f2 c2 => ?_
  refine ⟨v, w, rfl, ?_⟩
  have c3 : Conf T X.K H2 ((v, x) :: (roots σ ρ2 ++ ((w, y) :: R))) := (Conf.bk2 c2).swap.perm (List.Perm.cons _ (List.perm_middle (l₁ := roots σ ρ2)).symm)
  obtain ⟨f3, c4⟩ := Conf.store j1 f2 c3
  obtain ⟨f5, c5⟩ := Conf.store j2 f3 (Conf.bk1 c4)
  exact q2 _ H2 ((hL.set k1).set k2') f5 c5
/-- name op= e (ints) -/
theorem sndS_aug {j : Nat} {y : Str} {p' : Pos} {op : Bop} (ho : op = .add ∨ op = .sub) (lk : Lk T S cf X W) (hj : S.N[j]? = some y) (hs : y ∈ S.sto) (hl : ∀ p ∈ L, p.1 ≠ j) (h : SndE T cf X W e x) : SndS T cf X W L (.AugAssign (.Name y p') (opc op) e pos) (.aug j op x) := fun σ H ρ R Dn hL hf c hP => by
  obtain ⟨h1, h2⟩ := sto_ok lk hs
  have hP : PostS T X.K W L R Dn (match look ρ j with
    | some (.int k) => (evE cf x ρ).bind fun y ρ1 => (ofO (binF op (.int k) y) ρ1).bind fun z _ => .ok .nx (setS ρ1 j z)
    | _ => .err) := hP
  cases hx : look ρ j with
  | none => rw [hx] at hP; exact hP.elim
  | some x0 =>
    rw [hx] at hP
    obtain ⟨v0, g1, g2, _⟩ := roots_take hf hx
    have cx : Rw T X.K H x0 v0 := Conf.rw_mem c (List.mem_append_left _ (g2.mem_iff.mpr List.mem_cons_self))
    have fin : ∀ {f : Int → Int → Int} (hop : ∀ i k, binF op (.int i) (.int k) = some (.int (f i k))), tAug j (WpE X e) (ipI f) Dn σ H := fun {f} hop => by
      refine ⟨v0, g1, ?_⟩
      cases x0 with
      | int i0 =>
        obtain rfl := cx.sca rfl
        have hP : PostS T X.K W L R Dn ((evE cf x ρ).bind fun y ρ1 => (ofO (binF op (.int i0) y) ρ1).bind fun z _ => .ok .nx (setS ρ1 j z)) := hP
        refine SndE.useS h [] hL hf c hP fun yd ρ1 v H1 e1 p1 f1 c1 => ?_
        obtain ⟨z, hz, p2⟩ := p1.ofO
        have hy : ∃ k, yd = .int k := by
          rcases ho with rfl | rfl <;> cases yd <;> first | exact ⟨_, rfl⟩ | exact nomatch hz
        obtain ⟨k, rfl⟩ := hy
        obtain rfl := c1.sca_eq rfl
        rw [hop] at hz
        cases hz
        refine ⟨i0, k, rfl, rfl, ?_⟩
        obtain ⟨f2, c2⟩ := Conf.store j f1 (Conf.sca (d := .int (f i0 k)) c1.tail rfl)
        exact p2 _ H1 (hL.set hl) f2 c2
      | _ => exact hP.elim
    rcases ho with rfl | rfl
    · exact ⟨_, ps_aug (by rw [lk.hN]; exact lk.nd) (by rw [lk.hN]; exact hj) h1 pe_wp ip_add h2, fin fun _ _ => rfl⟩
    · exact ⟨_, ps_aug (by rw [lk.hN]; exact lk.nd) (by rw [lk.hN]; exact hj) h1 pe_wp ip_sub h2, fin fun _ _ => rfl⟩
/-- name[i] = e -/
theorem sub_assign {o i : Expr} {pos : Pos} {env : PySem.Env} (h : ∀ a b p, i ≠ .Slice a b none p) : ∀ v, assign (.Subscript o i pos) env v = (do
      let ov ← holding [v] (eval o env)
      let iv ← holding [v, ov] (eval i env)
      standAt pos
      holding [v, ov, iv] (setItem ov iv v)
      release [v, ov, iv] []) := by
  intro v
  cases i with
  | Slice a b s p => cases s with
    | none => exact absurd rfl (h a b p)
    | some s => rfl
  | _ => rfl
theorem sndS_setIx {j : Nat} {y : Str} {p' p2 : Pos} (lk : Lk T S cf X W) (hj : S.N[j]? = some y) (hv : Vis S.sc y) (n1 : (y == ("__debug__" : Str)) = false) (n2 : (y == ("__classdict__" : Str)) = false) (hc : NoCompr e) (hsl : ∀ a b p, i ≠ .Slice a b none p)
    (h : SndE T cf X W e x) (hi : SndE T cf X W i xi) : SndS T cf X W L (.Assign [.Subscript (.Name y p') i p2] e pos) (.setIx j xi x) := fun σ H ρ R Dn hL hf c hP => by
  have hP : PostS T X.K W L R Dn ((evE cf x ρ).bind fun d ρ1 => if (look ρ1 j).isSome = true then (evE cf xi ρ1).bind fun y ρ2 => match look ρ2 j, y with
    | some (.lst true ds), .int k => match ixN ds.length k with
      | some n => .ok .nx (setS ρ2 j (.lst true (ds.set n d)))
      | none => .err
    | _, _ => .err else .err) := hP
  have pv : PE X (.Name y p') (tVar j) := pe_var (by rw [lk.hN]; exact hj) (by rw [lk.sc]; exact hv) n1 n2
  have hw : swappedStores [.Subscript (.Name y p') i p2] e X.env = pure none := by cases e <;> rfl
  refine ⟨_, ps_asg pe_wp (pg_sub pv pe_wp set_list (sub_assign hsl)) (swaps_sole hc) hw rfl, SndE.useS h [] hL hf c hP fun d ρ1 v H1 e1 p1 f1 c1 => ?_⟩
  by_cases hs : (look ρ1 j).isSome = true
  · rw [if_pos hs] at p1
    obtain ⟨d0, hd0⟩ := Option.isSome_iff_exists.mp hs
    obtain ⟨v0, g1, _, _⟩ := roots_take f1 hd0
    refine ⟨v0, g1, SndE.useS hi [(v, d)] hL f1 (Conf.mv1 c1) p1 fun yd ρ2 w H2 e2 p2 f2 c2 => ?_⟩
    have c3 := Conf.bk2 c2
    cases hl : look ρ2 j with
    | none => rw [hl] at p2; exact p2.elim
    | some x2 =>
      rw [hl] at p2
      obtain ⟨v1, k1, k2, k3⟩ := roots_take f2 hl
      obtain rfl : v1 = v0 := by rw [g1] at k1; cases k1; rfl
      cases x2 with
      | lst o ds =>
        cases o with
        | true =>
          cases yd with
          | int k =>
            dsimp only at p2
            cases hn : ixN ds.length k with
            | none => rw [hn] at p2; exact p2.elim
            | some n =>
              rw [hn] at p2
              obtain rfl := c3.sca_eq rfl
              have c4 : Conf T X.K H2 ((v1, .lst true ds) :: (v, d) :: (roots σ (ρ2.set j none) ++ R)) := c3.tail.perm ((List.Perm.cons _ (k2.append_right R)).trans (List.Perm.swap _ _ _))
              obtain ⟨p, vs, rfl, hp, l1, cx⟩ := Conf.lstX c4
              refine ⟨p, vs, k, n, rfl, rfl, hp, by rw [l1]; exact hn, ?_⟩
              have hnl : n < ds.length := (ixN_seq hn).2.1
              obtain ⟨b1, b2⟩ := roots_back (.lst true (ds.set n d)) k1 f2
              refine p2 σ _ hL b2 ?_
              have c5 : Conf T X.K (upd H2 p (.lst (vs.set n v))) ((.ref p, .lst true (ds.set n d)) :: (roots σ (ρ2.set j none) ++ R)) := by
                refine ConfX.mkLst (vs := vs.set n v) (ds := ds.set n d) (ConfX.put ?_ fun u e => by rw [hp] at e; cases e; exact fun z => z) (by rw [List.length_set, List.length_set, l1]) upd_same
                obtain ⟨w0, hw0⟩ : ∃ w0, vs[n]? = some w0 := ⟨vs[n], List.getElem?_eq_getElem (by omega)⟩
                have hz : (zipR vs ds ++ ((v, d) :: (roots σ (ρ2.set j none) ++ R))).Perm ([(vs[n], ds[n])] ++ (zipR (vs.set n v) (ds.set n d) ++ (roots σ (ρ2.set j none) ++ R))) := by
                  have h1 : n < (zipR vs ds).length := by unfold zipR; rw [List.length_zip]; omega
                  have h2 : n < (zipR (vs.set n v) (ds.set n d)).length := by unfold zipR; rw [List.length_zip, List.length_set, List.length_set]; omega
                  have q1 := perm_at (zipR vs ds) n h1
                  have q2 := perm_at (zipR (vs.set n v) (ds.set n d)) n h2
                  have e1 : (zipR vs ds)[n] = (vs[n], ds[n]) := List.getElem_zip
                  have e2 : (zipR (vs.set n v) (ds.set n d))[n] = (v, d) := (List.getElem_zip (l := vs.set n v) (l' := ds.set n d) (h := h2)).trans (by rw [List.getElem_set_self, List.getElem_set_self])
                  have e3 : (zipR (vs.set n v) (ds.set n d)).eraseIdx n = (zipR vs ds).eraseIdx n := by
                    unfold zipR
                    exact zip_set_erase vs ds n v d
                  rw [e1] at q1
                  rw [e2, e3] at q2
                  refine ((q1.append_right _).trans ?_)
                  refine (List.Perm.cons _ ?_)
                  refine List.Perm.trans ?_ ((q2.symm).append_right _)
                  exact List.perm_middle
                exact (cx.perm hz).keepR
              exact Conf.permL (A := _ :: _) c5 b1.symm
          | _ => exact p2.elim
        | false => exact p2.elim
      | _ => exact p2.elim
  · rw [if_neg hs] at p1; exact p1.elim
end
end Ev

/-! Ev12: if, while, for. -/
namespace Ev
open PySem PySem.Spec PyProof.Rows L2
section
variable {T : Tb} {S : Sta} {cf : CF} {X : Cx} {W : WX} {L : List (Nat × V)} {σ : L2.St} {H : Hp} {ρ : Env} {R B : List Root} {Q Q' : VK} {a b e i tg : Expr} {xa xb xc xi x : Ex} {pos : Pos} {Dn : Ends}
theorem sndS_if {p q : List Stmt} {ps qs : Sts} (h : SndT T cf X W e x) (hp : SndSs T cf X W L p ps) (hq : SndSs T cf X W L q qs) : SndS T cf X W L (.If e p q pos) (.ite x ps qs) := fun σ H ρ R Dn hL hf c hP => by
  have hP : PostS T X.K W L R Dn ((evT cf x ρ).bind fun t ρ1 => if t = true then evSs cf ps ρ1 else evSs cf qs ρ1) := hP
  refine ⟨_, ps_if pt_wp pss_wp pss_wp, SndT.useS h [] hL hf c hP fun t ρ1 H1 e1 p1 f1 c1 => ?_⟩
  cases t with
  | true => exact hp σ H1 ρ1 R Dn hL f1 c1 p1
  | false => exact hq σ H1 ρ1 R Dn hL f1 c1 p1
theorem sndS_whl {p : List Stmt} {ps : Sts} (lk : Lk T S cf X W) (h : SndT T cf X W e x) (hp : SndSs T cf X W L p ps) : SndS T cf X W L (.While e p [] pos) (.whl x ps) := fun σ H ρ R Dn hL hf c hP => by
  have hP : PostS T X.K W L R Dn (whileF (evT cf x) (evSs cf ps) turns ρ) := hP
  refine ⟨_, ps_while lk.hp pt_wp pss_wp, ?_⟩
  refine ⟨fun m σ H => ∃ ρ, LkS L σ ∧ Fits σ ρ ∧ Conf T X.K H (roots σ ρ ++ R) ∧ PostS T X.K W L R Dn (whileF (evT cf x) (evSs cf ps) m ρ), ⟨turns, ρ, hL, hf, c, hP⟩, ?_⟩
  rintro m σ H ⟨ρ, hL, hf, c, hP⟩
  cases m with
  | zero => exact hP.elim
  | succ m =>
    refine SndT.useS h [] hL hf c hP fun t ρ1 H1 e1 p1 f1 c1 => ?_
    cases t with
    | false => exact p1 σ H1 hL f1 c1
    | true =>
      have p1 : PostS T X.K W L R Dn ((evSs cf ps ρ1).bind fun f ρ2 => match f with
        | .nx => whileF (evT cf x) (evSs cf ps) m ρ2
        | .ct => whileF (evT cf x) (evSs cf ps) m ρ2
        | .brk => .ok .nx ρ2
        | .ret d => .ok (.ret d) ρ2) := p1
      refine ⟨fun σ' H' => ∃ ρ, LkS L σ' ∧ Fits σ' ρ ∧ Conf T X.K H' (roots σ' ρ ++ R) ∧ PostS T X.K W L R Dn (whileF (evT cf x) (evSs cf ps) m ρ), fun σ' H' hw => ⟨m, Nat.lt_succ_self m, hw⟩, ?_⟩
      refine hp σ H1 ρ1 R _ hL f1 c1 ?_
      cases e2 : evSs cf ps ρ1 with
      | err => rw [e2] at p1; exact p1.elim
      | exc _ _ _ => rw [e2] at p1; exact p1
      | ok f ρ2 =>
        rw [e2, Out.bind_ok] at p1
        cases f with
        | nx => exact fun σ' H' h1 h2 h3 => ⟨ρ2, h1, h2, h3, p1⟩
        | ct => exact fun σ' H' h1 h2 h3 => ⟨ρ2, h1, h2, h3, p1⟩
        | brk => exact p1
        | ret d => exact p1
theorem sndS_for {p : List Stmt} {ps : Sts} {j : Nat} {y : Str} {p' : Pos} {xit : Itx} (lk : Lk T S cf X W) (hj : S.N[j]? = some y) (hs : y ∈ S.sto) (hl : ∀ p ∈ L, p.1 ≠ j) (hi : SndI T cf X W (.Name y p') e xit) (hset : ∀ v, foldedSetIterable e X.env v = pure v)
    (hp : SndSs T cf X W L p ps) : SndS T cf X W L (.For (.Name y p') e p [] pos) (.for1 j xit ps) := fun σ H ρ R Dn hL hf c hP => by
  obtain ⟨h1, h2⟩ := sto_ok lk hs
  have hP : PostS T X.K W L R Dn ((evI cf xit ρ).bind fun ds ρ1 => forF (fun d r => setS r j d) (evSs cf ps) ds ρ1) := hP
  refine ⟨_, ps_for lk.hp lk.calm pi_wp (pg_name (by rw [lk.hN]; exact lk.nd) (by rw [lk.hN]; exact hj) h1 h2) pss_wp hset, ?_⟩
  refine SndI.useS hi [] hL hf c hP fun ds ρ1 J H1 Rt e1 p1 f1 it1 c1 => ?_
  refine ⟨fun i m σ H => ∃ ρ, m = ds.length - i ∧ i ≤ ds.length ∧ LkS L σ ∧ Fits σ ρ ∧ Conf T X.K H (Rt ++ (roots σ ρ ++ R)) ∧ PostS T X.K W L R Dn (forF (fun d r => setS r j d) (evSs cf ps) (ds.drop i) ρ), ⟨ds.length, ρ1, rfl, Nat.zero_le _, hL, f1, c1, by rw [List.drop_zero]; exact p1⟩, ?_⟩
  rintro i m σ H ⟨ρ, rfl, hi, hL, f, c, p⟩
  have itk := it1 (roots σ ρ ++ R) i H c
  by_cases hlt : i < ds.length
  · have hd : ds[i]? = some ds[i] := List.getElem?_eq_getElem hlt
    rw [List.drop_eq_getElem_cons hlt] at p
    have p : PostS T X.K W L R Dn ((evSs cf ps (setS ρ j ds[i])).bind fun f ρ2 => match f with
        | .nx => forF (fun d r => setS r j d) (evSs cf ps) (ds.drop (i + 1)) ρ2
        | .ct => forF (fun d r => setS r j d) (evSs cf ps) (ds.drop (i + 1)) ρ2
        | .brk => .ok .nx ρ2
        | .ret d => .ok (.ret d) ρ2) := p
    obtain ⟨hgo, hy⟩ := itk.1 _ hd
    refine .inr ⟨hgo, fun σ' H' => ∃ ρ, i + 1 ≤ ds.length ∧ LkS L σ' ∧ Fits σ' ρ ∧ Conf T X.K H' (Rt ++ (roots σ' ρ ++ R)) ∧ PostS T X.K W L R Dn (forF (fun d r => setS r j d) (evSs cf ps) (ds.drop (i + 1)) ρ), fun σ' H' ⟨ρ, g1, g2, g3, g4, g5⟩ => ⟨ds.length - (i + 1), by omega, ρ, rfl, g1, g2, g3, g4, g5⟩, fun xv H3 yv => ?_⟩
    have c3 := hy xv H3 yv
    have c4 : Conf T X.K H3 ((xv, ds[i]) :: (roots σ ρ ++ (Rt ++ R))) := c3.perm (List.Perm.cons _ (swap3 _ _ _))
    obtain ⟨f5, c5⟩ := Conf.store j f c4
    show WpSs X _ _ (σ.set j (some xv)) H3
    refine hp _ H3 (ρ.set j (some ds[i])) (Rt ++ R) _ (hL.set hl) f5 c5 ?_
    have drop : ∀ {H : Hp} {σ : L2.St} {ρ : Env} {A : List Root}, Conf T X.K H (A ++ (roots σ ρ ++ (Rt ++ R))) → Conf T X.K H (A ++ (roots σ ρ ++ R)) := fun {H σ ρ A} c =>
      Conf.keepR (A := Rt) (c.perm ((List.Perm.append_left A (swap3 _ _ _)).trans (swap3 _ _ _)))
    show PostS T X.K W L (Rt ++ R) _ (evSs cf ps (setS ρ j ds[i]))
    cases e2 : evSs cf ps (setS ρ j ds[i]) with
    | err => rw [e2] at p; exact p.elim
    | exc k d r =>
      rw [e2] at p
      intro σ' hL'
      exact PX.frame (p σ' hL')
    | ok fl ρ2 =>
      rw [e2, Out.bind_ok] at p
      cases fl with
      | nx => exact fun σ' H' h1 h2 h3 => ⟨ρ2, hlt, h1, h2, h3.perm (swap3 _ _ _), p⟩
      | ct => exact fun σ' H' h1 h2 h3 => ⟨ρ2, hlt, h1, h2, h3.perm (swap3 _ _ _), p⟩
      | brk => exact fun σ' H' h1 h2 h3 => p σ' H' h1 h2 (drop (A := []) h3)
      | ret d => exact fun v σ' H' h1 h2 h3 => p v σ' H' h1 h2 (drop (A := [(v, d)]) h3)
  · have hi2 : i = ds.length := by omega
    rw [List.drop_eq_nil_of_le (by omega)] at p
    exact .inl ⟨itk.2 hi2, p σ H hL f (Conf.keepR (A := Rt) c)⟩
end
end Ev

/-! Ev13: from the program's text to the small language. -/
namespace Ev
open PySem PySem.Spec PyProof.Rows L2
/-- what stands for a form that is not covered -/
def exNev : Ex := .isi .ref (.con .non) .int
def nStar : Expr → Bool
  | .Starred .. => false
  | _ => true
theorem nStar_ok {e : Expr} (h : nStar e = true) : NoStar e := fun p q z => by subst z; exact nomatch h
def noComprB : Expr → Bool
  | .ListComp .. => false
  | .SetComp .. => false
  | .DictComp .. => false
  | _ => true
theorem noComprB_ok {e : Expr} (h : noComprB e = true) : NoCompr e := ⟨fun _ _ _ _ z => (by subst z; exact nomatch h), fun _ _ _ _ z => (by subst z; exact nomatch h), fun _ _ _ _ _ z => (by subst z; exact nomatch h)⟩
def noSl : Expr → Bool
  | .Slice .. => false
  | _ => true
theorem noSl_ok {i : Expr} (h : noSl i = true) : PlainIx i ∧ NoSl i ∧ ∀ a b p, i ≠ .Slice a b none p := by
  cases i <;> first | exact ⟨fun _ _ => rfl, fun _ _ => rfl, fun _ _ _ z => nomatch z⟩ | exact nomatch h
def ixOf : List Str → Str → Option Nat
  | [], _ => none
  | z :: zs, y => if z = y then some 0 else (ixOf zs y).map (· + 1)
theorem ixOf_ok : ∀ {N : List Str} {y : Str} {j : Nat}, ixOf N y = some j → N[j]? = some y
  | [], _, _, h => nomatch h
  | z :: zs, y, j, h => by
    unfold ixOf at h
    split at h
    · rename_i e
      cases h
      rw [← e]; rfl
    · obtain ⟨k, hk, rfl⟩ := Option.map_eq_some_iff.mp h
      rw [List.getElem?_cons_succ]
      exact ixOf_ok hk
theorem lookup_mem {β : Type} : ∀ {l : List (Str × β)} {y : Str} {b : β}, l.lookup y = some b → (y, b) ∈ l
  | [], _, _, h => nomatch h
  | (z, c) :: l, y, b, h => by
    rw [List.lookup_cons] at h
    by_cases e : (y == z) = true
    · rw [e] at h
      cases h
      obtain rfl := eq_of_beq e
      exact List.mem_cons_self
    · rw [Bool.not_eq_true] at e
      rw [e] at h
      exact List.mem_cons_of_mem _ (lookup_mem h)
def visB (sc : Scope) (y : Str) : Bool := match sc.names.lookup y with
  | some .local => true
  | some .cell => true
  | some .free => true
  | _ => false
theorem visB_ok {sc : Scope} {y : Str} (h : visB sc y = true) : Vis sc y := by
  unfold visB at h
  split at h
  · rename_i e; exact .inl e
  · rename_i e; exact .inr (.inl e)
  · rename_i e; exact .inr (.inr e)
  · exact nomatch h
def notDbg (y : Str) : Bool := !(y == ("__debug__" : Str)) && !(y == ("__classdict__" : Str))
theorem notDbg_ok {y : Str} (h : notDbg y = true) : (y == ("__debug__" : Str)) = false ∧ (y == ("__classdict__" : Str)) = false := by
  unfold notDbg at h
  rw [Bool.and_eq_true, Bool.not_eq_true', Bool.not_eq_true'] at h
  exact h
/-- a visible name's slot -/
def vIx (S : Sta) : Expr → Option Nat
  | .Name y _ => if (visB S.sc y && notDbg y) = true then ixOf S.N y else none
  | _ => none
theorem vIx_ok {S : Sta} {e : Expr} {j : Nat} (h : vIx S e = some j) : ∃ y p, e = .Name y p ∧ S.N[j]? = some y ∧ Vis S.sc y ∧ (y == ("__debug__" : Str)) = false ∧ (y == ("__classdict__" : Str)) = false := by
  cases e with
  | Name y p =>
    have h : (if (visB S.sc y && notDbg y) = true then ixOf S.N y else none) = some j := h
    split at h
    · rename_i e
      rw [Bool.and_eq_true] at e
      exact ⟨y, p, rfl, ixOf_ok h, visB_ok e.1, notDbg_ok e.2⟩
    · exact nomatch h
  | _ => exact nomatch h
def glB (S : Sta) (y : Str) : Bool := decide (S.sc.names.lookup y = some .globalImplicit) && notDbg y
theorem glB_ok {S : Sta} {y : Str} (h : glB S y = true) : S.sc.names.lookup y = some .globalImplicit ∧ (y == ("__debug__" : Str)) = false := by
  unfold glB at h
  rw [Bool.and_eq_true] at h
  exact ⟨of_decide_eq_true h.1, (notDbg_ok h.2).1⟩
/-- a stored name's slot -/
def sIx (S : Sta) (y : Str) : Option Nat := if y ∈ S.sto then (match ixOf S.N y with | some j => if j ∈ S.io then none else some j | none => none) else none
theorem sIx_ok {S : Sta} {y : Str} {j : Nat} (h : sIx S y = some j) : S.N[j]? = some y ∧ y ∈ S.sto ∧ j ∉ S.io := by
  unfold sIx at h
  split at h
  · rename_i h1
    cases e : ixOf S.N y with
    | none => rw [e] at h; exact nomatch h
    | some k =>
      rw [e] at h
      dsimp only at h
      split at h
      · exact nomatch h
      · rename_i h2
        cases h
        exact ⟨ixOf_ok e, h1, h2⟩
  · exact nomatch h
/-! operations' names -/
def bopOf : Operator → Option Bop
  | .Add => some .add
  | .Sub => some .sub
  | .Mult => some .mul
  | .FloorDiv => some .fdiv
  | .Mod => some .mod
  | .Pow => some .pow
  | _ => none
theorem bopOf_ok {o : Operator} {b : Bop} (h : bopOf o = some b) : opc b = o := by
  cases o <;> first | (cases h; rfl) | exact nomatch h
def copOf : CmpOp → Option Cop
  | .Eq => some .eq
  | .NotEq => some .ne
  | .Lt => some .lt
  | .LtE => some .le
  | .Gt => some .gt
  | .GtE => some .ge
  | .In => some .inn
  | .NotIn => some .nin
  | _ => none
theorem copOf_ok {o : CmpOp} {b : Cop} (h : copOf o = some b) : cpc b = o := by
  cases o <;> first | (cases h; rfl) | exact nomatch h
def biL : List Bi := [.len, .int, .str, .abs, .max, .min, .all, .any, .sum]
def biOf (y : Str) : Option Bi := biL.find? fun b => decide (nmB b = y)
theorem biOf_ok {y : Str} {b : Bi} (h : biOf y = some b) : nmB b = y ∧ b ≠ .gcd := by
  unfold biOf at h
  have q := List.find?_some h
  refine ⟨of_decide_eq_true q, ?_⟩
  have := List.mem_of_find?_eq_some h
  rintro rfl
  revert this
  decide
def tyL : List Ty := [.int, .str, .bool, .tuple, .list]
def tyOf (y : Str) : Option Ty := tyL.find? fun b => decide (nmT b = y)
theorem tyOf_ok {y : Str} {b : Ty} (h : tyOf y = some b) : nmT b = y := by
  unfold tyOf at h
  have q := List.find?_some h
  exact of_decide_eq_true q
def mtL : List Mt := [.startswith, .partition]
def mtOf (y : Str) : Option Mt := mtL.find? fun b => decide (nmM b = y)
theorem mtOf_ok {y : Str} {b : Mt} (h : mtOf y = some b) : nmM b = y := by
  unfold mtOf at h
  have q := List.find?_some h
  exact of_decide_eq_true q
def call0 : Expr → Bool
  | .Call _ [] [] _ => true
  | _ => false
theorem call0_ok {e : Expr} {m : Str} {env : PySem.Env} {w : Sem Value} (h : call0 e = false) : attributeBase e m env w = w := by
  unfold attributeBase
  cases e with
  | Call f es ks p =>
    cases es with
    | cons _ _ => cases f <;> rfl
    | nil => cases ks with
      | cons _ _ => cases f <;> rfl
      | nil => exact nomatch h
  | _ => rfl
/-! expressions -/
section
variable (c : Sta → Expr → Ex) (S : Sta)
def cName (y : Str) (p : Pos) : Ex := match vIx S (.Name y p) with
  | some j => .var j
  | none => if glB S y = true then (match S.gt.lookup y with | some (.con d) => .con d | _ => exNev) else exNev
def cBool (op : BoolOp) : List Expr → Ex
  | [] => exNev
  | [a] => c S a
  | a :: b :: es => match op with
    | .And => .an (c S a) (cBool op (b :: es))
    | .Or => .orr (c S a) (cBool op (b :: es))
def cArgs (rf : Nat → Bool) : Nat → List Expr → Exs
  | _, [] => .nil
  | i, e :: es => match (if rf i = true then vIx S e else none) with
    | some j => .cons .ref (.var j) (cArgs rf (i + 1) es)
    | none => .cons .val (c S e) (cArgs rf (i + 1) es)
def cKw : List Keyword → Exs
  | [] => .nil
  | k :: ks => .cons .val (c S k.value) (cKw ks)
def cCmp (a : Expr) (op : CmpOp) (b : Expr) : Ex := match copOf op with
  | some o => if behindInMarks op b = false then .cmp o (c S a) (c S b) else exNev
  | none => match op, b with
    | .Is, .Constant .none _ _ => .isN false (c S a)
    | .IsNot, .Constant .none _ _ => .isN true (c S a)
    | _, _ => exNev
def cOe : Option Expr → Oe
  | none => .non
  | some e => .som (c S e)
def cSub (a i : Expr) : Ex := match i with
  | .Slice lo hi none _ => .sl (c S a) (cOe c S lo) (cOe c S hi)
  | .Slice _ _ _ _ => exNev
  | i => match vIx S a with
    | some j => .ix .ref (.var j) (c S i)
    | none => .ix .val (c S a) (c S i)
def cFn (f np : Nat) (io : List Nat) (kbs : List (Nat × List Str × List Nat)) (es : List Expr) (kws : List Keyword) : Ex := match kws with
  | [] => if es.length = np then .call f io (cArgs c S (fun i => decide (i ∈ io)) 0 es) .nil [] else exNev
  | _ => match kbs.find? (fun q => decide (q.1 = es.length) && decide (kws.map (·.arg) = q.2.1.map some)) with
    | some q => if es.length + q.2.2.length = np then .call f io (cArgs c S (fun i => decide (i ∈ io)) 0 es) (cKw c S kws) q.2.2 else exNev
    | none => exNev
def cIsi (a : Expr) (t : Ty) : Ex := match vIx S a with
  | some j => .isi .ref (.var j) t
  | none => .isi .val (c S a) t
def cBlt (y : Str) (es : List Expr) : Ex := match es with
  | [] => exNev
  | e :: es => match biOf y with
    | some b => if y ∈ S.bl then .bi b (cArgs c S (fun _ => true) 0 (e :: es)) else exNev
    | none => if y = ("isinstance" : Str) ∧ y ∈ S.bl then (match es with
        | [.Name t _] => match tyOf t with
          | some ty => if t ∈ S.bl ∧ glB S t = true then cIsi c S e ty else exNev
          | none => exNev
        | _ => exNev) else exNev
def cCall (y : Str) (es : List Expr) (kws : List Keyword) : Ex := if (glB S y && es.all nStar) = true then (match S.gt.lookup y with
    | some (.fn f np io _ kbs) => cFn c S f np io kbs es kws
    | some (.bi b) => (match es, kws with
      | e :: es, [] => .bi b (cArgs c S (fun _ => true) 0 (e :: es))
      | _, _ => exNev)
    | some (.con _) => exNev
    | none => (match kws with
      | [] => cBlt c S y es
      | _ => exNev)) else exNev
def cCl (f : Expr) (es : List Expr) (kws : List Keyword) (pos : Pos) : Ex := match f with
  | .Name y _ => cCall c S y es kws
  | .Attribute a m apos => match es, kws, mtOf m with
    | [e], [], some m => if (nStar e && !(call0 a) && (apos.endLine == pos.line)) = true then .mt m (c S a) (.cons .val (c S e) .nil) else exNev
    | _, _, _ => exNev
  | _ => exNev
def cFs : List Expr → Option Exs
  | [] => some .nil
  | .Constant (.str z) _ _ :: es => (cFs es).map (.cons .val (.con (.str z.cps.toList)))
  | .FormattedValue e (-1) none _ :: es => (cFs es).map (.cons .val (c S e))
  | _ :: _ => none
def cJoin (es : List Expr) : Ex := match es with
  | [.FormattedValue e (-1) none _] => .fs (.cons .val (c S e) .nil)
  | e1 :: e2 :: es => match cFs c S (e1 :: e2 :: es) with
    | some xs => .fs xs
    | none => exNev
  | _ => exNev
def kyOf : Option Expr → Option Ky
  | some (.Constant (.int i) _ _) => some (.int i)
  | some (.Constant (.str s) _ _) => some (.str s.cps.toList)
  | _ => none
def kysOf : List (Option Expr) → Option (List Ky)
  | [] => some []
  | e :: es => match kyOf e, kysOf es with
    | some k, some ks => some (k :: ks)
    | _, _ => none
def cVals : List Expr → Exs
  | [] => .nil
  | e :: es => .cons .val (c S e) (cVals es)
def cDict (kes : List (Option Expr)) (ves : List Expr) : Ex := match kysOf kes with
  | some ks => if kes.length = ves.length ∧ kes ≠ [] ∧ kes.length ≤ 15 ∧ ks.Nodup then .dct ks (cVals c S ves) else exNev
  | none => exNev
def cIt : Expr → Itx
  | .Call (.Name y p) [a] [] pos => if y = ("range" : Str) then (if y ∈ S.bl ∧ glB S y = true ∧ nStar a = true then .rng1 (c S a) else .ov exNev) else .ov (c S (.Call (.Name y p) [a] [] pos))
  | .Set es k p => .ov exNev
  | e => .ov (c S e)
def blkB (scope : Scope) (z : Str) : Bool := decide (scope.kind = .function) && scope.names.all (fun y => decide (scope.names.lookup y.1 = some y.2)) &&
  scope.names.all (fun y => decide (y.2 = .free → S.sc.names.lookup y.1 = some .cell ∨ S.sc.names.lookup y.1 = some .free)) &&
  scope.names.all (fun y => decide (y.2 = .local ∨ y.2 = .cell → y.1 = z ∨ y.1 ∉ S.N)) && decide (scope.names.lookup z = some .local ∨ scope.names.lookup z = some .cell)
def notSet : Expr → Bool
  | .Set .. => false
  | _ => true
def cLc (elt : Expr) (gs : List Comprehension) (scope : Scope) : Ex := match gs with
  | [⟨.Name z _, it, [], 0⟩] => match ixOf S.N z with
    | some j => if (blkB S scope z && notSet it) = true then .lc j (cIt c S it) (c (blkS S scope z) elt) else exNev
    | none => exNev
  | _ => exNev
def cStep : Expr → Ex
  | .Constant .none _ _ => .con .non
  | .Constant (.bool b) _ _ => .con (.bl b)
  | .Constant (.int i) _ _ => .con (.int i)
  | .Constant (.str s) _ _ => .con (.str s.cps.toList)
  | .Name y p => cName S y p
  | .BoolOp op vs _ => cBool c S op vs
  | .UnaryOp .USub a _ => .neg (c S a)
  | .UnaryOp .Not a _ => .nt (c S a)
  | .BinOp a op b _ => (match bopOf op with | some o => .bin o (c S a) (c S b) | none => exNev)
  | .Compare a [op] [b] _ => cCmp c S a op b
  | .IfExp t a b _ => .ite (c S t) (c S a) (c S b)
  | .Tuple es _ _ => if es.all nStar = true then .tup (cArgs c S (fun _ => false) 0 es) else exNev
  | .List es _ => if es.all nStar = true then .lst (cArgs c S (fun _ => false) 0 es) else exNev
  | .Dict ks vs _ => cDict c S ks vs
  | .Subscript a i _ => cSub c S a i
  | .Call f es kws pos => cCl c S f es kws pos
  | .JoinedStr es _ => cJoin c S es
  | .ListComp elt gs scope _ => cLc c S elt gs scope
  | _ => exNev
end
def cEx : Nat → Sta → Expr → Ex
  | 0, _, _ => exNev
  | n + 1, S, e => cStep (cEx n) S e
/-! statements -/
section
variable (c : Sta → Expr → Ex) (b : Sta → Stmt → St) (S : Sta)
def cBlk : List Stmt → Sts
  | [] => .nil
  | s :: ss => .cons (b S s) (cBlk ss)
def cNms : List Expr → Option (List Nat)
  | [] => some []
  | .Name y _ :: es => match sIx S y, cNms es with
    | some j, some js => some (j :: js)
    | _, _ => none
  | _ :: _ => none
def parB (y1 y2 : Str) (p1 p2 : Pos) (a b : Expr) : Bool := decide (S.sc.names.lookup y1 = some .local) && decide (S.sc.names.lookup y2 = some .local) && (p2.line == p1.line) && !(y1 == y2) && nStar a && nStar b &&
  !([a, b].all (foldedForSure 8)) && !([a, b].all (constantsAlone 8))
def notTup : Expr → Bool
  | .Tuple .. => false
  | _ => true
def cAsg (t e : Expr) : St := match t with
  | .Name y _ => match sIx S y with
    | some j => match e with
      | .ListComp elt gs scope _ => .set j (cLc c S elt gs scope)
      | e => if noComprB e = true then .set j (c S e) else .nev
    | none => .nev
  | .Subscript o i _ => match vIx S o with
    | some j => if (noComprB e && noSl i) = true then .setIx j (c S i) (c S e) else .nev
    | none => .nev
  | .Tuple ts _ _ => (match e with
    | .Tuple vs _ _ => (match ts, vs with
      | [.Name y1 p1, .Name y2 p2], [a, b] => (match sIx S y1, sIx S y2 with
        | some j1, some j2 => if parB S y1 y2 p1 p2 a b = true then .par j1 j2 (c S a) (c S b) else .nev
        | _, _ => .nev)
      | _, _ => .nev)
    | e => match cNms S ts with
      | some is => if noComprB e = true then .mset is (c S e) else .nev
      | none => .nev)
  | _ => .nev
def cAug (y : Str) (op : Operator) (e : Expr) : St := match sIx S y with
  | some j => match op with
    | .Add => .aug j .add (c S e)
    | .Sub => .aug j .sub (c S e)
    | _ => .nev
  | none => .nev
def cStm : Stmt → St
  | .Expr (.Constant (.str _) _ _) _ => .pas
  | .Expr e _ => if noComprB e = true then .ex (c S e) else .nev
  | .Pass _ => .pas
  | .Break _ => .brk
  | .Continue _ => .cnt
  | .Return none _ => .retN
  | .Return (some e) _ => (match vIx S e with
    | some j => if j ∈ S.io then .ret .val (c S e) else .ret .ref (.var j)
    | none => .ret .val (c S e))
  | .Assign [t] e _ => cAsg c S t e
  | .AugAssign (.Name y _) op e _ => cAug c S y op e
  | .If t a b' _ => .ite (c S t) (cBlk b S a) (cBlk b S b')
  | .While t a [] _ => .whl (c S t) (cBlk b S a)
  | .For (.Name y _) it a [] _ => (match sIx S y with
    | some j => if notSet it = true then .for1 j (cIt c S it) (cBlk b S a) else .nev
    | none => .nev)
  | _ => .nev
end
/-- an expression's depth at most -/
def dE : Nat := 40
def cSt : Nat → Sta → Stmt → St
  | 0, _, _ => .nev
  | n + 1, S, s => cStm (cEx dE) (cSt n) S s
end Ev

/-! Ev14: what the translation's reading promises, the program keeps. -/
namespace Ev
open PySem PySem.Spec PyProof.Rows L2
/-- whatever one reads of it is kept -/
structure Tot (c : Sta → Expr → Ex) : Prop where
  e : ∀ {T : Tb} {S : Sta} {cf : CF} {X : Cx} {W : WX}, Lk T S cf X W → ∀ e, SndE T cf X W e (c S e)
  t : ∀ {T : Tb} {S : Sta} {cf : CF} {X : Cx} {W : WX}, Lk T S cf X W → ∀ e, SndT T cf X W e (c S e)
section
variable {T : Tb} {S : Sta} {cf : CF} {X : Cx} {W : WX} {L : List (Nat × V)} {a b e i tg : Expr} {es : List Expr} {pos : Pos} {c : Sta → Expr → Ex}
theorem snd_nev : SndE T cf X W e exNev := fun σ H ρ R Q hf c hP => False.elim hP
theorem sndT_nev : SndT T cf X W e exNev := fun σ H ρ R Q hf c hP => False.elim hP
theorem sndW_nev : SndW T cf X W e exNev := fun σ H ρ R Q hf c hP => False.elim hP
def isOf : Ex → Bool
  | .nt _ => false
  | .an _ _ => false
  | .orr _ _ => false
  | .ite _ _ _ => false
  | _ => true
theorem evP_of {x : Ex} (h : isOf x = true) : ∃ f, evP cf x = .of f := by
  cases x with
  | ix m a i => cases m <;> exact ⟨_, rfl⟩
  | isi m a i => cases m <;> exact ⟨_, rfl⟩
  | _ => first | exact ⟨_, rfl⟩ | (cases h; done)
def plainT : Expr → Bool
  | .UnaryOp .Not _ _ => false
  | .BoolOp .. => false
  | .IfExp .. => false
  | .Compare .. => false
  | _ => true
theorem isTrue_plain (h : plainT e = true) : ∀ whole, isTrue e X.env whole = (do let v ← whole; standAt e.pos; holding [v] (truthy v)) := by
  intro w
  cases e with
  | UnaryOp op a p => cases op <;> first | rfl | (cases h; done)
  | _ => first | rfl | (cases h; done)
theorem t_of {x : Ex} (h1 : isOf x = true) (h2 : plainT e = true) (h : SndE T cf X W e x) : SndT T cf X W e x := by
  obtain ⟨f, hf⟩ := evP_of (cf := cf) h1
  exact sndT_of hf (isTrue_plain h2) h
/-! the forms -/
theorem k_name (lk : Lk T S cf X W) {y : Str} {p : Pos} : SndE T cf X W (.Name y p) (cName S y p) ∧ isOf (cName S y p) = true := by
  unfold cName
  split
  · rename_i j h
    obtain ⟨y', p', e, h1, h2, h3, h4⟩ := vIx_ok h
    cases e
    exact ⟨snd_var lk h1 h2 h3 h4, rfl⟩
  · split
    · rename_i hg
      obtain ⟨g1, g2⟩ := glB_ok hg
      split
      · rename_i d hd
        obtain ⟨q1, u, q2, q3⟩ := lk.con _ _ (lookup_mem hd)
        exact ⟨snd_con q1 (pe_glob (gl_of lk g1) q2 q3 g2) fun _ _ _ q => q, rfl⟩
      · exact ⟨snd_nev, rfl⟩
    · exact ⟨snd_nev, rfl⟩
theorem k_bool (hc : Tot c) (lk : Lk T S cf X W) {op : BoolOp} : ∀ {vs : List Expr}, SndE T cf X W (.BoolOp op vs pos) (cBool c S op vs) ∧ SndW T cf X W (.BoolOp op vs pos) (cBool c S op vs)
  | [] => ⟨snd_nev, sndW_nev⟩
  | [a] => ⟨snd_one (hc.e lk a), sndW_one (hc.t lk a)⟩
  | a :: b :: es => by
    obtain ⟨h1, h2⟩ := k_bool hc lk (op := op) (vs := b :: es)
    cases op with
    | And => exact ⟨snd_an (hc.e lk a) h1, sndW_an (hc.t lk a) h2⟩
    | Or => exact ⟨snd_or (hc.e lk a) h1, sndW_or (hc.t lk a) h2⟩
theorem k_args (hc : Tot c) (lk : Lk T S cf X W) {rf : Nat → Bool} : ∀ {i : Nat} {es : List Expr}, es.all nStar = true → SndA T cf X W es (cArgs c S rf i es) ∧ ∀ ρ as ρ1, evA cf (cArgs c S rf i es) ρ = .ok as ρ1 → as.length = es.length
  | i, [], _ => ⟨sndA_nil, fun ρ as ρ1 h => by cases h; rfl⟩
  | i, e :: es, h => by
    rw [List.all_cons, Bool.and_eq_true] at h
    obtain ⟨h1, h2⟩ := k_args hc lk (rf := rf) (i := i + 1) h.2
    unfold cArgs
    split
    · rename_i j hj
      split at hj
      · obtain ⟨y, p, rfl, g1, g2, g3, g4⟩ := vIx_ok hj
        refine ⟨sndA_ref lk g1 g2 g3 g4 h1, fun ρ as ρ1 q => ?_⟩
        have q : (if (look ρ j).isSome = true then (evA cf (cArgs c S rf (i + 1) es) ρ).bind fun as ρ1 => .ok (.r j :: as) ρ1 else .err) = Out.ok as ρ1 := q
        split at q
        · cases q2 : evA cf (cArgs c S rf (i + 1) es) ρ with
          | ok as' ρ' =>
            rw [q2] at q
            cases q
            rw [List.length_cons, List.length_cons, h2 _ _ _ q2]
          | exc _ _ _ => rw [q2] at q; exact nomatch q
          | err => rw [q2] at q; exact nomatch q
        · exact nomatch q
      · exact nomatch hj
    · refine ⟨sndA_val (nStar_ok h.1) (hc.e lk e) h1, fun ρ as ρ1 q => ?_⟩
      have q : ((evE cf (c S e) ρ).bind fun d ρ1 => (evA cf (cArgs c S rf (i + 1) es) ρ1).bind fun as ρ2 => .ok (.v d :: as) ρ2) = Out.ok as ρ1 := q
      cases q1 : evE cf (c S e) ρ with
      | ok d ρ2 =>
        rw [q1, Out.bind_ok] at q
        cases q2 : evA cf (cArgs c S rf (i + 1) es) ρ2 with
        | ok as' ρ' =>
          rw [q2] at q
          cases q
          rw [List.length_cons, List.length_cons, h2 _ _ _ q2]
        | exc _ _ _ => rw [q2] at q; exact nomatch q
        | err => rw [q2] at q; exact nomatch q
      | exc _ _ _ => rw [q1] at q; exact nomatch q
      | err => rw [q1] at q; exact nomatch q
theorem k_kw (hc : Tot c) (lk : Lk T S cf X W) : ∀ {ks : List Keyword}, SndK T cf X W ks (cKw c S ks)
  | [] => sndK_nil
  | ⟨_, _, _⟩ :: ks => sndK_cons (hc.e lk _) (k_kw hc lk)
theorem k_cmp (hc : Tot c) (lk : Lk T S cf X W) {op : CmpOp} : SndE T cf X W (.Compare a [op] [b] pos) (cCmp c S a op b) ∧ SndT T cf X W (.Compare a [op] [b] pos) (cCmp c S a op b) := by
  unfold cCmp
  split
  · rename_i o ho
    obtain rfl := copOf_ok ho
    split
    · rename_i hm
      exact ⟨snd_cmp (hc.e lk a) (hc.e lk b) hm, sndT_cmp (hc.e lk a) (hc.e lk b) hm⟩
    · exact ⟨snd_nev, sndT_nev⟩
  · split
    · exact ⟨snd_isN (n := false) (hc.e lk a), sndT_isN (n := false) (hc.e lk a)⟩
    · exact ⟨snd_isN (n := true) (hc.e lk a), sndT_isN (n := true) (hc.e lk a)⟩
    · exact ⟨snd_nev, sndT_nev⟩
theorem k_oe (hc : Tot c) (lk : Lk T S cf X W) : ∀ {o : Option Expr}, SndO T cf X W o (cOe c S o)
  | none => sndO_non
  | some e => sndO_som (hc.e lk e)
theorem k_subE (hc : Tot c) (lk : Lk T S cf X W) (hi : noSl i = true) : SndE T cf X W (.Subscript a i pos) (match vIx S a with
    | some j => .ix .ref (.var j) (c S i)
    | none => .ix .val (c S a) (c S i)) ∧ isOf (match vIx S a with
    | some j => .ix .ref (.var j) (c S i)
    | none => .ix .val (c S a) (c S i)) = true := by
  obtain ⟨p1, p2, _⟩ := noSl_ok hi
  split
  · rename_i j h
    obtain ⟨y', p', rfl, h1, h2, h3, h4⟩ := vIx_ok h
    exact ⟨snd_ixR lk h1 h2 h3 h4 (hc.e lk i) p1 p2, rfl⟩
  · exact ⟨snd_ixV lk (hc.e lk a) (hc.e lk i) p1 p2, rfl⟩
theorem k_sub (hc : Tot c) (lk : Lk T S cf X W) : SndE T cf X W (.Subscript a i pos) (cSub c S a i) ∧ isOf (cSub c S a i) = true := by
  cases i with
  | Slice lo hi st p => cases st with
    | none => exact ⟨snd_sl (hc.e lk a) (k_oe hc lk) (k_oe hc lk), rfl⟩
    | some _ => exact ⟨snd_nev, rfl⟩
  | _ => exact k_subE hc lk rfl
theorem all_mem (h : es.all nStar = true) : ∀ z ∈ es, NoStar z := fun z hz => nStar_ok (List.all_eq_true.mp h z hz)
theorem cArgs_nil {rf : Nat → Bool} {i : Nat} : cArgs c S rf i es = .nil → es = [] := by
  intro h
  cases es with
  | nil => rfl
  | cons e es => unfold cArgs at h; split at h <;> exact nomatch h
theorem k_fn (hc : Tot c) (lk : Lk T S cf X W) {f np : Nat} {io : List Nat} {ps : List Str} {kbs : List (Nat × List Str × List Nat)} {y : Str} {p' : Pos} {kws : List Keyword} (hg : S.sc.names.lookup y = some .globalImplicit) (hb : (y, Gb.fn f np io ps kbs) ∈ S.gt) (hdb : (y == ("__debug__" : Str)) = false) (hs : es.all nStar = true) :
    SndE T cf X W (.Call (.Name y p') es kws pos) (cFn c S f np io kbs es kws) ∧ isOf (cFn c S f np io kbs es kws) = true := by
  obtain ⟨h1, h2⟩ := k_args hc lk (rf := fun i => decide (i ∈ io)) (i := 0) hs
  unfold cFn
  split
  · split
    · rename_i hn
      refine ⟨?_, rfl⟩
      cases es with
      | nil =>
        have hn : 0 = np := hn
        subst hn
        exact snd_call0 lk hg hb hdb
      | cons e es => exact snd_call lk hg hb hdb (all_mem hs) h1 hn h2
    · exact ⟨snd_nev, rfl⟩
  · split
    · rename_i q hq
      split
      · rename_i hn
        have q1 := List.find?_some hq
        rw [Bool.and_eq_true] at q1
        obtain ⟨n, ks, ix⟩ := q
        exact ⟨snd_callK lk hg hb (List.mem_of_find?_eq_some hq) hdb (all_mem hs) h1 (k_kw hc lk) (of_decide_eq_true q1.2) hn h2 cArgs_nil (fun e => by subst e; rfl), rfl⟩
      · exact ⟨snd_nev, rfl⟩
    · exact ⟨snd_nev, rfl⟩
theorem k_isi (hc : Tot c) (lk : Lk T S cf X W) {ty : Ty} {t y : Str} {p1 p2 : Pos} (hy : y = ("isinstance" : Str)) (hg : S.sc.names.lookup y = some .globalImplicit) (hb : y ∈ S.bl) (ht : tyOf t = some ty) (tb : t ∈ S.bl) (tg : S.sc.names.lookup t = some .globalImplicit) (hs : nStar a = true) :
    SndE T cf X W (.Call (.Name y p1) [a, .Name t p2] [] pos) (cIsi c S a ty) ∧ isOf (cIsi c S a ty) = true := by
  subst hy
  obtain rfl := tyOf_ok ht
  unfold cIsi
  split
  · rename_i j h
    obtain ⟨y', p', rfl, h1, h2, h3, h4⟩ := vIx_ok h
    exact ⟨snd_isiR lk hg hb tg tb h1 h2 h3 h4, rfl⟩
  · exact ⟨snd_isiV lk hg hb tg tb (nStar_ok hs) (hc.e lk a), rfl⟩
theorem k_blt (hc : Tot c) (lk : Lk T S cf X W) {y : Str} {p' : Pos} (hg : S.sc.names.lookup y = some .globalImplicit) (hdb : (y == ("__debug__" : Str)) = false) (hs : es.all nStar = true) :
    SndE T cf X W (.Call (.Name y p') es [] pos) (cBlt c S y es) ∧ isOf (cBlt c S y es) = true := by
  cases es with
  | nil => exact ⟨snd_nev, rfl⟩
  | cons e es =>
    unfold cBlt
    dsimp only
    split
    · rename_i bb h
      obtain ⟨rfl, h2⟩ := biOf_ok h
      split
      · rename_i hb
        exact ⟨snd_bi lk h2 hg hb (all_mem hs) (k_args hc lk hs).1, rfl⟩
      · exact ⟨snd_nev, rfl⟩
    · split
      · rename_i hy
        split
        · rename_i t p2
          split
          · rename_i ty hty
            split
            · rename_i hb
              rw [List.all_cons, Bool.and_eq_true] at hs
              exact k_isi hc lk hy.1 hg hy.2 hty hb.1 (glB_ok hb.2).1 hs.1
            · exact ⟨snd_nev, rfl⟩
          · exact ⟨snd_nev, rfl⟩
        · exact ⟨snd_nev, rfl⟩
      · exact ⟨snd_nev, rfl⟩
theorem k_call (hc : Tot c) (lk : Lk T S cf X W) {y : Str} {p' : Pos} {kws : List Keyword} : SndE T cf X W (.Call (.Name y p') es kws pos) (cCall c S y es kws) ∧ isOf (cCall c S y es kws) = true := by
  unfold cCall
  split
  · rename_i h
    rw [Bool.and_eq_true] at h
    obtain ⟨hg, hdb⟩ := glB_ok h.1
    split
    · rename_i hb
      exact k_fn hc lk hg (lookup_mem hb) hdb h.2
    · rename_i hb
      split
      · exact ⟨snd_big lk hg (lookup_mem hb) hdb (all_mem h.2) (k_args hc lk h.2).1, rfl⟩
      · exact ⟨snd_nev, rfl⟩
    · exact ⟨snd_nev, rfl⟩
    · split
      · exact k_blt hc lk hg hdb h.2
      · exact ⟨snd_nev, rfl⟩
  · exact ⟨snd_nev, rfl⟩
theorem k_cl (hc : Tot c) (lk : Lk T S cf X W) {f : Expr} {kws : List Keyword} : SndE T cf X W (.Call f es kws pos) (cCl c S f es kws pos) ∧ isOf (cCl c S f es kws pos) = true := by
  cases f with
  | Name y p => exact k_call hc lk
  | Attribute a m apos =>
    unfold cCl
    dsimp only
    split
    · rename_i hm
      split
      · rename_i h
        rw [Bool.and_eq_true, Bool.and_eq_true, Bool.not_eq_true'] at h
        obtain rfl := mtOf_ok hm
        exact ⟨snd_mt (hc.e lk a) (hc.e lk _) (nStar_ok h.1.1) (call0_ok h.1.2) h.2, rfl⟩
      · exact ⟨snd_nev, rfl⟩
    · exact ⟨snd_nev, rfl⟩
  | _ => exact ⟨snd_nev, rfl⟩
theorem mkS_list (z : Str) : mkS z.cps.toList = z := rfl
theorem k_fs (hc : Tot c) (lk : Lk T S cf X W) : ∀ {es : List Expr} {xs : Exs}, cFs c S es = some xs → FsL T cf X W es xs := by
  intro es
  induction es with
  | nil => intro xs h; cases h; exact .nil
  | cons e es ih =>
    intro xs h
    unfold cFs at h
    split at h
    · exact nomatch ‹_ :: _ = []›
    · rename_i heq
      cases heq
      obtain ⟨ys, h1, rfl⟩ := Option.map_eq_some_iff.mp h
      exact .str rfl (ih h1)
    · rename_i heq
      cases heq
      obtain ⟨ys, h1, rfl⟩ := Option.map_eq_some_iff.mp h
      exact .fmt (hc.e lk _) (ih h1)
    · exact nomatch h
theorem k_join (hc : Tot c) (lk : Lk T S cf X W) : SndE T cf X W (.JoinedStr es pos) (cJoin c S es) ∧ isOf (cJoin c S es) = true := by
  unfold cJoin
  split
  · exact ⟨snd_fs1 (hc.e lk _), rfl⟩
  · split
    · rename_i h
      exact ⟨snd_fs (k_fs hc lk h), rfl⟩
    · exact ⟨snd_nev, rfl⟩
  · exact ⟨snd_nev, rfl⟩
theorem k_kys : ∀ {kes : List (Option Expr)} {ks : List Ky}, kysOf kes = some ks → KyL (X := X) ks kes ∧ kes.all (·.isSome) = true ∧ ks.length = kes.length
  | [], ks, h => by cases h; exact ⟨.nil, rfl, rfl⟩
  | e :: kes, ks, h => by
    unfold kysOf at h
    split at h
    · rename_i k ks' h1 h2
      cases h
      obtain ⟨g1, g2, g3⟩ := k_kys h2
      unfold kyOf at h1
      split at h1
      · cases h1
        exact ⟨.cons pe_int g1, by rw [List.all_cons, g2]; rfl, congrArg (· + 1) g3⟩
      · cases h1
        exact ⟨.cons pe_str g1, by rw [List.all_cons, g2]; rfl, congrArg (· + 1) g3⟩
      · exact nomatch h1
    · exact nomatch h
theorem k_vals (hc : Tot c) (lk : Lk T S cf X W) : ∀ {es : List Expr}, SndL T cf X W es (cVals c S es)
  | [] => .nil
  | e :: es => .cons (hc.e lk e) (k_vals hc lk)
theorem k_dict (hc : Tot c) (lk : Lk T S cf X W) {kes : List (Option Expr)} {ves : List Expr} : SndE T cf X W (.Dict kes ves pos) (cDict c S kes ves) ∧ isOf (cDict c S kes ves) = true := by
  unfold cDict
  split
  · rename_i ks h
    obtain ⟨h1, h2, h3⟩ := k_kys (X := X) h
    split
    · rename_i q
      exact ⟨snd_dct h1 (k_vals hc lk) (by omega) h2 q.1 q.2.1 q.2.2.1 q.2.2.2, rfl⟩
    · exact ⟨snd_nev, rfl⟩
  · exact ⟨snd_nev, rfl⟩
theorem sndI_nev : SndI T cf X W tg e (.ov exNev) := fun σ H ρ R Q hf c hP => False.elim hP
theorem k_it (hc : Tot c) (lk : Lk T S cf X W) : SndI T cf X W tg e (cIt c S e) := by
  unfold cIt
  split
  · split
    · rename_i hy
      split
      · rename_i h
        subst hy
        exact sndI_rng1 lk (glB_ok h.2.1).1 h.1 (nStar_ok h.2.2) (hc.e lk _)
      · exact sndI_nev
    · exact sndI_ov (hc.e lk _)
  · exact sndI_nev
  · exact sndI_ov (hc.e lk _)
theorem blkB_ok {scope : Scope} {z : Str} {j : Nat} (h : blkB S scope z = true) (hj : ixOf S.N z = some j) : BlkOk S.N S.sc scope [(z, j)] ∧ (scope.names.lookup z = some .local ∨ scope.names.lookup z = some .cell) := by
  unfold blkB at h
  rw [Bool.and_eq_true, Bool.and_eq_true, Bool.and_eq_true, Bool.and_eq_true] at h
  obtain ⟨⟨⟨⟨h1, h2⟩, h3⟩, h4⟩, h5⟩ := h
  refine ⟨⟨of_decide_eq_true h1, fun y hy => of_decide_eq_true (List.all_eq_true.mp h2 y hy), fun p hp => ?_, fun y hy => of_decide_eq_true (List.all_eq_true.mp h3 y hy), fun y hy q => ?_⟩, of_decide_eq_true h5⟩
  · obtain rfl := List.mem_singleton.mp hp
    exact ixOf_ok hj
  · have := of_decide_eq_true (List.all_eq_true.mp h4 y hy) q
    rcases this with r | r
    · exact .inl (List.mem_singleton.mpr r)
    · exact .inr r
theorem notSet_ok {it : Expr} {env : PySem.Env} (h : notSet it = true) : ∀ v, foldedSetIterable it env v = pure v := by
  intro v
  cases it <;> first | rfl | (cases h; done)
theorem k_lc (hc : Tot c) (lk : Lk T S cf X W) {gs : List Comprehension} {scope : Scope} : SndE T cf X W (.ListComp e gs scope pos) (cLc c S e gs scope) ∧ isOf (cLc c S e gs scope) = true := by
  unfold cLc
  split
  · split
    · rename_i j hj
      split
      · rename_i h
        rw [Bool.and_eq_true] at h
        obtain ⟨h1, h2⟩ := blkB_ok h.1 hj
        exact ⟨snd_lc lk (k_it hc lk) (fun s H0 C cl fp => hc.e (lk_blk lk h1.kind h2) _) h1 h2 (notSet_ok h.2), rfl⟩
      · exact ⟨snd_nev, rfl⟩
    · exact ⟨snd_nev, rfl⟩
  · exact ⟨snd_nev, rfl⟩
theorem k_lcS (hc : Tot c) (lk : Lk T S cf X W) {gs : List Comprehension} {scope : Scope} {jt : Nat} {y : Str} {p' pc : Pos} (hj : S.N[jt]? = some y) (hs : y ∈ S.sto) (hl : ∀ p ∈ L, p.1 ≠ jt) : SndS T cf X W L (.Assign [.Name y p'] (.ListComp e gs scope pc) pos) (.set jt (cLc c S e gs scope)) := by
  have nev : SndS T cf X W L (.Assign [.Name y p'] (.ListComp e gs scope pc) pos) (.set jt exNev) := fun σ H ρ R Q _ hf c hP => False.elim hP
  unfold cLc
  split
  · split
    · rename_i j hj2
      split
      · rename_i h
        rw [Bool.and_eq_true] at h
        obtain ⟨h1, h2⟩ := blkB_ok h.1 hj2
        exact sndS_setLc lk hj hs hl (k_it hc lk) (fun s H0 C cl fp => hc.e (lk_blk lk h1.kind h2) _) h1 h2 (notSet_ok h.2)
      · exact nev
    · exact nev
  · exact nev
theorem tot_step (hc : Tot c) : Tot fun S e => cStep c S e where
  e := fun {T S cf X W} lk e => by
    cases e with
    | Constant k n p => cases k with
      | none => exact snd_con rfl pe_non fun _ _ _ q => q
      | bool b => exact snd_con rfl pe_bl fun _ _ _ q => q
      | int i => exact snd_con rfl pe_int fun _ _ _ q => q
      | str s => exact snd_con (d := .str s.cps.toList) rfl pe_str fun _ _ _ q => q
      | _ => exact snd_nev
    | Name y p => exact (k_name lk).1
    | BoolOp op vs p => exact (k_bool hc lk).1
    | UnaryOp op a p => cases op with
      | USub => exact snd_neg (hc.e lk a)
      | Not => exact snd_nt (hc.e lk a)
      | _ => exact snd_nev
    | BinOp a op b p =>
      show SndE T cf X W _ (match bopOf op with | some o => .bin o (c S a) (c S b) | none => exNev)
      split
      · rename_i o ho
        obtain rfl := bopOf_ok ho
        exact snd_bin (hc.e lk a) (hc.e lk b)
      · exact snd_nev
    | Compare a ops bs p => match ops, bs with
      | [op], [b] => exact (k_cmp hc lk).1
      | [], _ => exact snd_nev
      | [_], [] => exact snd_nev
      | [_], _ :: _ :: _ => exact snd_nev
      | _ :: _ :: _, _ => exact snd_nev
    | IfExp t a b p => exact snd_ite (hc.t lk t) (hc.e lk a) (hc.e lk b)
    | Tuple es k p =>
      show SndE T cf X W _ (if es.all nStar = true then .tup (cArgs c S (fun _ => false) 0 es) else exNev)
      split
      · rename_i h; exact snd_tup (k_args hc lk h).1
      · exact snd_nev
    | List es p =>
      show SndE T cf X W _ (if es.all nStar = true then .lst (cArgs c S (fun _ => false) 0 es) else exNev)
      split
      · rename_i h; exact snd_lst (k_args hc lk h).1
      · exact snd_nev
    | Dict ks vs p => exact (k_dict hc lk).1
    | Subscript a i p => exact (k_sub hc lk).1
    | Call f es kws p => exact (k_cl hc lk).1
    | JoinedStr es p => exact (k_join hc lk).1
    | ListComp elt gs sc p => exact (k_lc hc lk).1
    | _ => exact snd_nev
  t := fun {T S cf X W} lk e => by
    cases e with
    | Constant k n p => cases k with
      | none => exact t_of rfl rfl (snd_con rfl pe_non fun _ _ _ q => q)
      | bool b => exact t_of rfl rfl (snd_con rfl pe_bl fun _ _ _ q => q)
      | int i => exact t_of rfl rfl (snd_con rfl pe_int fun _ _ _ q => q)
      | str s => exact t_of rfl rfl (snd_con (d := .str s.cps.toList) rfl pe_str fun _ _ _ q => q)
      | _ => exact sndT_nev
    | Name y p => exact t_of (k_name lk).2 rfl (k_name lk).1
    | BoolOp op vs p => exact (k_bool hc lk).2.t
    | UnaryOp op a p => cases op with
      | USub => exact t_of rfl rfl (snd_neg (hc.e lk a))
      | Not => exact sndT_nt (hc.t lk a)
      | _ => exact sndT_nev
    | BinOp a op b p =>
      show SndT T cf X W _ (match bopOf op with | some o => .bin o (c S a) (c S b) | none => exNev)
      split
      · rename_i o ho
        obtain rfl := bopOf_ok ho
        exact t_of rfl rfl (snd_bin (hc.e lk a) (hc.e lk b))
      · exact sndT_nev
    | Compare a ops bs p => match ops, bs with
      | [op], [b] => exact (k_cmp hc lk).2
      | [], _ => exact sndT_nev
      | [_], [] => exact sndT_nev
      | [_], _ :: _ :: _ => exact sndT_nev
      | _ :: _ :: _, _ => exact sndT_nev
    | IfExp t a b p => exact fun σ H ρ R Q hf c hP => False.elim hP
    | Tuple es k p =>
      show SndT T cf X W _ (if es.all nStar = true then .tup (cArgs c S (fun _ => false) 0 es) else exNev)
      split
      · rename_i h; exact t_of rfl rfl (snd_tup (k_args hc lk h).1)
      · exact sndT_nev
    | List es p =>
      show SndT T cf X W _ (if es.all nStar = true then .lst (cArgs c S (fun _ => false) 0 es) else exNev)
      split
      · rename_i h; exact t_of rfl rfl (snd_lst (k_args hc lk h).1)
      · exact sndT_nev
    | Dict ks vs p => exact t_of (k_dict (pos := p) hc lk).2 rfl (k_dict hc lk).1
    | Subscript a i p => exact t_of (k_sub (pos := p) hc lk).2 rfl (k_sub hc lk).1
    | Call f es kws p => exact t_of (k_cl (pos := p) hc lk).2 rfl (k_cl hc lk).1
    | JoinedStr es p => exact t_of (k_join (pos := p) hc lk).2 rfl (k_join hc lk).1
    | ListComp elt gs sc p => exact t_of (k_lc (pos := p) hc lk).2 rfl (k_lc hc lk).1
    | _ => exact sndT_nev
theorem tot_ex : ∀ n, Tot (cEx n)
  | 0 => ⟨fun _ _ => snd_nev, fun _ _ => sndT_nev⟩
  | n + 1 => tot_step (tot_ex n)
/-! statements -/
structure TotS (b : Sta → Stmt → St) : Prop where
  s : ∀ {T : Tb} {S : Sta} {cf : CF} {X : Cx} {W : WX} {L : List (Nat × V)}, Lk T S cf X W → (∀ p ∈ L, p.1 ∈ S.io) → ∀ st, SndS T cf X W L st (b S st)
variable {bb : Sta → Stmt → St}
theorem k_blk (hb : TotS bb) (lk : Lk T S cf X W) (hL : ∀ p ∈ L, p.1 ∈ S.io) : ∀ {ss : List Stmt}, SndSs T cf X W L ss (cBlk bb S ss)
  | [] => sndSs_nil
  | s :: ss => sndSs_cons (hb.s lk hL s) (k_blk hb lk hL)
theorem lock_ne (hL : ∀ p ∈ L, p.1 ∈ S.io) {j : Nat} (h : j ∉ S.io) : ∀ p ∈ L, p.1 ≠ j := fun p hp e => h (e ▸ hL p hp)
theorem k_nms (hL : ∀ p ∈ L, p.1 ∈ S.io) : ∀ {es : List Expr} {is : List Nat}, cNms S es = some is → NmL S L es is
  | [], is, h => by cases h; exact .nil
  | e :: es, is, h => by
    cases e with
    | Name y p =>
      have h : (match sIx S y, cNms S es with
        | some j, some js => some (j :: js)
        | _, _ => none) = some is := h
      split at h
      · rename_i j js h1 h2
        cases h
        obtain ⟨g1, g2, g3⟩ := sIx_ok h1
        exact .cons g1 g2 (lock_ne hL g3) (k_nms hL h2)
      · exact nomatch h
    | _ => exact nomatch h
theorem sw_none {ts : List Expr} {k : Nat} {p : Pos} {env : PySem.Env} (h : notTup e = true) : swappedStores [.Tuple ts k p] e env = pure none := by
  unfold swappedStores
  cases e <;> first | rfl | (cases h; done)
def env_k (env : PySem.Env) (y : Str) (p : Pos) (l : Nat) : Option Str := if (env.kindOf y == some .local && p.line == l) = true then some y else none
theorem sw_par {y1 y2 : Str} {p1 p2 pt pt2 : Pos} {kt k2 : Nat} (lk : Lk T S cf X W) (h : parB S y1 y2 p1 p2 a b = true) : swappedStores [.Tuple [.Name y1 p1, .Name y2 p2] kt pt] (.Tuple [a, b] k2 pt2) X.env = pure (some [y1, y2]) := by
  unfold parB at h
  rw [Bool.and_eq_true, Bool.and_eq_true, Bool.and_eq_true, Bool.and_eq_true, Bool.and_eq_true, Bool.and_eq_true, Bool.and_eq_true] at h
  obtain ⟨⟨⟨⟨⟨⟨⟨h1, h2⟩, h3⟩, h4⟩, h5⟩, h6⟩, h7⟩, h8⟩ := h
  have h1 := of_decide_eq_true h1
  have h2 := of_decide_eq_true h2
  rw [Bool.not_eq_true'] at h4 h7 h8
  have kd : X.env.blockKind = .function := by
    unfold Env.blockKind
    rw [lk.sc, lk.kd]
    rfl
  have e1 : X.env.kindOf y1 = some .local := by unfold PySem.Env.kindOf; rw [lk.sc]; exact h1
  have e2 : X.env.kindOf y2 = some .local := by unfold PySem.Env.kindOf; rw [lk.sc]; exact h2
  have ns : ([a, b].any fun | .Starred .. => true | _ => false) = false := by
    rw [List.any_cons, List.any_cons]
    cases a <;> first | (cases h5; done) | (cases b <;> first | rfl | (cases h6; done))
  have l2 : (p2.line == p1.line) = true := h3
  have q1 : (env_k X.env y1 p1 p1.line) = some y1 := by unfold env_k; rw [e1]; simp
  have q2 : (env_k X.env y2 p2 p1.line) = some y2 := by unfold env_k; rw [e2, l2]; simp
  have nd : [y1, y2].eraseDups = [y1, y2] := by
    rw [beq_eq_false_iff_ne] at h4
    simp [List.eraseDups_cons, Ne.symm h4]
  have fm : ∀ g : Expr → Option Str, g (.Name y1 p1) = some y1 → g (.Name y2 p2) = some y2 → [Expr.Name y1 p1, Expr.Name y2 p2].filterMap g = [y1, y2] := fun g g1 g2 => by
    simp [List.filterMap_cons, g1, g2]
  unfold swappedStores
  show (if (!(([Expr.Name y1 p1, Expr.Name y2 p2].length == 2 || [Expr.Name y1 p1, Expr.Name y2 p2].length == 3)) || [a, b].length != [Expr.Name y1 p1, Expr.Name y2 p2].length || X.env.blockKind != .function) = true then pure none else _) = _
  rw [kd, if_neg (by simp)]
  show (if ([a, b].any fun | .Starred .. => true | _ => false) = true then pure none else _) = _
  rw [ns, if_neg (by simp)]
  show (if (_ || _) = true then pure none else _) = _
  rw [fm]
  · rw [nd, if_neg (by simp)]
    show (if [a, b].all (foldedForSure 8) = true then pure none else _) = _
    rw [h7, if_neg (by simp)]
    show (if [a, b].all (constantsAlone 8) = true then _ else _) = _
    rw [h8, if_neg (by simp)]
  · exact q1
  · exact q2
theorem k_asg (hc : Tot c) (lk : Lk T S cf X W) (hL : ∀ p ∈ L, p.1 ∈ S.io) {t : Expr} : SndS T cf X W L (.Assign [t] e pos) (cAsg c S t e) := by
  unfold cAsg
  split
  · split
    · rename_i j hj
      obtain ⟨g1, g2, g3⟩ := sIx_ok hj
      split
      · exact k_lcS hc lk g1 g2 (lock_ne hL g3)
      · split
        · rename_i h
          exact sndS_set lk g1 g2 (lock_ne hL g3) (noComprB_ok h) (hc.e lk _)
        · exact sndS_nev
    · exact sndS_nev
  · split
    · rename_i j hj
      obtain ⟨y', p', rfl, h1, h2, h3, h4⟩ := vIx_ok hj
      split
      · rename_i h
        rw [Bool.and_eq_true] at h
        exact sndS_setIx lk h1 h2 h3 h4 (noComprB_ok h.1) (noSl_ok h.2).2.2 (hc.e lk _) (hc.e lk _)
      · exact sndS_nev
    · exact sndS_nev
  · split
    · split
      · split
        · rename_i j1 j2 q1 q2
          split
          · rename_i h
            obtain ⟨g1, g2, g3⟩ := sIx_ok q1
            obtain ⟨k1, k2, k3⟩ := sIx_ok q2
            have hw := fun {pt pt2 : Pos} {kt kk : Nat} => sw_par (pt := pt) (pt2 := pt2) (kt := kt) (k2 := kk) lk h
            unfold parB at h
            rw [Bool.and_eq_true, Bool.and_eq_true, Bool.and_eq_true, Bool.and_eq_true, Bool.and_eq_true, Bool.and_eq_true, Bool.and_eq_true] at h
            obtain ⟨⟨⟨⟨⟨⟨⟨h1, h2⟩, h3⟩, h4⟩, h5⟩, h6⟩, h7⟩, h8⟩ := h
            refine sndS_par lk g1 k1 ?_ (of_decide_eq_true h1) (of_decide_eq_true h2) (lock_ne hL g3) (lock_ne hL k3) (nStar_ok h5) (nStar_ok h6) (hc.e lk _) (hc.e lk _) hw
            rintro rfl
            rw [g1] at k1
            cases k1
            rw [Bool.not_eq_true'] at h4
            exact absurd (beq_self_eq_true _) (by rw [h4]; decide)
          · exact sndS_nev
        · exact sndS_nev
      · exact sndS_nev
    · split
      · rename_i hne _ is his
        split
        · rename_i h
          refine sndS_mset lk (k_nms hL his) (noComprB_ok h) (sw_none ?_) (hc.e lk _)
          cases e <;> first | rfl | exact absurd rfl (hne _ _ _)
        · exact sndS_nev
      · exact sndS_nev
  · exact sndS_nev
theorem k_aug (hc : Tot c) (lk : Lk T S cf X W) (hL : ∀ p ∈ L, p.1 ∈ S.io) {y : Str} {p' : Pos} {op : Operator} : SndS T cf X W L (.AugAssign (.Name y p') op e pos) (cAug c S y op e) := by
  unfold cAug
  split
  · rename_i j hj
    obtain ⟨g1, g2, g3⟩ := sIx_ok hj
    cases op with
    | Add => exact sndS_aug (.inl rfl) lk g1 g2 (lock_ne hL g3) (hc.e lk _)
    | Sub => exact sndS_aug (.inr rfl) lk g1 g2 (lock_ne hL g3) (hc.e lk _)
    | _ => exact sndS_nev
  · exact sndS_nev
theorem sndS_doc {x : Str} {k : Nat} {p : Pos} : SndS T cf X W L (.Expr (.Constant (.str x) k p) pos) .pas := fun σ H ρ R Dn hL hf c hP => ⟨_, ps_doc, hP σ H hL hf c⟩
theorem k_ex (hc : Tot c) (lk : Lk T S cf X W) : SndS T cf X W L (.Expr e pos) (if noComprB e = true then .ex (c S e) else .nev) := by
  split
  · rename_i h
    exact sndS_ex (noComprB_ok h) (hc.e lk _)
  · exact sndS_nev
theorem k_ret (hc : Tot c) (lk : Lk T S cf X W) : SndS T cf X W L (.Return (some e) pos) (match vIx S e with
    | some j => if j ∈ S.io then .ret .val (c S e) else .ret .ref (.var j)
    | none => .ret .val (c S e)) := by
  split
  · rename_i j hj
    obtain ⟨y', p', rfl, h1, h2, h3, h4⟩ := vIx_ok hj
    split
    · exact sndS_ret (hc.e lk _)
    · exact sndS_retR lk h1 h2 h3 h4
  · exact sndS_ret (hc.e lk _)
theorem tot_stm (hc : Tot c) (hb : TotS bb) : TotS fun S s => cStm c bb S s := ⟨fun {T S cf X W L} lk hL st => by
  cases st with
  | Expr e p => cases e with
    | Constant k n p2 => cases k with
      | str s => exact sndS_doc
      | _ => exact k_ex hc lk
    | _ => exact k_ex hc lk
  | Pass p => exact sndS_pas
  | Break p => exact sndS_brk
  | Continue p => exact sndS_cnt
  | Return v p => cases v with
    | none => exact sndS_retN
    | some e => exact k_ret hc lk
  | Assign ts e p => match ts with
    | [t] => exact k_asg hc lk hL
    | [] => exact sndS_nev
    | _ :: _ :: _ => exact sndS_nev
  | AugAssign t op e p => cases t with
    | Name y p2 => exact k_aug hc lk hL
    | _ => exact sndS_nev
  | If t x y p => exact sndS_if (hc.t lk t) (k_blk hb lk hL) (k_blk hb lk hL)
  | While t x y p => cases y with
    | nil => exact sndS_whl lk (hc.t lk t) (k_blk hb lk hL)
    | cons _ _ => exact sndS_nev
  | For t it x y p => cases t with
    | Name z p2 => cases y with
      | nil =>
        show SndS T cf X W L _ (match sIx S z with
          | some j => if notSet it = true then .for1 j (cIt c S it) (cBlk bb S x) else .nev
          | none => .nev)
        split
        · rename_i j hj
          obtain ⟨g1, g2, g3⟩ := sIx_ok hj
          split
          · rename_i h
            exact sndS_for lk g1 g2 (lock_ne hL g3) (k_it hc lk) (notSet_ok h) (k_blk hb lk hL)
          · exact sndS_nev
        · exact sndS_nev
      | cons _ _ => exact sndS_nev
    | _ => exact sndS_nev
  | _ => exact sndS_nev⟩
theorem tot_st : ∀ n, TotS (cSt n)
  | 0 => ⟨fun _ _ _ => sndS_nev⟩
  | n + 1 => tot_stm (tot_ex dE) (tot_st n)
end
end Ev

/-! Ev15: the program's defs keep what the reading says. -/
namespace Ev
open PySem PySem.Spec PyProof.Rows L2
/-- a def of the program -/
structure Df where
  nm : Str
  st : Stmt
  N : List Str
  np : Nat
  io : List Nat
  sto : List Str
  kbs : List (Nat × List Str × List Nat)
/-- the program: its defs, its other global names, builtins' names -/
structure Pg where
  ds : List Df
  ex : List (Str × Gb)
  bl : List Str
def Df.ps (d : Df) : List Str := d.N.take d.np
def gtF : Nat → List Df → List (Str × Gb)
  | _, [] => []
  | i, d :: ds => (d.nm, .fn i d.np d.io d.ps d.kbs) :: gtF (i + 1) ds
def Pg.gt (G : Pg) : List (Str × Gb) := gtF 0 G.ds ++ G.ex
def Pg.S (G : Pg) (d : Df) : Sta := { N := d.N, sc := defScope d.st, sto := d.sto, io := d.io, gt := G.gt, bl := G.bl }
/-- statements' depth at most -/
def dS : Nat := 20
def Pg.bd (G : Pg) (d : Df) : Sts := cBlk (cSt dS) (G.S d) (defBody d.st)
/-- the reading: the function's index to its reading -/
def Rd (G : Pg) (Φ : Nat → Option Fn) : Prop := ∀ i d, G.ds[i]? = some d → Φ i = some ⟨d.np, d.io, d.N.length, G.bd d⟩
structure Df.Ok (d : Df) : Prop where
  sc : FnScope d.N d.ps (defScope d.st)
  np : d.np ≤ d.N.length
  fx : ∀ x ∈ d.sto, Loc (defScope d.st) x
  io : ∀ i ∈ d.io, i < d.np
  nd : d.io.Nodup
theorem gt_fn {x : Str} {f np : Nat} {io : List Nat} {ps : List Str} {kbs : List (Nat × List Str × List Nat)} : ∀ {ds : List Df} {i : Nat}, (x, Gb.fn f np io ps kbs) ∈ gtF i ds → ∃ d, i ≤ f ∧ ds[f - i]? = some d ∧ x = d.nm ∧ np = d.np ∧ io = d.io ∧ ps = d.ps ∧ kbs = d.kbs
  | [], _, h => nomatch h
  | d :: ds, i, h => by
    unfold gtF at h
    rcases List.mem_cons.mp h with h | h
    · cases h
      exact ⟨d, Nat.le_refl _, by rw [Nat.sub_self]; rfl, rfl, rfl, rfl, rfl, rfl⟩
    · obtain ⟨e, h1, h2, h3⟩ := gt_fn h
      refine ⟨e, by omega, ?_, h3⟩
      rw [show f - i = (f - (i + 1)) + 1 by omega]
      exact h2
theorem gt_con {x : Str} {d : D} : ∀ {ds : List Df} {i : Nat}, (x, Gb.con d) ∉ gtF i ds
  | [], _, h => nomatch h
  | d :: ds, i, h => by
    unfold gtF at h
    rcases List.mem_cons.mp h with h | h
    · exact nomatch h
    · exact gt_con h
theorem gt_bi {x : Str} {d : Bi} : ∀ {ds : List Df} {i : Nat}, (x, Gb.bi d) ∉ gtF i ds
  | [], _, h => nomatch h
  | d :: ds, i, h => by
    unfold gtF at h
    rcases List.mem_cons.mp h with h | h
    · exact nomatch h
    · exact gt_bi h
/-- the program's names as the top has left them -/
structure Pg.At (G : Pg) (K : PySem.W.Frag) (mg : Str → Option Value) : Prop where
  fn : ∀ d ∈ G.ds, ∃ a fd, mg d.nm = some (.ref a) ∧ Fun K d.nm d.nm d.st a fd ∧ Binds K fd d.ps [] ∧ ∀ q ∈ d.kbs, KBinds K fd d.ps q.2.1 (kwG .none q.2.2) (kwG .non q.2.2)
  exf : ∀ x f np io ps kbs, (x, Gb.fn f np io ps kbs) ∉ G.ex
  con : ∀ x d, (x, Gb.con d) ∈ G.ex → Sca d = true ∧ ∃ u, mg x = some u ∧ RelV (scaV d) u
  bi : ∀ x b, (x, Gb.bi b) ∈ G.ex → ∃ id, biV b = .builtin id ∧ mg x = some (.builtin id)
  bl : ∀ x ∈ G.bl, mg x = none
/-- how keywords bind -/
theorem vals_map {vs : List V} {us : List Value} (h : Vals vs us) (ix : List Nat) : Vals (ix.map fun i => vs.getD i .non) (ix.map fun i => us.getD i .none) := by
  induction ix with
  | nil => exact .nil
  | cons i ix ih =>
    refine .cons ?_ ih
    clear ih
    show L2.RelV (vs.getD i .non) (us.getD i .none)
    induction h generalizing i with
    | nil => rfl
    | cons r rr ih2 => cases i with
      | zero => exact r
      | succ i => exact ih2 i
theorem vals_app {vs vs' : List V} {us us' : List Value} (h : Vals vs us) (h' : Vals vs' us') : Vals (vs ++ vs') (us ++ us') := by
  induction h with
  | nil => exact h'
  | cons r _ ih => exact .cons r ih
theorem fun_kb {K : PySem.W.Frag} {x qual : Str} {st : Stmt} {f : Addr} {fd : FuncData} {ps ks : List Str} {ix : List Nat} (F : Fun K x qual st f fd) (h0 : 0 < ps.length)
    (h : ∀ (kV doc pm : Value) (an : Option Addr) (cdv ct : Value) (us ws : List Value), ws.length = ix.length → us.length + ix.length = ps.length → bindArgs (PySem.W.fnOf x qual (defArgs st) (defBody st) (defScope st) .none kV doc pm an cdv ct) ⟨us, ks.zip ws⟩ = pure (ps.zip (us ++ ix.map fun i => ws.getD i .none))) :
    KBinds K fd ps ks (kwG .none ix) (kwG .non ix) := by
  obtain ⟨oc, od, kV, doc, pm, an, cdv, ct, osl, rfl, lk, hcd⟩ := F.ex
  refine ⟨fun s us ws _ hl => ?_, fun {vs us zs ws} r1 r2 => ?_⟩
  · by_cases hw : ws.length = ix.length
    · have e : kwG .none ix us ws = us ++ ix.map fun i => ws.getD i .none := if_pos hw
      rw [e] at hl ⊢
      exact .of_eq (h kV doc pm an cdv ct us ws hw (by rw [← hl, List.length_append, List.length_map]))
    · have e : kwG .none ix us ws = [] := if_neg hw
      rw [e] at hl
      have hl : 0 = ps.length := hl
      omega
  · by_cases hw : ws.length = ix.length
    · have e : kwG .none ix us ws = us ++ ix.map fun i => ws.getD i .none := if_pos hw
      have e2 : kwG .non ix vs zs = vs ++ ix.map fun i => zs.getD i .non := if_pos (by rw [← hw, r2.length])
      rw [e, e2]
      exact vals_app r1 (vals_map r2 ix)
    · have e : kwG .none ix us ws = [] := if_neg hw
      have e2 : kwG .non ix vs zs = [] := if_neg (by rw [r2.length]; exact hw)
      rw [e, e2]
      exact .nil
section
variable {T : Tb} {K : PySem.W.Frag} {H : Hp} {R : List Root}
theorem start_ok (m : Nat) : ∀ (vs : List V) (ds : List D), vs.length = ds.length → Fits (vs.map some ++ List.replicate m none) (ds.map some ++ List.replicate m none) ∧ roots (vs.map some ++ List.replicate m none) (ds.map some ++ List.replicate m none) = zipR vs ds
  | [], [], _ => by
    induction m with
    | zero => exact ⟨trivial, rfl⟩
    | succ m ih => exact ⟨⟨fun h => absurd h (by decide), ih.1⟩, ih.2⟩
  | v :: vs, d :: ds, h => by
    obtain ⟨h1, h2⟩ := start_ok m vs ds (by simpa using h)
    refine ⟨⟨fun _ => rfl, h1⟩, ?_⟩
    exact congrArg ((v, d) :: ·) h2
theorem outs_ok {f : Nat → V} {σ : L2.St} : ∀ {io : List Nat} {ρ : Env} {ps : List D} {A : List Root}, outs io ρ = some ps → io.Nodup → (∀ i ∈ io, σ[i]? = some (some (f i))) → Fits σ ρ → Conf T K H (A ++ (roots σ ρ ++ R)) → Conf T K H (A ++ (zipR (io.map f) ps ++ R))
  | [], ρ, ps, A, h, _, _, hf, c => by
    have h : some [] = some ps := h
    cases h
    exact (c.perm (List.Perm.append_left A (List.perm_append_comm (l₁ := roots σ ρ)))).perm (by
      refine (List.Perm.refl _)) |> fun c => Conf.keepL (A := A ++ R) (B := roots σ ρ) (by rw [List.append_assoc]; exact c)
  | i :: io, ρ, ps, A, h, hn, hl, hf, c => by
    unfold outs at h
    rw [List.mapM_cons] at h
    cases hd : look ρ i with
    | none => rw [hd] at h; exact nomatch h
    | some d =>
      rw [hd] at h
      cases hp : outs io ρ with
      | none =>
        unfold outs at hp
        rw [hp] at h
        exact nomatch h
      | some qs =>
        have hp0 := hp
        unfold outs at hp
        rw [hp] at h
        cases h
        obtain ⟨v, g1, g2, g3⟩ := roots_take hf hd
        have e := hl i List.mem_cons_self
        rw [g1] at e
        cases e
        obtain ⟨n1, n2⟩ := List.nodup_cons.mp hn
        have hq : outs io (ρ.set i none) = some qs := by
          rw [← hp0]
          clear hp hp0 hl hn n2 g3
          induction io with
          | nil => rfl
          | cons j io ih =>
            have hj : j ≠ i := fun e => n1 (by rw [e]; exact List.mem_cons_self)
            unfold outs at ih ⊢
            rw [List.mapM_cons, List.mapM_cons, ih fun q => n1 (List.mem_cons_of_mem _ q)]
            have : look (ρ.set i none) j = look ρ j := by
              unfold look
              rw [List.getElem?_set_ne (Ne.symm hj)]
            rw [this]
        have c2 : Conf T K H ((A ++ [(f i, d)]) ++ (roots σ (ρ.set i none) ++ R)) := c.perm (by
          rw [List.append_assoc]
          exact List.Perm.append_left A (g2.append_right R))
        have c3 := outs_ok hq n2 (fun j hj => hl j (List.mem_cons_of_mem _ hj)) g3 c2
        rw [List.append_assoc] at c3
        exact c3
end
section
variable {P : Program} {w : World} {K : PySem.W.Frag} {mg : Str → Option Value} {base : Heap} {T : Tb} {G : Pg} {Φ : Nat → Option Fn}
theorem fn_ok (hG : ∀ d ∈ G.ds, d.Ok) (hA : G.At K mg) (hΦ : Rd G Φ) : ∀ (k i : Nat) (d : Df) (a : Addr) (fd : FuncData), G.ds[i]? = some d → Fun K d.nm d.nm d.st a fd → FnOk P w K mg base (L2.CX P w) k a fd d.ps (spOf T K (call Φ k) i d.np d.io)
  | 0, i, d, a, fd, hd, F => by
    have no : ∀ vs H Q E, ¬ spOf T K (call Φ 0) i d.np d.io vs H Q E := fun vs H Q E h => by
      obtain ⟨_, _, _, _, _, z⟩ := h
      exact z
    exact ⟨fun vs H Q E h => absurd h (no _ _ _ _), fun A outer s H args us vs Q E _ _ _ _ h => absurd h (no _ _ _ _)⟩
  | k + 1, i, d, a, fd, hd, F => by
    have ok := hG d (List.mem_of_getElem? hd)
    have hpl : d.ps.length = d.np := by unfold Df.ps; rw [List.length_take]; have := ok.np; omega
    refine F.okX ok.sc (fun vs H Q E h => by rw [hpl]; exact h.1) fun cdv A outer s H vs Q E hr h => ?_
    obtain ⟨hn, ds, R, hl, c, hq⟩ := h
    have lk : Lk T (G.S d) (call Φ k) (cxOf (L2.CX P w) P w K mg base d.N d.nm (defScope d.st) a cdv A outer s H E) (fun cls dx _ H => E cls dx H) := {
      hN := rfl
      nd := ok.sc.nd
      sc := rfl
      fx := fun x hx => ⟨ok.fx x hx, .inl rfl⟩
      calm := rfl
      tk := takes_of rfl rfl rfl rfl
      hp := passes_of rfl
      kd := ok.sc.kind
      un := hu_of hr
      bl := hA.bl
      con := fun x e hx => by
        rcases List.mem_append.mp hx with h | h
        · exact absurd h gt_con
        · exact hA.con x e h
      bi := fun x e hx => by
        rcases List.mem_append.mp hx with h | h
        · exact absurd h gt_bi
        · exact hA.bi x e h
      fn := fun x f np io ps kbs hx => by
        rcases List.mem_append.mp hx with h | h
        · obtain ⟨e, _, he, rfl, rfl, rfl, rfl, rfl⟩ := gt_fn h
          rw [Nat.sub_zero] at he
          obtain ⟨b, fe, m1, m2, m3, m4⟩ := hA.fn e (List.mem_of_getElem? he)
          exact ⟨b, fe, k, m1, m2.kp, hr, fn_ok hG hA hΦ k f e b fe he m2, m3, m4⟩
        · exact absurd h (hA.exf _ _ _ _ _ _) }
    -- the locked slots
    obtain ⟨g, hg⟩ : ∃ g : Nat → V, g = fun i => vs.getD i .non := ⟨_, rfl⟩
    have hLi : ∀ p ∈ d.io.map fun i => (i, g i), p.1 ∈ (G.S d).io := fun p hp => by
      obtain ⟨j, hj, rfl⟩ := List.mem_map.mp hp
      exact hj
    have hm : d.N.length - vs.length = d.N.length - d.np := by rw [hn]
    obtain ⟨s1, s2⟩ := start_ok (d.N.length - d.np) vs ds hl
    have hL : LkS (d.io.map fun i => (i, g i)) (L2.start d.N vs) := fun p hp => by
      obtain ⟨j, hj, rfl⟩ := List.mem_map.mp hp
      have hj2 : j < vs.length := by have := ok.io j hj; omega
      unfold L2.start
      rw [List.getElem?_append_left (by simpa using hj2), List.getElem?_map, List.getElem?_eq_getElem hj2, hg]
      show some (some vs[j]) = some (some (vs.getD j .non))
      rw [List.getD_eq_getElem?_getD, List.getElem?_eq_getElem hj2]
      rfl
    have lock : ∀ {σ : L2.St}, LkS (d.io.map fun i => (i, g i)) σ → ∀ i ∈ d.io, σ[i]? = some (some (g i)) := fun {σ} h i hi => h (i, g i) (List.mem_map.mpr ⟨i, hi, rfl⟩)
    have snd := k_blk (tot_st dS) lk hLi (ss := defBody d.st) (L2.start d.N vs) H (ds.map some ++ List.replicate (d.N.length - d.np) none) R { nx := fun _ H' => Q .non H', rt := Q } hL (by unfold L2.start; rw [hm]; exact s1) (by unfold L2.start; rw [hm, s2]; exact c)
    refine snd ?_
    -- the promise
    have e1 : call Φ (k + 1) i ds = runF (call Φ k) ⟨d.np, d.io, d.N.length, G.bd d⟩ ds := by
      show (match Φ i with | some fn => runF (call Φ k) fn ds | none => .err) = _
      rw [hΦ i d hd]
    rw [e1] at hq
    unfold runF at hq
    rw [if_pos (show ds.length = d.np by omega)] at hq
    dsimp only at hq
    show PostS T K _ _ R _ (evSs (call Φ k) (G.bd d) _)
    cases hev : evSs (call Φ k) (G.bd d) (ds.map some ++ List.replicate (d.N.length - d.np) none) with
    | err => rw [hev] at hq; exact hq
    | exc cl dd ρ1 =>
      rw [hev] at hq
      dsimp only at hq
      cases ho : outs d.io ρ1 with
      | none => rw [ho] at hq; exact hq.elim
      | some ps =>
        rw [ho] at hq
        intro σ hσ v H' dx hf hdx c2
        refine hq v H' dx hdx ?_
        have := outs_ok (A := [(v, dd)]) ho ok.nd (lock hσ) hf c2
        rw [hg] at this
        exact this
    | ok f ρ1 =>
      rw [hev] at hq
      cases f with
      | nx =>
        dsimp only at hq
        cases ho : outs d.io ρ1 with
        | none => rw [ho] at hq; exact hq.elim
        | some ps =>
          rw [ho] at hq
          intro σ H' hσ hf c2
          refine hq .non H' ?_
          have := outs_ok (A := []) ho ok.nd (lock hσ) hf c2
          rw [hg] at this
          exact Conf.sca (d := .non) this rfl
      | ret dd =>
        dsimp only at hq
        cases ho : outs d.io ρ1 with
        | none => rw [ho] at hq; exact hq.elim
        | some ps =>
          rw [ho] at hq
          intro v σ H' hσ hf c2
          refine hq v H' ?_
          have := outs_ok (A := [(v, dd)]) ho ok.nd (lock hσ) hf c2
          rw [hg] at this
          exact this
      | brk => exact hq.elim
      | ct => exact hq.elim
theorem ints_rp : ∀ ns : List Int, RpL T K H (ns.map .int) (ns.map V.int) (fun _ => 0) (fun _ => False)
  | [] => by unfold RpL; rfl
  | n :: ns => by
    show RpL T K H (.int n :: ns.map .int) (.int n :: ns.map V.int) _ _
    unfold RpL
    exact ⟨_, _, fun _ => 0, fun _ => 0, rfl, (by unfold Rp; rfl), ints_rp ns, fun _ => Nat.le_refl _⟩
theorem cx_none {H : Hp} {s s' : Shared} {e : Value} (h : L2.CX P w [] H s (fun _ _ _ => False) e s') : False := by
  obtain ⟨_, _, _, _, _, _, _, _, _, _, _, _, z⟩ := h
  exact z
/-- the law's promise: the script is as it was written -/
theorem law_sp {i k n : Nat} (h : ∀ ns : List Int, ns.length ≤ n → ∃ ps, call Φ k i [.scr (ns.map .int)] = .ok (.bl true) ps) (H : Hp) (a : Addr) (ns : List Int) (hn : ns.length ≤ n) (hO : Only H) (hS : SqL K H a (ns.map V.int)) :
    spOf T K (call Φ k) i 1 [] [.ref a] H (fun v _ => v = .bl true) fun _ _ _ => False := by
  obtain ⟨ps, hc⟩ := h ns hn
  refine ⟨rfl, [.scr (ns.map .int)], [], rfl, ?_, ?_⟩
  · have hr : Rp T K H (.scr (ns.map .int)) (.ref a) (fun _ => 0) (fun _ => False) := by
      unfold Rp
      refine ⟨a, ns.map V.int, rfl, ?_, ints_rp ns⟩
      rcases hS with (h | ⟨o, h⟩) | h
      · rcases hO a with h2 | ⟨o, xs, h2⟩
        · rw [h2] at h; exact nomatch h
        · rw [h2] at h; exact nomatch h
      · exact .inr ⟨o, h⟩
      · exact .inl h
    exact ⟨fun _ => 0, fun _ => False, ⟨fun _ => 0, fun _ => 0, hr, trivial, fun _ => Nat.le_refl _⟩, fun _ => ⟨Nat.zero_le _, fun h => absurd h (Nat.lt_irrefl _)⟩⟩
  · rw [hc]
    intro v H' c
    exact Conf.sca_eq c rfl
end
end Ev

/-! Ev16: data, readings told apart; a reading in print; a program's tables held. -/
namespace Ev
open PySem PySem.Spec PyProof.Rows L2
/-! in print -/
def spS (s : List Nat) : String := "[" ++ String.intercalate ", " (s.map toString) ++ "]"
def spI (i : Int) : String := if i < 0 then s!"({i})" else toString i
def spK : Ky → String
  | .int i => ".int " ++ spI i
  | .str s => ".str " ++ spS s
mutual
def spD : D → String
  | .non => ".non"
  | .bl b => s!"(.bl {b})"
  | .int i => s!"(.int {spI i})"
  | .str s => s!"(.str {spS s})"
  | .tup ds => s!"(.tup [{spDL ds}])"
  | .lst o ds => s!"(.lst {o} [{spDL ds}])"
  | .dct o ks ds => s!"(.dct {o} [{String.intercalate ", " (ks.map spK)}] [{spDL ds}])"
  | .ins o c ns ds => s!"(.ins {o} {c} {spS ns} [{spDL ds}])"
  | .scr ds => s!"(.scr [{spDL ds}])"
def spDL : List D → String
  | [] => ""
  | [d] => spD d
  | d :: ds => spD d ++ ", " ++ spDL ds
end
def spBop : Bop → String
  | .add => ".add" | .sub => ".sub" | .mul => ".mul" | .fdiv => ".fdiv" | .mod => ".mod" | .pow => ".pow"
def spCop : Cop → String
  | .eq => ".eq" | .ne => ".ne" | .lt => ".lt" | .le => ".le" | .gt => ".gt" | .ge => ".ge" | .inn => ".inn" | .nin => ".nin"
def spBi : Bi → String
  | .len => ".len" | .int => ".int" | .str => ".str" | .abs => ".abs" | .max => ".max" | .min => ".min" | .gcd => ".gcd" | .all => ".all" | .any => ".any" | .sum => ".sum"
def spTy : Ty → String
  | .int => ".int" | .str => ".str" | .bool => ".bool" | .tuple => ".tuple" | .list => ".list"
def spMt : Mt → String
  | .startswith => ".startswith" | .partition => ".partition"
def spAm : Am → String
  | .val => ".val" | .ref => ".ref"
mutual
def spEx : Ex → String
  | .con d => s!"(.con {spD d})"
  | .var i => s!"(.var {i})"
  | .tup es => s!"(.tup {spXs es})"
  | .lst es => s!"(.lst {spXs es})"
  | .dct ks es => s!"(.dct [{String.intercalate ", " (ks.map spK)}] {spXs es})"
  | .bin op a b => s!"(.bin {spBop op} {spEx a} {spEx b})"
  | .neg a => s!"(.neg {spEx a})"
  | .cmp op a b => s!"(.cmp {spCop op} {spEx a} {spEx b})"
  | .isN n a => s!"(.isN {n} {spEx a})"
  | .nt a => s!"(.nt {spEx a})"
  | .an a b => s!"(.an {spEx a} {spEx b})"
  | .orr a b => s!"(.orr {spEx a} {spEx b})"
  | .ite c a b => s!"(.ite {spEx c} {spEx a} {spEx b})"
  | .ix m a i => s!"(.ix {spAm m} {spEx a} {spEx i})"
  | .sl a lo hi => s!"(.sl {spEx a} {spOe lo} {spOe hi})"
  | .call f io es ks ix => s!"(.call {f} {spS io} {spXs es} {spXs ks} {spS ix})"
  | .bi b es => s!"(.bi {spBi b} {spXs es})"
  | .isi .ref (.con .non) .int => "exNev"
  | .isi m a t => s!"(.isi {spAm m} {spEx a} {spTy t})"
  | .mt m o es => s!"(.mt {spMt m} {spEx o} {spXs es})"
  | .fs es => s!"(.fs {spXs es})"
  | .lc j it e => s!"(.lc {j} {spIt it} {spEx e})"
def spXs : Exs → String
  | .nil => ".nil"
  | .cons m e es => s!"(.cons {spAm m} {spEx e} {spXs es})"
def spOe : Oe → String
  | .non => ".non"
  | .som e => s!"(.som {spEx e})"
def spIt : Itx → String
  | .rng1 a => s!"(.rng1 {spEx a})"
  | .ov e => s!"(.ov {spEx e})"
end
mutual
def spSt : St → String
  | .ex e => s!"(.ex {spEx e})"
  | .set i e => s!"(.set {i} {spEx e})"
  | .mset is e => s!"(.mset {spS is} {spEx e})"
  | .par i j a b => s!"(.par {i} {j} {spEx a} {spEx b})"
  | .aug i op e => s!"(.aug {i} {spBop op} {spEx e})"
  | .setIx j i e => s!"(.setIx {j} {spEx i} {spEx e})"
  | .ret m e => s!"(.ret {spAm m} {spEx e})"
  | .retN => ".retN"
  | .ite c a b => s!"(.ite {spEx c} {spSs a} {spSs b})"
  | .whl c b => s!"(.whl {spEx c} {spSs b})"
  | .for1 j it b => s!"(.for1 {j} {spIt it} {spSs b})"
  | .brk => ".brk"
  | .cnt => ".cnt"
  | .pas => ".pas"
  | .nev => ".nev"
def spSs : Sts → String
  | .nil => ".nil"
  | .cons s r => s!"(.cons {spSt s} {spSs r})"
end
/-! a program's tables -/
def Pg.fn (G : Pg) (d : Df) : Fn := ⟨d.np, d.io, d.N.length, G.bd d⟩
theorem rd_of {G : Pg} {fns : List Fn} (h : G.ds.map G.fn = fns) : Rd G fun i => fns[i]? := fun i d hd => by
  rw [← h]
  show (G.ds.map G.fn)[i]? = _
  rw [List.getElem?_map, hd]
  rfl
def Df.okB (d : Df) : Bool := decide ((defScope d.st).kind = .function) && !(defScope d.st).isCoroutine && !(defScope d.st).isGenerator && decide d.N.Nodup && decide (d.N.take d.ps.length = d.ps) &&
  d.ps.all (fun x => decide ((defScope d.st).names.lookup x = some .local ∨ (defScope d.st).names.lookup x = some .cell)) && (defScope d.st).names.all (fun y => decide (y.2 ≠ .free)) && decide (d.np ≤ d.N.length) &&
  d.sto.all (fun x => decide ((defScope d.st).names.lookup x = some .local ∨ (defScope d.st).names.lookup x = some .cell)) && d.io.all (fun i => decide (i < d.np)) && decide d.io.Nodup
theorem Df.ok_of {d : Df} (h : d.okB = true) : d.Ok := by
  unfold Df.okB at h
  rw [Bool.and_eq_true, Bool.and_eq_true, Bool.and_eq_true, Bool.and_eq_true, Bool.and_eq_true, Bool.and_eq_true, Bool.and_eq_true, Bool.and_eq_true, Bool.and_eq_true, Bool.and_eq_true] at h
  obtain ⟨⟨⟨⟨⟨⟨⟨⟨⟨⟨h1, h2⟩, h3⟩, h4⟩, h5⟩, h6⟩, h7⟩, h8⟩, h9⟩, h10⟩, h11⟩ := h
  rw [Bool.not_eq_true'] at h2 h3
  exact ⟨⟨of_decide_eq_true h1, h2, h3, of_decide_eq_true h4, of_decide_eq_true h5, fun x hx => of_decide_eq_true (List.all_eq_true.mp h6 x hx), fun y hy => of_decide_eq_true (List.all_eq_true.mp h7 y hy)⟩, of_decide_eq_true h8, fun x hx => (by have q := List.all_eq_true.mp h9 x hx; have q := of_decide_eq_true q; exact q), fun i hi => of_decide_eq_true (List.all_eq_true.mp h10 i hi), of_decide_eq_true h11⟩
end Ev

/-! Ev17: the reading, step by step; what is still to be done is a word of the first order. -/
namespace Ev.Z
open Ev L2
section
variable (cf : CF)
def kTru (x : D) (ρ : Env) : Out Bool := ofO (truF x) ρ
def kBin2 (op : Bop) (x y : D) (ρ : Env) : Out D := ofO (binF op x y) ρ
def kBin (op : Bop) (b : Ex) (x : D) (ρ : Env) : Out D := (evE cf b ρ).bind (kBin2 op x)
def kCmp2 (op : Cop) (x y : D) (ρ : Env) : Out D := ofO ((cmpF op x y).map .bl) ρ
def kCmp (op : Cop) (b : Ex) (x : D) (ρ : Env) : Out D := (evE cf b ρ).bind (kCmp2 op x)
def kNeg (x : D) (ρ : Env) : Out D := match x with
  | .int i => .ok (.int (-i)) ρ
  | _ => .err
def kIsN (n : Bool) (x : D) (ρ : Env) : Out D := .ok (.bl (isNonF n x)) ρ
def kNt (x : D) (ρ : Env) : Out D := match x with
  | .bl b => .ok (.bl (!b)) ρ
  | _ => .err
def kNtT (t : Bool) (ρ : Env) : Out Bool := .ok (!t) ρ
def kAn (b : Ex) (x : D) (ρ : Env) : Out D := match x with
  | .bl true => evE cf b ρ
  | .bl false => .ok (.bl false) ρ
  | _ => .err
def kAnT (b : Ex) (t : Bool) (ρ : Env) : Out Bool := if t = true then evT cf b ρ else .ok false ρ
def kOr (b : Ex) (x : D) (ρ : Env) : Out D := match x with
  | .bl true => .ok (.bl true) ρ
  | .bl false => evE cf b ρ
  | _ => .err
def kOrT (b : Ex) (t : Bool) (ρ : Env) : Out Bool := if t = true then .ok true ρ else evT cf b ρ
def kIte (a b : Ex) (t : Bool) (ρ : Env) : Out D := if t = true then evE cf a ρ else evE cf b ρ
def kIx2 (x y : D) (ρ : Env) : Out D := ofO (itemF x y) ρ
def kIx (i : Ex) (x : D) (ρ : Env) : Out D := (evE cf i ρ).bind (kIx2 x)
def kSl3 (x : D) (l h : Option Int) (ρ : Env) : Out D := ofO (sliceF x l h) ρ
def kSl2 (hi : Oe) (x : D) (l : Option Int) (ρ : Env) : Out D := (evO cf hi ρ).bind (kSl3 x l)
def kSl (lo hi : Oe) (x : D) (ρ : Env) : Out D := (evO cf lo ρ).bind (kSl2 cf hi x)
def kTup2 (ρ : Env) (o : Option (List D)) : Out D := match o with
  | some ds => if ds.length ≤ 16777216 then .ok (.tup ds) ρ else .err
  | none => .err
def kTup (as : List Ar) (ρ : Env) : Out D := kTup2 ρ (valsA as)
def kLst2 (ρ : Env) (o : Option (List D)) : Out D := match o with
  | some ds => if ds.length ≤ 16777216 then .ok (.lst true ds) ρ else .err
  | none => .err
def kLst (as : List Ar) (ρ : Env) : Out D := kLst2 ρ (valsA as)
def kDct2 (ks : List Ky) (ρ : Env) (o : Option (List D)) : Out D := match o with
  | some ds => .ok (.dct true ks ds) ρ
  | none => .err
def kDct (ks : List Ky) (as : List Ar) (ρ : Env) : Out D := kDct2 ks ρ (valsA as)
def kC2 (f : Nat) (io ix : List Nat) (as bs : List Ar) (ρ : Env) : Out D := callA cf f io ix as bs ρ
def kC1 (f : Nat) (io : List Nat) (ks : Exs) (ix : List Nat) (as : List Ar) (ρ : Env) : Out D := (evA cf ks ρ).bind (kC2 cf f io ix as)
def kBi (b : Bi) (as : List Ar) (ρ : Env) : Out D := ofO ((peekA as ρ).bind (biG b)) ρ
def kIsi (t : Ty) (x : D) (ρ : Env) : Out D := ofO ((isiF x t).map .bl) ρ
def kMt2 (m : Mt) (x : D) (as : List Ar) (ρ : Env) : Out D := ofO ((valsA as).bind (mtF m x)) ρ
def kMt (m : Mt) (es : Exs) (x : D) (ρ : Env) : Out D := if isStr x = true then (evA cf es ρ).bind (kMt2 m x) else .err
def kLc2 (j : Nat) (old : Option D) (out : List D) (ρ : Env) : Out D := .ok (.lst true out) (ρ.set j old)
def gLc (j : Nat) (d : D) (r : Env) : Env := r.set j (some d)
def kLc (j : Nat) (e : Ex) (ds : List D) (ρ : Env) : Out D := (lcF (gLc j) (evE cf e) ds (ρ.set j none) []).bind (kLc2 j (look ρ j))
def kA2 (d : D) (as : List Ar) (ρ : Env) : Out (List Ar) := .ok (.v d :: as) ρ
def kA (es : Exs) (d : D) (ρ : Env) : Out (List Ar) := (evA cf es ρ).bind (kA2 d)
def kAr (j : Nat) (as : List Ar) (ρ : Env) : Out (List Ar) := .ok (.r j :: as) ρ
def kO (d : D) (ρ : Env) : Out (Option Int) := match d with
  | .int i => .ok (some i) ρ
  | _ => .err
def kF2 (es : Exs) (acc : List Nat) (ρ : Env) (o : Option (List Nat)) : Out D := match o with
  | some s => if acc.length + s.length ≤ 16777216 then evF cf es (acc ++ s) ρ else .err
  | none => .err
def kF (es : Exs) (acc : List Nat) (d : D) (ρ : Env) : Out D := kF2 cf es acc ρ (fmtF d)
def kRng (d : D) (ρ : Env) : Out (List D) := match d with
  | .int j => if -(2 ^ 62) ≤ j ∧ j < 2 ^ 62 then .ok (rngL j.toNat) ρ else .err
  | _ => .err
def kOv (d : D) (ρ : Env) : Out (List D) := ofO (itemsF d) ρ
def kIxR (i : Ex) (j : Nat) (ρ : Env) (o : Option D) : Out D := if o.isSome = true then (evE cf i ρ).bind (ixRef j) else .err
def kIsR (t : Ty) (ρ : Env) (o : Option D) : Out D := ofO (o.bind fun x => (isiF x t).map .bl) ρ
def kAref (es : Exs) (j : Nat) (ρ : Env) (o : Option D) : Out (List Ar) := if o.isSome = true then (evA cf es ρ).bind (kAr j) else .err
def kVar (i : Nat) (ρ : Env) (o : Option D) : Out D := match o with
  | some d => .ok (frz d) (ρ.set i (some (frz d)))
  | none => .err
def kRef2 (j : Nat) (ρ : Env) (x : D) (o : Option D) : Out D := match o with
  | some d => if Sca d = true then .ok d ρ else .ok (frz d) (ρ.set j (some (frz x)))
  | none => .err
def kRef (j : Nat) (y : D) (ρ : Env) (o : Option D) : Out D := match o with
  | some x => kRef2 j ρ x (itemF x y)
  | none => .err
/-! statements -/
def kEx (d : D) (ρ : Env) : Out Fl := .ok .nx ρ
def kSet (i : Nat) (d : D) (ρ : Env) : Out Fl := .ok .nx (ρ.set i (some d))
def kMs2 (o : Option Env) (ρ : Env) : Out Fl := match o with
  | some r => .ok .nx r
  | none => .err
def kMs (is : List Nat) (d : D) (ρ : Env) : Out Fl := match d with
  | .tup ds => kMs2 (setM is ds ρ) ρ
  | _ => .err
def kPar2 (i j : Nat) (x y : D) (ρ : Env) : Out Fl := .ok .nx ((ρ.set i (some x)).set j (some y))
def kPar (i j : Nat) (b : Ex) (x : D) (ρ : Env) : Out Fl := (evE cf b ρ).bind (kPar2 i j x)
def kAug2 (i : Nat) (op : Bop) (k : Int) (y : D) (ρ : Env) : Out Fl := (ofO (binF op (.int k) y) ρ).bind (kSet i)
def kAug (i : Nat) (op : Bop) (e : Ex) (ρ : Env) (o : Option D) : Out Fl := match o with
  | some (.int k) => (evE cf e ρ).bind (kAug2 i op k)
  | _ => .err
def kSi3 (j : Nat) (d : D) (ρ : Env) (y : D) (o : Option D) : Out Fl := match o, y with
  | some (.lst true ds), .int k => match ixN ds.length k with
    | some n => .ok .nx (ρ.set j (some (.lst true (ds.set n d))))
    | none => .err
  | _, _ => .err
def kSi2 (j : Nat) (d y : D) (ρ : Env) : Out Fl := kSi3 j d ρ y (look ρ j)
def kSi1 (j : Nat) (i : Ex) (d : D) (ρ : Env) (o : Option D) : Out Fl := if o.isSome = true then (evE cf i ρ).bind (kSi2 j d) else .err
def kSi (j : Nat) (i : Ex) (d : D) (ρ : Env) : Out Fl := kSi1 cf j i d ρ (look ρ j)
def kRet1 (d : D) (ρ : Env) : Out Fl := .ok (.ret d) ρ
def kRetR (j : Nat) (ρ : Env) (o : Option D) : Out Fl := match o with
  | some d => .ok (.ret d) (ρ.set j none)
  | none => .err
def kIf (a b : Sts) (t : Bool) (ρ : Env) : Out Fl := if t = true then evSs cf a ρ else evSs cf b ρ
def gFor (j : Nat) (d : D) (r : Env) : Env := r.set j (some d)
def kFor (j : Nat) (b : Sts) (ds : List D) (ρ : Env) : Out Fl := forF (gFor j) (evSs cf b) ds ρ
def kSeq (r : Sts) (f : Fl) (ρ : Env) : Out Fl := match f with
  | .nx => evSs cf r ρ
  | f => .ok f ρ
def kW2 (c : Env → Out Bool) (b : Env → Out Fl) (n : Nat) (f : Fl) (ρ : Env) : Out Fl := match f with
  | .nx => whileF c b n ρ
  | .ct => whileF c b n ρ
  | .brk => .ok .nx ρ
  | .ret d => .ok (.ret d) ρ
def kW (c : Env → Out Bool) (b : Env → Out Fl) (n : Nat) (t : Bool) (ρ : Env) : Out Fl := if t = true then (b ρ).bind (kW2 c b n) else .ok .nx ρ
def kFo (g : D → Env → Env) (b : Env → Out Fl) (ds : List D) (f : Fl) (ρ : Env) : Out Fl := match f with
  | .nx => forF g b ds ρ
  | .ct => forF g b ds ρ
  | .brk => .ok .nx ρ
  | .ret d => .ok (.ret d) ρ
/-! calls -/
def kTv (d : D) (o : Option (List D × Env)) : Option (List D × Env) := o.map fun x => (d :: x.1, x.2)
def kTr (j : Nat) (as : List Ar) (ρ : Env) (o : Option D) : Option (List D × Env) := match o with
  | some d => kTv d (takeA as (ρ.set j none))
  | none => none
def kPut (d : D) (o : Option Env) : Out D := match o with
  | some r => .ok d r
  | none => .err
def kPutX (c : Nat) (d : D) (o : Option Env) : Out D := match o with
  | some r => .exc c d r
  | none => .err
def kRet (io : List Nat) (bs : List Ar) (ρ : Env) (r : CR) : Out D := match r with
  | .ok d ps => kPut d (putA io 0 bs ps ρ)
  | .exc c d ps => kPutX c d (putA io 0 bs ps ρ)
  | .err => .err
def kTk (f : Nat) (io : List Nat) (bs : List Ar) (o : Option (List D × Env)) : Out D := match o with
  | some x => kRet io bs x.2 (cf f x.1)
  | none => .err
def kPv (d : D) (o : Option (List D)) : Option (List D) := o.map (d :: ·)
def kEnd (io : List Nat) (o : Out Fl) : CR := match o with
  | .ok .nx ρ => (match outs io ρ with | some ps => .ok .non ps | none => .err)
  | .ok (.ret d) ρ => (match outs io ρ with | some ps => .ok d ps | none => .err)
  | .ok _ _ => .err
  | .exc c d ρ => (match outs io ρ with | some ps => .exc c d ps | none => .err)
  | .err => .err
end
section
variable {cf : CF} {ρ : Env}
theorem s_con {d : D} : evE cf (.con d) ρ = .ok d ρ := rfl
theorem s_var {i : Nat} : evE cf (.var i) ρ = kVar i ρ (look ρ i) := by
  show evVar i ρ = _
  unfold evVar
  cases look ρ i <;> rfl
theorem k_var {i : Nat} {d : D} : kVar i ρ (some d) = .ok (frz d) (ρ.set i (some (frz d))) := rfl
theorem s_tup {es : Exs} : evE cf (.tup es) ρ = (evA cf es ρ).bind kTup := rfl
theorem s_lst {es : Exs} : evE cf (.lst es) ρ = (evA cf es ρ).bind kLst := rfl
theorem s_dct {ks : List Ky} {es : Exs} : evE cf (.dct ks es) ρ = (evA cf es ρ).bind (kDct ks) := rfl
theorem s_bin {op : Bop} {a b : Ex} : evE cf (.bin op a b) ρ = (evE cf a ρ).bind (kBin cf op b) := rfl
theorem s_neg {a : Ex} : evE cf (.neg a) ρ = (evE cf a ρ).bind kNeg := rfl
theorem s_cmp {op : Cop} {a b : Ex} : evE cf (.cmp op a b) ρ = (evE cf a ρ).bind (kCmp cf op b) := rfl
theorem s_isN {n : Bool} {a : Ex} : evE cf (.isN n a) ρ = (evE cf a ρ).bind (kIsN n) := rfl
theorem s_nt {a : Ex} : evE cf (.nt a) ρ = (evE cf a ρ).bind kNt := rfl
theorem s_an {a b : Ex} : evE cf (.an a b) ρ = (evE cf a ρ).bind (kAn cf b) := rfl
theorem s_or {a b : Ex} : evE cf (.orr a b) ρ = (evE cf a ρ).bind (kOr cf b) := rfl
theorem s_ite {c a b : Ex} : evE cf (.ite c a b) ρ = (evT cf c ρ).bind (kIte cf a b) := rfl
theorem s_ixV {a i : Ex} : evE cf (.ix .val a i) ρ = (evE cf a ρ).bind (kIx cf i) := rfl
theorem s_ixR {j : Nat} {i : Ex} : evE cf (.ix .ref (.var j) i) ρ = kIxR cf i j ρ (look ρ j) := rfl
theorem s_sl {a : Ex} {lo hi : Oe} : evE cf (.sl a lo hi) ρ = (evE cf a ρ).bind (kSl cf lo hi) := rfl
theorem s_call {f : Nat} {io ix : List Nat} {es ks : Exs} : evE cf (.call f io es ks ix) ρ = (evA cf es ρ).bind (kC1 cf f io ks ix) := rfl
theorem s_bi {b : Bi} {es : Exs} : evE cf (.bi b es) ρ = (evA cf es ρ).bind (kBi b) := rfl
theorem s_isiV {a : Ex} {t : Ty} : evE cf (.isi .val a t) ρ = (evE cf a ρ).bind (kIsi t) := rfl
theorem s_isiR {j : Nat} {t : Ty} : evE cf (.isi .ref (.var j) t) ρ = kIsR t ρ (look ρ j) := rfl
theorem s_mt {m : Mt} {o : Ex} {es : Exs} : evE cf (.mt m o es) ρ = (evE cf o ρ).bind (kMt cf m es) := rfl
theorem s_fs {es : Exs} : evE cf (.fs es) ρ = evF cf es [] ρ := rfl
theorem s_lc {j : Nat} {it : Itx} {e : Ex} : evE cf (.lc j it e) ρ = (evI cf it ρ).bind (kLc cf j e) := rfl
/-! tests -/
theorem t_con {d : D} : evT cf (.con d) ρ = kTru d ρ := rfl
theorem t_var {i : Nat} : evT cf (.var i) ρ = (kVar i ρ (look ρ i)).bind kTru := by
  show (evVar i ρ).bind _ = _
  unfold evVar
  cases look ρ i <;> rfl
theorem t_bin {op : Bop} {a b : Ex} : evT cf (.bin op a b) ρ = ((evE cf a ρ).bind (kBin cf op b)).bind kTru := rfl
theorem t_cmp {op : Cop} {a b : Ex} : evT cf (.cmp op a b) ρ = ((evE cf a ρ).bind (kCmp cf op b)).bind kTru := rfl
theorem t_isN {n : Bool} {a : Ex} : evT cf (.isN n a) ρ = ((evE cf a ρ).bind (kIsN n)).bind kTru := rfl
theorem t_nt {a : Ex} : evT cf (.nt a) ρ = (evT cf a ρ).bind kNtT := rfl
theorem t_an {a b : Ex} : evT cf (.an a b) ρ = (evT cf a ρ).bind (kAnT cf b) := rfl
theorem t_or {a b : Ex} : evT cf (.orr a b) ρ = (evT cf a ρ).bind (kOrT cf b) := rfl
theorem t_ixV {a i : Ex} : evT cf (.ix .val a i) ρ = ((evE cf a ρ).bind (kIx cf i)).bind kTru := rfl
theorem t_ixR {j : Nat} {i : Ex} : evT cf (.ix .ref (.var j) i) ρ = (kIxR cf i j ρ (look ρ j)).bind kTru := rfl
theorem t_call {f : Nat} {io ix : List Nat} {es ks : Exs} : evT cf (.call f io es ks ix) ρ = ((evA cf es ρ).bind (kC1 cf f io ks ix)).bind kTru := rfl
theorem t_bi {b : Bi} {es : Exs} : evT cf (.bi b es) ρ = ((evA cf es ρ).bind (kBi b)).bind kTru := rfl
theorem t_isiV {a : Ex} {t : Ty} : evT cf (.isi .val a t) ρ = ((evE cf a ρ).bind (kIsi t)).bind kTru := rfl
theorem t_isiR {j : Nat} {t : Ty} : evT cf (.isi .ref (.var j) t) ρ = (kIsR t ρ (look ρ j)).bind kTru := rfl
theorem t_mt {m : Mt} {o : Ex} {es : Exs} : evT cf (.mt m o es) ρ = ((evE cf o ρ).bind (kMt cf m es)).bind kTru := rfl
/-! arguments .. -/
theorem a_nil : evA cf .nil ρ = .ok [] ρ := rfl
theorem a_val {e : Ex} {es : Exs} : evA cf (.cons .val e es) ρ = (evE cf e ρ).bind (kA cf es) := rfl
theorem a_ref {j : Nat} {es : Exs} : evA cf (.cons .ref (.var j) es) ρ = kAref cf es j ρ (look ρ j) := rfl
theorem o_non : evO cf .non ρ = .ok none ρ := rfl
theorem o_som {e : Ex} : evO cf (.som e) ρ = (evE cf e ρ).bind kO := rfl
theorem f_nil {acc : List Nat} : evF cf .nil acc ρ = .ok (.str acc) ρ := rfl
theorem f_cons {m : Am} {e : Ex} {es : Exs} {acc : List Nat} : evF cf (.cons m e es) acc ρ = (evE cf e ρ).bind (kF cf es acc) := by
  refine congrArg (Out.bind (evE cf e ρ)) (funext fun d => funext fun r => ?_)
  show _ = kF2 cf es acc r (fmtF d)
  cases fmtF d <;> rfl
theorem i_rng {a : Ex} : evI cf (.rng1 a) ρ = (evE cf a ρ).bind kRng := rfl
theorem i_ov {e : Ex} : evI cf (.ov e) ρ = (evE cf e ρ).bind kOv := rfl
/-! what follows -/
variable {d x y : D} {i j n : Nat} {a b e : Ex} {es : Exs} {as bs : List Ar} {t : Bool} {op : Bop} {o : Cop} {ds : List D} {io ix : List Nat} {f : Nat}
theorem k_tru_b : kTru (.bl t) ρ = .ok t ρ := rfl
theorem k_tru_i {i : Int} : kTru (.int i) ρ = .ok (i != 0) ρ := rfl
theorem k_bin : kBin cf op b x ρ = (evE cf b ρ).bind (kBin2 op x) := rfl
theorem k_add {i j : Int} : kBin2 .add (.int i) (.int j) ρ = .ok (.int (i + j)) ρ := rfl
theorem k_sub {i j : Int} : kBin2 .sub (.int i) (.int j) ρ = .ok (.int (i - j)) ρ := rfl
theorem k_mul {i j : Int} (h : mulOk i j = true) : kBin2 .mul (.int i) (.int j) ρ = .ok (.int (i * j)) ρ := by
  show ofO (opt (mulOk i j) _) ρ = _
  rw [h]; rfl
theorem k_fdiv {i j : Int} (h : divOk j = true) : kBin2 .fdiv (.int i) (.int j) ρ = .ok (.int (i / j)) ρ := by
  show ofO (opt (divOk j) _) ρ = _
  rw [h]; rfl
theorem k_mod {i j : Int} (h : 0 < j) : kBin2 .mod (.int i) (.int j) ρ = .ok (.int (i % j)) ρ := by
  show ofO (opt (decide (0 < j)) _) ρ = _
  rw [decide_eq_true h]; rfl
theorem k_pow {i j : Int} (h : powOk i j = true) : kBin2 .pow (.int i) (.int j) ρ = .ok (.int (i ^ j.toNat)) ρ := by
  show ofO (opt (powOk i j) _) ρ = _
  rw [h]; rfl
theorem k_app {s u : List Nat} (h : s.length + u.length ≤ 16777216) : kBin2 .add (.str s) (.str u) ρ = .ok (.str (s ++ u)) ρ := by
  show ofO (opt (szOk _) _) ρ = _
  unfold szOk
  rw [decide_eq_true h]; rfl
theorem k_lapp {o1 o2 : Bool} {s u : List D} (h : s.length + u.length ≤ 16777216) : kBin2 .add (.lst o1 s) (.lst o2 u) ρ = .ok (.lst true (s ++ u)) ρ := by
  show ofO (opt (szOk _) _) ρ = _
  unfold szOk
  rw [decide_eq_true h]; rfl
theorem k_cmp : kCmp cf o b x ρ = (evE cf b ρ).bind (kCmp2 o x) := rfl
theorem c_lt {i j : Int} : kCmp2 .lt (.int i) (.int j) ρ = .ok (.bl (decide (i < j))) ρ := rfl
theorem c_le {i j : Int} : kCmp2 .le (.int i) (.int j) ρ = .ok (.bl (decide (i ≤ j))) ρ := rfl
theorem c_gt {i j : Int} : kCmp2 .gt (.int i) (.int j) ρ = .ok (.bl (decide (j < i))) ρ := rfl
theorem c_ge {i j : Int} : kCmp2 .ge (.int i) (.int j) ρ = .ok (.bl (decide (j ≤ i))) ρ := rfl
theorem c_eqi {i j : Int} : kCmp2 .eq (.int i) (.int j) ρ = .ok (.bl (decide (i = j))) ρ := rfl
theorem c_nei {i j : Int} : kCmp2 .ne (.int i) (.int j) ρ = .ok (.bl (!decide (i = j))) ρ := rfl
theorem c_eqs {s u : List Nat} : kCmp2 .eq (.str s) (.str u) ρ = .ok (.bl (decide (s = u))) ρ := rfl
theorem c_nes {s u : List Nat} : kCmp2 .ne (.str s) (.str u) ρ = .ok (.bl (!decide (s = u))) ρ := rfl
theorem c_ins {c : Nat} {u : List Nat} : kCmp2 .inn (.str [c]) (.str u) ρ = .ok (.bl (decide (c ∈ u))) ρ := rfl
theorem c_int (h : (flatD x && ds.all flatD) = true) : kCmp2 .inn x (.tup ds) ρ = .ok (.bl (inD x ds)) ρ := by
  have e : cmpF .inn x (.tup ds) = some (inD x ds) := by
    show inF x (.tup ds) = _
    cases x <;> first | exact (if_pos h) | (cases h; done) | skip
    rename_i s
    match s with
    | [] => exact if_pos h
    | [_] => exact if_pos h
    | _ :: _ :: _ => exact if_pos h
  show ofO ((cmpF .inn x (.tup ds)).map D.bl) ρ = _
  rw [e]; rfl
theorem k_neg {i : Int} : kNeg (.int i) ρ = .ok (.int (-i)) ρ := rfl
theorem k_isN {t : Bool} : kIsN t x ρ = .ok (.bl (isNonF t x)) ρ := rfl
theorem nn_0t : isNonF false (.tup ds) = false := rfl
theorem nn_1t : isNonF true (.tup ds) = true := rfl
theorem nn_0i {i : Int} : isNonF false (.int i) = false := rfl
theorem nn_1i {i : Int} : isNonF true (.int i) = true := rfl
theorem nn_0s {s : List Nat} : isNonF false (.str s) = false := rfl
theorem nn_1s {s : List Nat} : isNonF true (.str s) = true := rfl
theorem nn_0b : isNonF false (.bl t) = false := rfl
theorem nn_1b : isNonF true (.bl t) = true := rfl
theorem nn_0l {ow : Bool} : isNonF false (.lst ow ds) = false := rfl
theorem nn_1l {ow : Bool} : isNonF true (.lst ow ds) = true := rfl
theorem nn_0n : isNonF false .non = true := rfl
theorem nn_1n : isNonF true .non = false := rfl
theorem k_nt : kNt (.bl t) ρ = .ok (.bl (!t)) ρ := rfl
theorem k_ntT : kNtT t ρ = .ok (!t) ρ := rfl
theorem k_an1 : kAn cf b (.bl true) ρ = evE cf b ρ := rfl
theorem k_an0 : kAn cf b (.bl false) ρ = .ok (.bl false) ρ := rfl
theorem k_anT1 : kAnT cf b true ρ = evT cf b ρ := rfl
theorem k_anT0 : kAnT cf b false ρ = .ok false ρ := rfl
theorem k_or1 : kOr cf b (.bl true) ρ = .ok (.bl true) ρ := rfl
theorem k_or0 : kOr cf b (.bl false) ρ = evE cf b ρ := rfl
theorem k_orT1 : kOrT cf b true ρ = .ok true ρ := rfl
theorem k_orT0 : kOrT cf b false ρ = evT cf b ρ := rfl
theorem k_ite1 : kIte cf a b true ρ = evE cf a ρ := rfl
theorem k_ite0 : kIte cf a b false ρ = evE cf b ρ := rfl
theorem k_ix : kIx cf a x ρ = (evE cf a ρ).bind (kIx2 x) := rfl
theorem k_ix2 : kIx2 x y ρ = ofO (itemF x y) ρ := rfl
theorem k_ixR : kIxR cf a j ρ (some x) = (evE cf a ρ).bind (ixRef j) := rfl
theorem k_ixr : ixRef j y ρ = kRef j y ρ (look ρ j) := by
  unfold ixRef
  cases look ρ j with
  | none => rfl
  | some x =>
    show _ = kRef2 j ρ x (itemF x y)
    dsimp only
    cases itemF x y <;> rfl
theorem k_ref : kRef j y ρ (some x) = kRef2 j ρ x (itemF x y) := rfl
theorem k_ref_i {i : Int} : kRef2 j ρ x (some (.int i)) = .ok (.int i) ρ := rfl
theorem k_ref_s {s : List Nat} : kRef2 j ρ x (some (.str s)) = .ok (.str s) ρ := rfl
theorem k_ref_b : kRef2 j ρ x (some (.bl t)) = .ok (.bl t) ρ := rfl
theorem k_ref_n : kRef2 j ρ x (some .non) = .ok .non ρ := rfl
theorem k_ref_t : kRef2 j ρ x (some (.tup ds)) = .ok (.tup (frzL ds)) (ρ.set j (some (frz x))) := rfl
theorem i_lst {ow : Bool} {i : Int} : itemF (.lst ow ds) (.int i) = atI ds i := rfl
theorem i_tup {i : Int} : itemF (.tup ds) (.int i) = atI ds i := rfl
theorem i_scr {i : Int} : itemF (.scr ds) (.int i) = atI ds i := rfl
theorem i_str {s : List Nat} {i : Int} (h : s.length ≤ 16777216) : itemF (.str s) (.int i) = (atI s i).map fun c => .str [c] := if_pos h
theorem i_dcs {ow : Bool} {ks : List Ky} {s : List Nat} : itemF (.dct ow ks ds) (.str s) = lookF ks ds (.str s) := rfl
theorem i_dci {ow : Bool} {ks : List Ky} {i : Int} : itemF (.dct ow ks ds) (.int i) = lookF ks ds (.int i) := rfl
theorem l_hit {k : Ky} {ks : List Ky} : lookF (k :: ks) (d :: ds) k = some d := if_pos rfl
theorem l_miss {k k' : Ky} {ks : List Ky} (h : k' ≠ k) : lookF (k :: ks) (d :: ds) k' = lookF ks ds k' := if_neg h
theorem at_0 {α : Type} {z : α} {zs : List α} : atI (z :: zs) 0 = some z := by
  simp [atI, ixN]
theorem at_1 {α : Type} {z z1 : α} {zs : List α} : atI (z :: z1 :: zs) 1 = some z1 := by
  have := L2.atI_nat (xs := z :: z1 :: zs) (j := 1) (v := z1) rfl
  exact this
theorem at_2 {α : Type} {z z1 z2 : α} {zs : List α} : atI (z :: z1 :: z2 :: zs) 2 = some z2 := by
  have := L2.atI_nat (xs := z :: z1 :: z2 :: zs) (j := 2) (v := z2) rfl
  exact this
theorem at_3 {α : Type} {z z1 z2 z3 : α} {zs : List α} : atI (z :: z1 :: z2 :: z3 :: zs) 3 = some z3 := by
  have := L2.atI_nat (xs := z :: z1 :: z2 :: z3 :: zs) (j := 3) (v := z3) rfl
  exact this
theorem k_sl {lo hi : Oe} : kSl cf lo hi x ρ = (evO cf lo ρ).bind (kSl2 cf hi x) := rfl
theorem k_sl2 {hi : Oe} {l : Option Int} : kSl2 cf hi x l ρ = (evO cf hi ρ).bind (kSl3 x l) := rfl
theorem k_sl3 {s : List Nat} {l h : Option Int} (hs : s.length ≤ 16777216) : kSl3 (.str s) l h ρ = .ok (.str (cutL s l h)) ρ := by
  show ofO (opt (szOk _) _) ρ = _
  unfold szOk
  rw [decide_eq_true hs]; rfl
theorem k_tup : kTup as ρ = kTup2 ρ (valsA as) := rfl
theorem k_tup2 : kTup2 ρ (some ds) = if ds.length ≤ 16777216 then .ok (.tup ds) ρ else .err := rfl
theorem k_lst : kLst as ρ = kLst2 ρ (valsA as) := rfl
theorem k_lst2 : kLst2 ρ (some ds) = if ds.length ≤ 16777216 then .ok (.lst true ds) ρ else .err := rfl
theorem k_dct {ks : List Ky} : kDct ks as ρ = kDct2 ks ρ (valsA as) := rfl
theorem k_dct2 {ks : List Ky} : kDct2 ks ρ (some ds) = .ok (.dct true ks ds) ρ := rfl
theorem v_nil : valsA [] = some [] := rfl
theorem v_cons : valsA (.v d :: as) = kPv d (valsA as) := rfl
theorem k_pv : kPv d (some ds) = some (d :: ds) := rfl
theorem k_c1 {ks : Exs} : kC1 cf f io ks ix as ρ = (evA cf ks ρ).bind (kC2 cf f io ix as) := rfl
theorem k_c2 : kC2 cf f io [] as [] ρ = callB cf f io as ρ := by
  unfold kC2 callA
  rw [kwA_nil]
theorem k_c2k {b : Ar} : kC2 cf f io [0] as [b] ρ = callB cf f io (as ++ [b]) ρ := by
  unfold kC2 callA
  have : kwA as [b] [0] = some (as ++ [b]) := by
    unfold kwA
    exact if_pos (show [0].isPerm (List.range 1) = true by decide)
  rw [this]
theorem k_cb (h : refPos io 0 bs = io) : callB cf f io bs ρ = kTk cf f io bs (takeA bs ρ) := by
  unfold callB
  rw [if_pos h]
  cases takeA bs ρ with
  | none => rfl
  | some x =>
    obtain ⟨ds, r⟩ := x
    show _ = kRet io bs r (cf f ds)
    dsimp only
    cases cf f ds with
    | ok d ps => show _ = kPut d _; dsimp only; cases putA io 0 bs ps r <;> rfl
    | exc c d ps => show _ = kPutX c d _; dsimp only; cases putA io 0 bs ps r <;> rfl
    | err => rfl
theorem k_tk {r : Env} : kTk cf f io bs (some (ds, r)) = kRet io bs r (cf f ds) := rfl
theorem k_ret {ps : List D} : kRet io bs ρ (.ok d ps) = kPut d (putA io 0 bs ps ρ) := rfl
theorem k_retX {c : Nat} {ps : List D} : kRet io bs ρ (.exc c d ps) = kPutX c d (putA io 0 bs ps ρ) := rfl
theorem k_put {r : Env} : kPut d (some r) = .ok d r := rfl
theorem k_putX {c : Nat} {r : Env} : kPutX c d (some r) = .exc c d r := rfl
theorem tk_nil : takeA [] ρ = some ([], ρ) := rfl
theorem tk_v : takeA (.v d :: as) ρ = kTv d (takeA as ρ) := rfl
theorem tk_r : takeA (.r j :: as) ρ = kTr j as ρ (look ρ j) := by
  unfold kTr
  show (match look ρ j with | some d => _ | none => _) = _
  cases look ρ j <;> rfl
theorem k_tv {r : Env} : kTv d (some (ds, r)) = some (d :: ds, r) := rfl
theorem k_tr : kTr j as ρ (some d) = kTv d (takeA as (ρ.set j none)) := rfl
theorem p_nil : putA io i [] [] ρ = some ρ := rfl
theorem p_v0 {ps : List D} (h : i ∉ io) : putA io i (.v d :: as) ps ρ = putA io (i + 1) as ps ρ := if_neg h
theorem p_v1 {p : D} {ps : List D} (h : i ∈ io) : putA io i (.v d :: as) (p :: ps) ρ = putA io (i + 1) as ps ρ := if_pos h
theorem p_r {p : D} {ps : List D} (h : i ∈ io) : putA io i (.r j :: as) (p :: ps) ρ = putA io (i + 1) as ps (ρ.set j (some p)) := if_pos h
theorem r_nil : refPos io i [] = [] := rfl
theorem r_in {a : Ar} (h : i ∈ io) : refPos io i (a :: as) = i :: refPos io (i + 1) as := if_pos h
theorem r_no {a : Ar} (h : i ∉ io) : refPos io i (a :: as) = refPos io (i + 1) as := if_neg h
theorem k_bi {b : Bi} : kBi b as ρ = ofO ((peekA as ρ).bind (biG b)) ρ := rfl
theorem pk_nil0 : peekA [] ρ = some [] := rfl
theorem pk_v : peekA (.v d :: as) ρ = kPv d (peekA as ρ) := rfl
theorem pk_r : peekA (.r j :: as) ρ = (look ρ j).bind fun d => kPv d (peekA as ρ) := rfl
theorem some_bind {α β : Type} {z : α} {g : α → Option β} : (some z).bind g = g z := rfl
theorem b_gen {b : Bi} (h1 : b ≠ .all) (h2 : b ≠ .any) : biG b ds = biF b ds := by
  cases b <;> first | rfl | exact absurd rfl h1 | exact absurd rfl h2
theorem b_lens {s : List Nat} (h : s.length ≤ 16777216) : biG .len [.str s] = some (.int s.length) := by
  show opt (szOk _) _ = _
  unfold szOk
  rw [decide_eq_true h]; rfl
theorem b_lenl {ow : Bool} : biG .len [.lst ow ds] = some (.int ds.length) := rfl
theorem b_lent : biG .len [.tup ds] = some (.int ds.length) := rfl
theorem b_lenc : biG .len [.scr ds] = some (.int ds.length) := rfl
theorem b_inti {i : Int} : biG .int [.int i] = some (.int i) := rfl
theorem b_str {i : Int} (h : lg i < 1920) : biG .str [.int i] = some (.str (numT i)) := by
  show opt (decide _) _ = _
  rw [decide_eq_true h]; rfl
theorem b_abs {i : Int} : biG .abs [.int i] = some (.int (if i < 0 then -i else i)) := rfl
theorem b_max {i j : Int} : biG .max [.int i, .int j] = some (.int (if j > i then j else i)) := rfl
theorem b_min {i j : Int} : biG .min [.int i, .int j] = some (.int (if j < i then j else i)) := rfl
theorem b_gcd {i j : Int} : biG .gcd [.int i, .int j] = some (.int ((Nat.gcd i.natAbs j.natAbs : Nat) : Int)) := rfl
theorem b_all {ow : Bool} : biG .all [.lst ow ds] = (blsF ds).map fun bs => .bl (bs.all id) := rfl
theorem b_any {ow : Bool} : biG .any [.lst ow ds] = (blsF ds).map fun bs => .bl (bs.any id) := rfl
theorem k_isi {t : Ty} : kIsi t x ρ = ofO ((isiF x t).map .bl) ρ := rfl
theorem k_isr {t : Ty} : kIsR t ρ (some x) = ofO ((isiF x t).map .bl) ρ := rfl
theorem k_mt {m : Mt} {s : List Nat} : kMt cf m es (.str s) ρ = (evA cf es ρ).bind (kMt2 m (.str s)) := rfl
theorem k_mt2 {m : Mt} : kMt2 m x as ρ = ofO ((valsA as).bind (mtF m x)) ρ := rfl
theorem m_sw {s u : List Nat} : mtF .startswith (.str s) [.str u] = some (.bl (TL.pre u s)) := rfl
theorem k_lc {e : Ex} : kLc cf j e ds ρ = (lcF (gLc j) (evE cf e) ds (ρ.set j none) []).bind (kLc2 j (look ρ j)) := rfl
theorem k_lc2 {old : Option D} : kLc2 j old ds ρ = .ok (.lst true ds) (ρ.set j old) := rfl
theorem k_a : kA cf es d ρ = (evA cf es ρ).bind (kA2 d) := rfl
theorem k_a2 : kA2 d as ρ = .ok (.v d :: as) ρ := rfl
theorem k_ar : kAr j as ρ = .ok (.r j :: as) ρ := rfl
theorem k_aref : kAref cf es j ρ (some d) = (evA cf es ρ).bind (kAr j) := rfl
theorem k_o {i : Int} : kO (.int i) ρ = .ok (some i) ρ := rfl
theorem k_f {acc : List Nat} : kF cf es acc d ρ = kF2 cf es acc ρ (fmtF d) := rfl
theorem k_f2 {acc s : List Nat} (h : acc.length + s.length ≤ 16777216) : kF2 cf es acc ρ (some s) = evF cf es (acc ++ s) ρ := if_pos h
theorem fm_s {s : List Nat} (h : s.length ≤ 16777216) : fmtF (.str s) = some s := by
  show opt (szOk _) _ = _
  unfold szOk
  rw [decide_eq_true h]; rfl
theorem fm_i {i : Int} (h : lg i < 1920) : fmtF (.int i) = some (numT i) := by
  show opt (decide _) _ = _
  rw [decide_eq_true h]; rfl
theorem k_rng {j : Int} (h : -(2 ^ 62) ≤ j ∧ j < 2 ^ 62) : kRng (.int j) ρ = .ok (rngL j.toNat) ρ := if_pos h
theorem k_ov : kOv d ρ = ofO (itemsF d) ρ := rfl
theorem o_some {α : Type} {z : α} : ofO (some z) ρ = .ok z ρ := rfl
/-! statements -/
theorem x_nil : evSs cf .nil ρ = .ok .nx ρ := rfl
theorem x_cons {s : St} {r : Sts} : evSs cf (.cons s r) ρ = (evS cf s ρ).bind (kSeq cf r) := by
  refine congrArg (Out.bind (evS cf s ρ)) (funext fun f => funext fun r => ?_)
  cases f <;> rfl
theorem k_sq {r : Sts} : kSeq cf r .nx ρ = evSs cf r ρ := rfl
theorem k_sqr {r : Sts} : kSeq cf r (.ret d) ρ = .ok (.ret d) ρ := rfl
theorem k_sqb {r : Sts} : kSeq cf r .brk ρ = .ok .brk ρ := rfl
theorem k_sqc {r : Sts} : kSeq cf r .ct ρ = .ok .ct ρ := rfl
theorem x_ex : evS cf (.ex e) ρ = (evE cf e ρ).bind kEx := rfl
theorem k_ex0 : kEx d ρ = .ok .nx ρ := rfl
theorem x_set : evS cf (.set i e) ρ = (evE cf e ρ).bind (kSet i) := rfl
theorem k_set : kSet i d ρ = .ok .nx (ρ.set i (some d)) := rfl
theorem x_mset {is : List Nat} : evS cf (.mset is e) ρ = (evE cf e ρ).bind (kMs is) := by
  refine congrArg (Out.bind (evE cf e ρ)) (funext fun d => funext fun r => ?_)
  cases d <;> first | rfl | skip
  show (ofO (setM is _ r) r |>.bind fun r _ => .ok .nx r) = kMs2 (setM is _ r) r
  cases setM is _ r <;> rfl
theorem k_ms {is : List Nat} : kMs is (.tup ds) ρ = kMs2 (setM is ds ρ) ρ := rfl
theorem k_ms2 {r : Env} : kMs2 (some r) ρ = .ok .nx r := rfl
theorem sm_nil : setM [] [] ρ = some ρ := rfl
theorem sm_cons {is : List Nat} : setM (i :: is) (d :: ds) ρ = setM is ds (ρ.set i (some d)) := rfl
theorem x_par : evS cf (.par i j a b) ρ = (evE cf a ρ).bind (kPar cf i j b) := rfl
theorem k_par : kPar cf i j b x ρ = (evE cf b ρ).bind (kPar2 i j x) := rfl
theorem k_par2 : kPar2 i j x y ρ = .ok .nx ((ρ.set i (some x)).set j (some y)) := rfl
theorem x_aug : evS cf (.aug i op e) ρ = kAug cf i op e ρ (look ρ i) := by
  show (match look ρ i with | some (.int k) => _ | _ => _) = _
  cases look ρ i with
  | none => rfl
  | some d =>
    cases d <;> first | rfl | skip
    rename_i k
    refine congrArg (Out.bind (evE cf e ρ)) (funext fun y => funext fun r => ?_)
    show _ = (ofO (binF op (.int k) y) r).bind (kSet i)
    cases binF op (.int k) y <;> rfl
theorem k_aug {k : Int} : kAug cf i op e ρ (some (.int k)) = (evE cf e ρ).bind (kAug2 i op k) := rfl
theorem k_aug2a {k y : Int} : kAug2 i .add k (.int y) ρ = .ok .nx (ρ.set i (some (.int (k + y)))) := rfl
theorem k_aug2s {k y : Int} : kAug2 i .sub k (.int y) ρ = .ok .nx (ρ.set i (some (.int (k - y)))) := rfl
theorem x_si : evS cf (.setIx j a e) ρ = (evE cf e ρ).bind (kSi cf j a) := by
  refine congrArg (Out.bind (evE cf e ρ)) (funext fun d => funext fun r => ?_)
  show (if (look r j).isSome = true then _ else _) = kSi1 cf j a d r (look r j)
  unfold kSi1
  refine ite_congr rfl (fun _ => ?_) fun _ => rfl
  refine congrArg (Out.bind (evE cf a r)) (funext fun y => funext fun r2 => ?_)
  show _ = kSi3 j d r2 y (look r2 j)
  unfold kSi3
  cases look r2 j with
  | none => rfl
  | some z =>
    cases z <;> rfl
theorem k_si : kSi cf j a d ρ = kSi1 cf j a d ρ (look ρ j) := rfl
theorem k_si1 : kSi1 cf j a d ρ (some x) = (evE cf a ρ).bind (kSi2 j d) := rfl
theorem k_si2 : kSi2 j d y ρ = kSi3 j d ρ y (look ρ j) := rfl
theorem k_si3_0 {z : D} {zs : List D} : kSi3 j d ρ (.int 0) (some (.lst true (z :: zs))) = .ok .nx (ρ.set j (some (.lst true (d :: zs)))) := by
  have : ixN (z :: zs).length 0 = some 0 := by simp [ixN]
  unfold kSi3
  dsimp only
  rw [this]; rfl
theorem k_si3_1 {z z1 : D} {zs : List D} : kSi3 j d ρ (.int 1) (some (.lst true (z :: z1 :: zs))) = .ok .nx (ρ.set j (some (.lst true (z :: d :: zs)))) := by
  have : ixN (z :: z1 :: zs).length 1 = some 1 := by simp [ixN]; omega
  unfold kSi3
  dsimp only
  rw [this]; rfl
theorem k_si3_2 {z z1 z2 : D} {zs : List D} : kSi3 j d ρ (.int 2) (some (.lst true (z :: z1 :: z2 :: zs))) = .ok .nx (ρ.set j (some (.lst true (z :: z1 :: d :: zs)))) := by
  have : ixN (z :: z1 :: z2 :: zs).length 2 = some 2 := by simp [ixN]; omega
  unfold kSi3
  dsimp only
  rw [this]; rfl
theorem x_ret : evS cf (.ret .val e) ρ = (evE cf e ρ).bind kRet1 := rfl
theorem k_ret1 : kRet1 d ρ = .ok (.ret d) ρ := rfl
theorem x_retR : evS cf (.ret .ref (.var j)) ρ = kRetR j ρ (look ρ j) := by
  show (match look ρ j with | some d => _ | none => _) = _
  cases look ρ j <;> rfl
theorem k_retR : kRetR j ρ (some d) = .ok (.ret d) (ρ.set j none) := rfl
theorem x_retN : evS cf .retN ρ = .ok (.ret .non) ρ := rfl
variable {u v : Sts}
theorem x_if : evS cf (.ite e u v) ρ = (evT cf e ρ).bind (kIf cf u v) := rfl
theorem k_if1 : kIf cf u v true ρ = evSs cf u ρ := rfl
theorem k_if0 : kIf cf u v false ρ = evSs cf v ρ := rfl
theorem x_whl : evS cf (.whl e u) ρ = whileF (evT cf e) (evSs cf u) turns ρ := rfl
theorem w_S {c : Env → Out Bool} {b : Env → Out Fl} : whileF c b (n + 1) ρ = (c ρ).bind (kW c b n) := by
  refine congrArg (Out.bind (c ρ)) (funext fun t => funext fun r => ?_)
  cases t with
  | false => rfl
  | true =>
    refine congrArg (Out.bind (b r)) (funext fun f => funext fun r2 => ?_)
    cases f <;> rfl
theorem k_w0 {c : Env → Out Bool} {b : Env → Out Fl} : kW c b n false ρ = .ok .nx ρ := rfl
theorem k_w1 {c : Env → Out Bool} {b : Env → Out Fl} : kW c b n true ρ = (b ρ).bind (kW2 c b n) := rfl
theorem k_w2n {c : Env → Out Bool} {b : Env → Out Fl} : kW2 c b n .nx ρ = whileF c b n ρ := rfl
theorem k_w2c {c : Env → Out Bool} {b : Env → Out Fl} : kW2 c b n .ct ρ = whileF c b n ρ := rfl
theorem k_w2b {c : Env → Out Bool} {b : Env → Out Fl} : kW2 c b n .brk ρ = .ok .nx ρ := rfl
theorem k_w2r {c : Env → Out Bool} {b : Env → Out Fl} : kW2 c b n (.ret d) ρ = .ok (.ret d) ρ := rfl
theorem x_for {it : Itx} : evS cf (.for1 j it u) ρ = (evI cf it ρ).bind (kFor cf j u) := rfl
theorem k_for : kFor cf j u ds ρ = forF (gFor j) (evSs cf u) ds ρ := rfl
theorem fo_nil {g : D → Env → Env} {b : Env → Out Fl} : forF g b [] ρ = .ok .nx ρ := rfl
theorem fo_cons {g : D → Env → Env} {b : Env → Out Fl} : forF g b (d :: ds) ρ = (b (g d ρ)).bind (kFo g b ds) := by
  refine congrArg (Out.bind (b (g d ρ))) (funext fun f => funext fun r => ?_)
  cases f <;> rfl
theorem k_fon {g : D → Env → Env} {b : Env → Out Fl} : kFo g b ds .nx ρ = forF g b ds ρ := rfl
theorem k_foc {g : D → Env → Env} {b : Env → Out Fl} : kFo g b ds .ct ρ = forF g b ds ρ := rfl
theorem k_fob {g : D → Env → Env} {b : Env → Out Fl} : kFo g b ds .brk ρ = .ok .nx ρ := rfl
theorem k_for2 {g : D → Env → Env} {b : Env → Out Fl} : kFo g b ds (.ret d) ρ = .ok (.ret d) ρ := rfl
theorem g_for : gFor j d ρ = ρ.set j (some d) := rfl
theorem g_lc : gLc j d ρ = ρ.set j (some d) := rfl
theorem lc_nil {g : D → Env → Env} {b : Env → Out D} {acc : List D} : lcF g b [] ρ acc = .ok acc ρ := rfl
theorem lc_cons {g : D → Env → Env} {b : Env → Out D} {acc : List D} {r : Env} (h : b (g d ρ) = .ok y r) (hl : acc.length < 16777216) : lcF g b (d :: ds) ρ acc = lcF g b ds r (acc ++ [y]) := by
  show (match b (g d ρ) with
    | .ok y ρ2 => if acc.length < 16777216 then lcF g b ds ρ2 (acc ++ [y]) else .err
    | _ => .err) = _
  rw [h]
  exact if_pos hl
theorem x_brk : evS cf .brk ρ = .ok .brk ρ := rfl
theorem x_cnt : evS cf .cnt ρ = .ok .ct ρ := rfl
theorem x_pas : evS cf .pas ρ = .ok .nx ρ := rfl
/-! names -/
theorem lk_0 {z : Option D} : look (z :: ρ) 0 = z := look_cons0 z ρ
theorem lk_S {z : Option D} : look (z :: ρ) (n + 1) = look ρ n := rfl
theorem set_0 {z w : Option D} : (z :: ρ).set 0 w = w :: ρ := rfl
theorem set_S {z w : Option D} : (z :: ρ).set (n + 1) w = z :: ρ.set n w := rfl
theorem fz_i {i : Int} : frz (.int i) = .int i := by unfold frz; rfl
theorem fz_s {s : List Nat} : frz (.str s) = .str s := by unfold frz; rfl
theorem fz_b : frz (.bl t) = .bl t := by unfold frz; rfl
theorem fz_n : frz .non = .non := by unfold frz; rfl
theorem fz_t : frz (.tup ds) = .tup (frzL ds) := by unfold frz; rfl
theorem fz_l {ow : Bool} : frz (.lst ow ds) = .lst false (frzL ds) := by rw [frz]
theorem fz_c : frz (.scr ds) = .scr (frzL ds) := by rw [frz]
theorem fl_nil : frzL [] = [] := by rw [frzL]
theorem fl_cons : frzL (d :: ds) = frz d :: frzL ds := by rw [frzL]
theorem run_S {Φ : Nat → Option Fn} {k f : Nat} {fn : Fn} (h : Φ f = some fn) (hl : ds.length = fn.np) : call Φ (k + 1) f ds = kEnd fn.io (evSs (call Φ k) fn.body (ds.map some ++ List.replicate (fn.n - fn.np) none)) := by
  show (match Φ f with | some fn => runF (call Φ k) fn ds | none => .err) = _
  rw [h]
  show runF _ fn ds = _
  unfold runF
  rw [if_pos hl]
  cases evSs (call Φ k) fn.body (ds.map some ++ List.replicate (fn.n - fn.np) none) with
  | ok f ρ => cases f <;> rfl
  | exc c d ρ => rfl
  | err => rfl
theorem e_ret : kEnd [] (.ok (.ret d) ρ) = .ok d [] := rfl
theorem e_nx : kEnd [] (.ok .nx ρ) = .ok .non [] := rfl
theorem outs_1 {p : D} (h : look ρ i = some p) : outs [i] ρ = some [p] := by
  unfold outs
  rw [List.mapM_cons, h]
  rfl
theorem outs_2 {p q : D} (h : look ρ i = some p) (h2 : look ρ j = some q) : outs [i, j] ρ = some [p, q] := by
  unfold outs
  rw [List.mapM_cons, List.mapM_cons, h, h2]
  rfl
theorem e_ret1 {p : D} (h : look ρ i = some p) : kEnd [i] (.ok (.ret d) ρ) = .ok d [p] := by
  show (match outs [i] ρ with | some ps => CR.ok d ps | none => .err) = _
  rw [outs_1 h]
theorem e_ret2 {p q : D} (h : look ρ i = some p) (h2 : look ρ j = some q) : kEnd [i, j] (.ok (.ret d) ρ) = .ok d [p, q] := by
  show (match outs [i, j] ρ with | some ps => CR.ok d ps | none => .err) = _
  rw [outs_2 h h2]
theorem e_nx1 {p : D} (h : look ρ i = some p) : kEnd [i] (.ok .nx ρ) = .ok .non [p] := by
  show (match outs [i] ρ with | some ps => CR.ok .non ps | none => .err) = _
  rw [outs_1 h]
end
end Ev.Z

/-! K85: the tables of the program (printed by gen.py) -/
namespace K85
open PySem PySem.Spec PyProof.Rows L2 Ev
def topS (i : Nat) : Stmt := PySem.Challenge.pw_wholeworths_k85_whole_patterns_there_and.main.body.getD i (.Pass ⟨0, 0, 0, 0⟩)
abbrev s0 : Stmt := topS 5
abbrev s1 : Stmt := topS 10
abbrev s2 : Stmt := topS 11
abbrev s3 : Stmt := topS 12
abbrev s4 : Stmt := topS 13
abbrev s5 : Stmt := topS 14
abbrev s6 : Stmt := topS 15
abbrev s7 : Stmt := topS 16
abbrev s8 : Stmt := topS 17
abbrev s9 : Stmt := topS 19
abbrev s10 : Stmt := topS 20
abbrev s11 : Stmt := topS 22
abbrev s12 : Stmt := topS 23
abbrev s13 : Stmt := topS 24
abbrev s14 : Stmt := topS 25
abbrev s15 : Stmt := topS 26
abbrev s16 : Stmt := topS 27
abbrev s17 : Stmt := topS 28
abbrev s18 : Stmt := topS 29
abbrev s19 : Stmt := topS 30
abbrev s20 : Stmt := topS 31
abbrev s21 : Stmt := topS 32
abbrev s22 : Stmt := topS 33
abbrev s23 : Stmt := topS 34
def d0 : Df := ⟨"is_number", s0, ["value", "above", "below"], 1, [], ["value", "above", "below"], []⟩
def d1 : Df := ⟨"whole_of", s1, ["text", "digits", "sign"], 1, [], ["text", "digits"], []⟩
def d2 : Df := ⟨"number_of", s2, ["text", "above", "below", "above_text", "stroke", "below_text"], 1, [], ["text", "above", "below", "above_text", "stroke", "below_text"], []⟩
def d3 : Df := ⟨"read_number", s3, ["text", "found"], 1, [], ["text", "found"], [(0, ["text"], [0])]⟩
def d4 : Df := ⟨"weighed_at", s4, ["text", "at", "end", "word", "number", "inner"], 2, [], ["text", "at", "end", "word", "number", "inner"], []⟩
def d5 : Df := ⟨"pair_at", s5, ["text", "at", "one", "end", "other", "kind", "between"], 2, [], ["text", "at", "one", "end", "other", "kind", "between"], []⟩
def d6 : Df := ⟨"part_at", s6, ["text", "at", "sign"], 2, [], ["text", "at", "sign"], []⟩
def d7 : Df := ⟨"pattern_at", s7, ["text", "at", "found"], 2, [], ["text", "at", "found"], []⟩
def d8 : Df := ⟨"read_pattern", s8, ["text", "found"], 1, [], ["text", "found"], [(0, ["text"], [0])]⟩
def d9 : Df := ⟨"show_number", s9, ["number", "above", "below"], 1, [], ["number", "above", "below"], [(0, ["number"], [0])]⟩
def d10 : Df := ⟨"show_pattern", s10, ["pattern", "kind", "between"], 1, [], ["pattern", "kind", "between"], [(0, ["pattern"], [0])]⟩
def d11 : Df := ⟨"_law_well", s11, ["script", "place", "cell"], 2, [], ["script", "place", "cell"], []⟩
def d12 : Df := ⟨"_law_dip", s12, ["well", "many", "mixed", "drawn"], 2, [0], ["well", "many", "mixed", "drawn"], []⟩
def d13 : Df := ⟨"_law_common", s13, ["one", "other"], 2, [], ["one", "other"], []⟩
def d14 : Df := ⟨"_law_pair", s14, ["well", "mode", "above", "below", "share"], 1, [0], ["well", "mode", "above", "below", "share"], []⟩
def d15 : Df := ⟨"_law_said", s15, ["pair"], 1, [], ["pair"], []⟩
def d16 : Df := ⟨"_law_leaf", s16, ["well", "mode"], 1, [0], ["well", "mode"], []⟩
def d17 : Df := ⟨"_law_tree", s17, ["well", "room", "deep", "mode", "one"], 3, [0, 1], ["well", "room", "deep", "mode", "one"], []⟩
def d18 : Df := ⟨"_law_words", s18, ["tree", "kind"], 1, [], ["tree", "kind"], []⟩
def d19 : Df := ⟨"_law_chain", s19, ["well", "tree", "turn", "mode"], 1, [0], ["well", "tree", "turn", "mode"], []⟩
def d20 : Df := ⟨"_law_same", s20, ["told", "due", "kind", "spot"], 2, [], ["told", "due", "kind", "spot"], []⟩
def d21 : Df := ⟨"_law_numbers_right", s21, ["well", "fee", "said"], 1, [0], ["well", "fee", "said"], []⟩
def d22 : Df := ⟨"_law_patterns_right", s22, ["well", "tree", "said", "longer", "back"], 1, [0], ["well", "tree", "said", "longer", "back"], []⟩
def d23 : Df := ⟨"law", s23, ["script", "spot", "well", "turn"], 1, [], ["script", "spot", "well", "turn"], []⟩
def G : Pg := ⟨[d0, d1, d2, d3, d4, d5, d6, d7, d8, d9, d10, d11, d12, d13, d14, d15, d16, d17, d18, d19, d20, d21, d22, d23], [("DIGITS", .con (.str [48, 49, 50, 51, 52, 53, 54, 55, 56, 57])), ("LETTERS", .con (.str [97, 98, 99, 100, 101, 102, 103, 104, 105, 106, 107, 108, 109, 110, 111, 112, 113, 114, 115, 116, 117, 118, 119, 120, 121, 122])), ("MOST_DIGITS", .con (.int 9)), ("gcd", .bi .gcd)], ["abs", "all", "bool", "int", "isinstance", "len", "list", "max", "min", "range", "str", "tuple"]⟩

def b0 : Sts := (.cons (.mset [1, 2] (.var 0)) (.cons (.ret .val (.an (.cmp .ge (.var 2) (.con (.int 1))) (.cmp .eq (.bi .gcd (.cons .ref (.var 1) (.cons .ref (.var 2) .nil))) (.con (.int 1))))) .nil))
def b1 : Sts := (.cons (.set 1 (.ite (.mt .startswith (.var 0) (.cons .val (.con (.str [45])) .nil)) (.sl (.var 0) (.som (.con (.int 1))) .non) (.var 0))) (.cons (.ite (.orr (.cmp .eq (.var 1) (.con (.str []))) (.orr (.cmp .gt (.bi .len (.cons .ref (.var 1) .nil)) (.con (.int 9))) (.nt (.bi .all (.cons .val (.lc 2 (.ov (.var 1)) (.cmp .inn (.var 2) (.con (.str [48, 49, 50, 51, 52, 53, 54, 55, 56, 57])))) .nil))))) (.cons (.ret .val (.con .non)) .nil) .nil) (.cons (.ite (.an (.cmp .eq (.ix .ref (.var 1) (.con (.int 0))) (.con (.str [48]))) (.cmp .ne (.var 0) (.con (.str [48])))) (.cons (.ret .val (.con .non)) .nil) .nil) (.cons (.ret .val (.bi .int (.cons .ref (.var 0) .nil))) .nil))))
def b2 : Sts := (.cons (.mset [3, 4, 5] (.mt .partition (.var 0) (.cons .val (.con (.str [47])) .nil))) (.cons (.set 1 (.call 1 [] (.cons .val (.var 3) .nil) .nil [])) (.cons (.ite (.isN false (.var 1)) (.cons (.ret .val (.con .non)) .nil) .nil) (.cons (.ite (.cmp .eq (.var 4) (.con (.str []))) (.cons (.ret .val (.tup (.cons .val (.var 1) (.cons .val (.con (.int 1)) .nil)))) .nil) .nil) (.cons (.set 2 (.call 1 [] (.cons .val (.var 5) .nil) .nil [])) (.cons (.ite (.orr (.isN false (.var 2)) (.orr (.cmp .lt (.var 2) (.con (.int 2))) (.nt (.call 0 [] (.cons .val (.tup (.cons .val (.var 1) (.cons .val (.var 2) .nil))) .nil) .nil [])))) (.cons (.ret .val (.con .non)) .nil) .nil) (.cons (.ret .val (.tup (.cons .val (.var 1) (.cons .val (.var 2) .nil)))) .nil)))))))
def b3 : Sts := (.cons (.set 1 (.call 2 [] (.cons .val (.var 0) .nil) .nil [])) (.cons (.ite (.isN false (.var 1)) (.cons .nev .nil) .nil) (.cons (.ret .ref (.var 1)) .nil)))
def b4 : Sts := (.cons (.set 2 (.var 1)) (.cons (.whl (.an (.cmp .lt (.var 2) (.bi .len (.cons .ref (.var 0) .nil))) (.cmp .inn (.ix .ref (.var 0) (.var 2)) (.con (.str [45, 47, 48, 49, 50, 51, 52, 53, 54, 55, 56, 57])))) (.cons (.set 2 (.bin .add (.var 2) (.con (.int 1)))) .nil)) (.cons (.set 3 (.sl (.var 0) (.som (.var 1)) (.som (.var 2)))) (.cons (.ite (.cmp .ne (.sl (.var 0) (.som (.var 2)) (.som (.bin .add (.var 2) (.con (.int 1))))) (.con (.str [91]))) (.cons (.ite (.cmp .eq (.var 3) (.con (.str [48]))) (.cons (.ret .val (.tup (.cons .val (.tup (.cons .val (.con (.str [110, 111, 110, 101])) .nil)) (.cons .val (.var 2) .nil)))) .nil) .nil) (.cons (.ret .val (.ite (.cmp .eq (.var 3) (.con (.str [49]))) (.tup (.cons .val (.tup (.cons .val (.con (.str [101, 109, 112, 116, 121])) .nil)) (.cons .val (.var 2) .nil))) (.con .non))) .nil)) .nil) (.cons (.set 4 (.call 2 [] (.cons .val (.var 3) .nil) .nil [])) (.cons (.ite (.isN false (.var 4)) (.cons (.ret .val (.con .non)) .nil) .nil) (.cons (.set 5 (.call 7 [] (.cons .val (.var 0) (.cons .val (.bin .add (.var 2) (.con (.int 1))) .nil)) .nil [])) (.cons (.ite (.orr (.isN false (.var 5)) (.cmp .ne (.sl (.var 0) (.som (.ix .ref (.var 5) (.con (.int 1)))) (.som (.bin .add (.ix .ref (.var 5) (.con (.int 1))) (.con (.int 1))))) (.con (.str [93])))) (.cons (.ret .val (.con .non)) .nil) .nil) (.cons (.ret .val (.tup (.cons .val (.tup (.cons .val (.con (.str [119, 101, 105, 103, 104])) (.cons .val (.var 4) (.cons .val (.ix .ref (.var 5) (.con (.int 0))) .nil)))) (.cons .val (.bin .add (.ix .ref (.var 5) (.con (.int 1))) (.con (.int 1))) .nil)))) .nil)))))))))
def b5 : Sts := (.cons (.set 2 (.call 7 [] (.cons .val (.var 0) (.cons .val (.var 1) .nil)) .nil [])) (.cons (.ite (.isN false (.var 2)) (.cons (.ret .val (.con .non)) .nil) .nil) (.cons (.set 3 (.ix .ref (.var 2) (.con (.int 1)))) (.cons (.mset [5, 6] (.ite (.cmp .eq (.sl (.var 0) (.som (.var 3)) (.som (.bin .add (.var 3) (.con (.int 3))))) (.con (.str [32, 43, 32]))) (.tup (.cons .val (.con (.str [111, 114])) (.cons .val (.con (.str [32, 43, 32])) .nil))) (.tup (.cons .val (.con (.str [116, 104, 101, 110])) (.cons .val (.con (.str [32])) .nil))))) (.cons (.ite (.cmp .ne (.sl (.var 0) (.som (.var 3)) (.som (.bin .add (.var 3) (.bi .len (.cons .ref (.var 6) .nil))))) (.var 6)) (.cons (.ret .val (.con .non)) .nil) .nil) (.cons (.set 4 (.call 7 [] (.cons .val (.var 0) (.cons .val (.bin .add (.var 3) (.bi .len (.cons .ref (.var 6) .nil))) .nil)) .nil [])) (.cons (.ite (.orr (.isN false (.var 4)) (.cmp .ne (.sl (.var 0) (.som (.ix .ref (.var 4) (.con (.int 1)))) (.som (.bin .add (.ix .ref (.var 4) (.con (.int 1))) (.con (.int 1))))) (.con (.str [41])))) (.cons (.ret .val (.con .non)) .nil) .nil) (.cons (.ret .val (.tup (.cons .val (.tup (.cons .val (.var 5) (.cons .val (.ix .ref (.var 2) (.con (.int 0))) (.cons .val (.ix .ref (.var 4) (.con (.int 0))) .nil)))) (.cons .val (.bin .add (.ix .ref (.var 4) (.con (.int 1))) (.con (.int 1))) .nil)))) .nil))))))))
def b6 : Sts := (.cons (.set 2 (.sl (.var 0) (.som (.var 1)) (.som (.bin .add (.var 1) (.con (.int 1)))))) (.cons (.ite (.cmp .eq (.var 2) (.con (.str []))) (.cons (.ret .val (.con .non)) .nil) .nil) (.cons (.ite (.cmp .eq (.var 2) (.con (.str [40]))) (.cons (.ret .val (.call 5 [] (.cons .val (.var 0) (.cons .val (.bin .add (.var 1) (.con (.int 1))) .nil)) .nil [])) .nil) .nil) (.cons (.ite (.cmp .eq (.var 2) (.con (.str [46]))) (.cons (.ret .val (.tup (.cons .val (.tup (.cons .val (.con (.str [97, 110, 121])) .nil)) (.cons .val (.bin .add (.var 1) (.con (.int 1))) .nil)))) .nil) .nil) (.cons (.ite (.cmp .inn (.var 2) (.con (.str [97, 98, 99, 100, 101, 102, 103, 104, 105, 106, 107, 108, 109, 110, 111, 112, 113, 114, 115, 116, 117, 118, 119, 120, 121, 122]))) (.cons (.ret .val (.tup (.cons .val (.tup (.cons .val (.con (.str [115, 105, 103, 110])) (.cons .val (.var 2) .nil))) (.cons .val (.bin .add (.var 1) (.con (.int 1))) .nil)))) .nil) .nil) (.cons (.ret .val (.call 4 [] (.cons .val (.var 0) (.cons .val (.var 1) .nil)) .nil [])) .nil))))))
def b7 : Sts := (.cons (.set 2 (.call 6 [] (.cons .val (.var 0) (.cons .val (.var 1) .nil)) .nil [])) (.cons (.whl (.an (.isN true (.var 2)) (.cmp .eq (.sl (.var 0) (.som (.ix .ref (.var 2) (.con (.int 1)))) (.som (.bin .add (.ix .ref (.var 2) (.con (.int 1))) (.con (.int 1))))) (.con (.str [42])))) (.cons (.set 2 (.tup (.cons .val (.tup (.cons .val (.con (.str [109, 97, 110, 121])) (.cons .val (.ix .ref (.var 2) (.con (.int 0))) .nil))) (.cons .val (.bin .add (.ix .ref (.var 2) (.con (.int 1))) (.con (.int 1))) .nil)))) .nil)) (.cons (.ret .ref (.var 2)) .nil)))
def b8 : Sts := (.cons (.set 1 (.call 7 [] (.cons .val (.var 0) (.cons .val (.con (.int 0)) .nil)) .nil [])) (.cons (.ite (.orr (.isN false (.var 1)) (.cmp .ne (.ix .ref (.var 1) (.con (.int 1))) (.bi .len (.cons .ref (.var 0) .nil)))) (.cons .nev .nil) .nil) (.cons (.ret .val (.ix .ref (.var 1) (.con (.int 0)))) .nil)))
def b9 : Sts := (.cons (.mset [1, 2] (.var 0)) (.cons (.ret .val (.ite (.cmp .eq (.var 2) (.con (.int 1))) (.fs (.cons .val (.var 1) .nil)) (.fs (.cons .val (.var 1) (.cons .val (.con (.str [47])) (.cons .val (.var 2) .nil)))))) .nil))
def b10 : Sts := (.cons (.set 1 (.ix .ref (.var 0) (.con (.int 0)))) (.cons (.ite (.cmp .eq (.var 1) (.con (.str [115, 105, 103, 110]))) (.cons (.ret .val (.ix .ref (.var 0) (.con (.int 1)))) .nil) .nil) (.cons (.ite (.cmp .eq (.var 1) (.con (.str [97, 110, 121]))) (.cons (.ret .val (.con (.str [46]))) .nil) .nil) (.cons (.ite (.cmp .eq (.var 1) (.con (.str [110, 111, 110, 101]))) (.cons (.ret .val (.con (.str [48]))) .nil) .nil) (.cons (.ite (.cmp .eq (.var 1) (.con (.str [101, 109, 112, 116, 121]))) (.cons (.ret .val (.con (.str [49]))) .nil) .nil) (.cons (.ite (.cmp .eq (.var 1) (.con (.str [109, 97, 110, 121]))) (.cons (.ret .val (.bin .add (.call 10 [] (.cons .val (.ix .ref (.var 0) (.con (.int 1))) .nil) .nil []) (.con (.str [42])))) .nil) .nil) (.cons (.ite (.cmp .eq (.var 1) (.con (.str [119, 101, 105, 103, 104]))) (.cons (.ret .val (.bin .add (.bin .add (.bin .add (.call 9 [] (.cons .val (.ix .ref (.var 0) (.con (.int 1))) .nil) .nil []) (.con (.str [91]))) (.call 10 [] (.cons .val (.ix .ref (.var 0) (.con (.int 2))) .nil) .nil [])) (.con (.str [93])))) .nil) .nil) (.cons (.set 2 (.ite (.cmp .eq (.var 1) (.con (.str [111, 114]))) (.con (.str [32, 43, 32])) (.con (.str [32])))) (.cons (.ret .val (.bin .add (.bin .add (.bin .add (.bin .add (.con (.str [40])) (.call 10 [] (.cons .val (.ix .ref (.var 0) (.con (.int 1))) .nil) .nil [])) (.var 2)) (.call 10 [] (.cons .val (.ix .ref (.var 0) (.con (.int 2))) .nil) .nil [])) (.con (.str [41])))) .nil)))))))))
def b11 : Sts := (.cons (.set 2 (.ite (.cmp .lt (.var 1) (.bi .len (.cons .ref (.var 0) .nil))) (.ix .ref (.var 0) (.var 1)) (.bin .add (.bin .mul (.var 1) (.con (.int 7919))) (.bin .mul (.bi .len (.cons .ref (.var 0) .nil)) (.con (.int 104729)))))) (.cons (.ret .val (.lst (.cons .val (.bi .max (.cons .val (.con (.int 0)) (.cons .val (.bin .sub (.bi .abs (.cons .ref (.var 2) .nil)) (.bin .pow (.con (.int 10)) (.con (.int 18)))) .nil))) (.cons .val (.bin .mod (.bi .int (.cons .val (.bin .add (.bin .add (.bin .mul (.var 2) (.con (.int 48611))) (.bin .mul (.var 1) (.con (.int 6700417)))) (.con (.int 31337))) .nil)) (.bin .add (.bin .pow (.con (.int 10)) (.con (.int 24))) (.con (.int 7)))) (.cons .val (.con (.int 0)) .nil))))) .nil))
def b12 : Sts := (.cons (.ite (.cmp .gt (.ix .ref (.var 0) (.con (.int 0))) (.con (.int 0))) (.cons (.set 3 (.bin .mod (.bi .int (.cons .val (.ix .ref (.var 0) (.con (.int 0))) .nil)) (.var 1))) (.cons (.setIx 0 (.con (.int 0)) (.bin .fdiv (.ix .ref (.var 0) (.con (.int 0))) (.var 1))) (.cons (.ret .ref (.var 3)) .nil))) .nil) (.cons (.setIx 0 (.con (.int 2)) (.bin .add (.ix .ref (.var 0) (.con (.int 2))) (.con (.int 1)))) (.cons (.set 2 (.bin .mod (.bin .pow (.bi .int (.cons .val (.bin .add (.ix .ref (.var 0) (.con (.int 1))) (.bin .mul (.con (.int 1000003)) (.ix .ref (.var 0) (.con (.int 2))))) .nil)) (.con (.int 3))) (.bin .add (.bin .pow (.con (.int 10)) (.con (.int 25))) (.con (.int 13))))) (.cons (.set 2 (.bin .mod (.bin .pow (.bi .int (.cons .val (.bin .add (.var 2) (.bin .mul (.con (.int 77347)) (.ix .ref (.var 0) (.con (.int 2))))) .nil)) (.con (.int 2))) (.bin .add (.bin .pow (.con (.int 10)) (.con (.int 24))) (.con (.int 7))))) (.cons (.ret .val (.bin .mod (.bi .int (.cons .val (.bin .fdiv (.var 2) (.con (.int 4096))) .nil)) (.var 1))) .nil)))))
def b13 : Sts := (.cons (.set 0 (.bi .abs (.cons .ref (.var 0) .nil))) (.cons (.whl (.cmp .gt (.var 0) (.con (.int 0))) (.cons (.par 0 1 (.bin .mod (.bi .int (.cons .ref (.var 1) .nil)) (.var 0)) (.var 0)) .nil)) (.cons (.ret .ref (.var 1)) .nil)))
def b14 : Sts := (.cons (.set 1 (.call 12 [0] (.cons .ref (.var 0) (.cons .val (.con (.int 6)) .nil)) .nil [])) (.cons (.set 2 (.ite (.cmp .lt (.var 1) (.con (.int 2))) (.var 1) (.bin .add (.con (.int 1)) (.call 12 [0] (.cons .ref (.var 0) (.cons .val (.ix .val (.lst (.cons .val (.con (.int 9)) (.cons .val (.con (.int 99)) (.cons .val (.bin .sub (.bin .pow (.con (.int 10)) (.con (.int 9))) (.con (.int 1))) .nil)))) (.bin .fdiv (.var 1) (.con (.int 2)))) .nil)) .nil [])))) (.cons (.set 3 (.ite (.orr (.cmp .eq (.var 1) (.con (.int 0))) (.cmp .eq (.call 12 [0] (.cons .ref (.var 0) (.cons .val (.con (.int 3)) .nil)) .nil []) (.con (.int 0)))) (.con (.int 1)) (.bin .add (.con (.int 1)) (.call 12 [0] (.cons .ref (.var 0) (.cons .val (.ix .val (.lst (.cons .val (.con (.int 9)) (.cons .val (.bin .sub (.bin .pow (.con (.int 10)) (.con (.int 9))) (.con (.int 1))) .nil))) (.call 12 [0] (.cons .ref (.var 0) (.cons .val (.con (.int 2)) .nil)) .nil [])) .nil)) .nil [])))) (.cons (.ite (.cmp .eq (.call 12 [0] (.cons .ref (.var 0) (.cons .val (.con (.int 3)) .nil)) .nil []) (.con (.int 0))) (.cons (.set 2 (.neg (.var 2))) .nil) .nil) (.cons (.set 4 (.call 13 [] (.cons .val (.var 2) (.cons .val (.var 3) .nil)) .nil [])) (.cons (.ret .val (.tup (.cons .val (.bin .fdiv (.var 2) (.var 4)) (.cons .val (.bin .fdiv (.var 3) (.var 4)) .nil)))) .nil))))))
def b15 : Sts := (.cons (.ret .val (.ite (.cmp .eq (.ix .ref (.var 0) (.con (.int 1))) (.con (.int 1))) (.bi .str (.cons .val (.ix .ref (.var 0) (.con (.int 0))) .nil)) (.bin .add (.bin .add (.bi .str (.cons .val (.ix .ref (.var 0) (.con (.int 0))) .nil)) (.con (.str [47]))) (.bi .str (.cons .val (.ix .ref (.var 0) (.con (.int 1))) .nil))))) .nil)
def b16 : Sts := (.cons (.set 1 (.call 12 [0] (.cons .ref (.var 0) (.cons .val (.con (.int 6)) .nil)) .nil [])) (.cons (.ite (.cmp .lt (.var 1) (.con (.int 3))) (.cons (.ret .val (.ix .val (.lst (.cons .val (.tup (.cons .val (.con (.str [97, 110, 121])) .nil)) (.cons .val (.tup (.cons .val (.con (.str [101, 109, 112, 116, 121])) .nil)) (.cons .val (.tup (.cons .val (.con (.str [110, 111, 110, 101])) .nil)) .nil)))) (.var 1))) .nil) .nil) (.cons (.ret .val (.tup (.cons .val (.con (.str [115, 105, 103, 110])) (.cons .val (.ix .val (.con (.str [97, 98, 99, 100, 101, 102, 103, 104, 105, 106, 107, 108, 109, 110, 111, 112, 113, 114, 115, 116, 117, 118, 119, 120, 121, 122])) (.call 12 [0] (.cons .ref (.var 0) (.cons .val (.con (.int 26)) .nil)) .nil [])) .nil)))) .nil)))
def b17 : Sts := (.cons (.setIx 1 (.con (.int 0)) (.bin .sub (.ix .ref (.var 1) (.con (.int 0))) (.con (.int 1)))) (.cons (.set 3 (.call 12 [0] (.cons .ref (.var 0) (.cons .val (.con (.int 9)) .nil)) .nil [])) (.cons (.ite (.an (.cmp .gt (.var 2) (.con (.int 1))) (.an (.cmp .ge (.ix .ref (.var 1) (.con (.int 0))) (.con (.int 2))) (.cmp .lt (.var 3) (.con (.int 5))))) (.cons (.setIx 1 (.con (.int 0)) (.bin .sub (.ix .ref (.var 1) (.con (.int 0))) (.con (.int 1)))) (.cons (.set 4 (.call 17 [0, 1] (.cons .ref (.var 0) (.cons .ref (.var 1) (.cons .val (.bin .sub (.var 2) (.con (.int 1))) .nil))) .nil [])) (.cons (.setIx 1 (.con (.int 0)) (.bin .add (.ix .ref (.var 1) (.con (.int 0))) (.con (.int 1)))) (.cons (.ret .val (.tup (.cons .val (.ix .val (.lst (.cons .val (.con (.str [116, 104, 101, 110])) (.cons .val (.con (.str [111, 114])) .nil))) (.bin .mod (.bi .int (.cons .ref (.var 3) .nil)) (.con (.int 2)))) (.cons .val (.var 4) (.cons .val (.call 17 [0, 1] (.cons .ref (.var 0) (.cons .ref (.var 1) (.cons .val (.bin .sub (.var 2) (.con (.int 1))) .nil))) .nil []) .nil))))) .nil)))) .nil) (.cons (.ite (.an (.cmp .gt (.var 2) (.con (.int 1))) (.an (.cmp .ge (.ix .ref (.var 1) (.con (.int 0))) (.con (.int 1))) (.cmp .lt (.var 3) (.con (.int 7))))) (.cons (.ret .val (.tup (.cons .val (.con (.str [109, 97, 110, 121])) (.cons .val (.call 17 [0, 1] (.cons .ref (.var 0) (.cons .ref (.var 1) (.cons .val (.bin .sub (.var 2) (.con (.int 1))) .nil))) .nil []) .nil)))) .nil) .nil) (.cons (.ite (.an (.cmp .gt (.var 2) (.con (.int 1))) (.an (.cmp .ge (.ix .ref (.var 1) (.con (.int 0))) (.con (.int 2))) (.cmp .eq (.var 3) (.con (.int 7))))) (.cons (.setIx 1 (.con (.int 0)) (.bin .sub (.ix .ref (.var 1) (.con (.int 0))) (.con (.int 1)))) (.cons (.ret .val (.tup (.cons .val (.con (.str [119, 101, 105, 103, 104])) (.cons .val (.call 14 [0] (.cons .ref (.var 0) .nil) .nil []) (.cons .val (.call 17 [0, 1] (.cons .ref (.var 0) (.cons .ref (.var 1) (.cons .val (.bin .sub (.var 2) (.con (.int 1))) .nil))) .nil []) .nil))))) .nil)) .nil) (.cons (.ret .val (.call 16 [0] (.cons .ref (.var 0) .nil) .nil [])) .nil))))))
def b18 : Sts := (.cons (.set 1 (.ix .ref (.var 0) (.con (.int 0)))) (.cons (.ite (.cmp .eq (.var 1) (.con (.str [115, 105, 103, 110]))) (.cons (.ret .val (.ix .ref (.var 0) (.con (.int 1)))) .nil) .nil) (.cons (.ite (.cmp .inn (.var 1) (.tup (.cons .val (.con (.str [97, 110, 121])) (.cons .val (.con (.str [101, 109, 112, 116, 121])) (.cons .val (.con (.str [110, 111, 110, 101])) .nil))))) (.cons (.ret .val (.ix .val (.dct [.str [97, 110, 121], .str [101, 109, 112, 116, 121], .str [110, 111, 110, 101]] (.cons .val (.con (.str [46])) (.cons .val (.con (.str [49])) (.cons .val (.con (.str [48])) .nil)))) (.var 1))) .nil) .nil) (.cons (.ite (.cmp .eq (.var 1) (.con (.str [109, 97, 110, 121]))) (.cons (.ret .val (.bin .add (.call 18 [] (.cons .val (.ix .ref (.var 0) (.con (.int 1))) .nil) .nil []) (.con (.str [42])))) .nil) .nil) (.cons (.ite (.cmp .eq (.var 1) (.con (.str [119, 101, 105, 103, 104]))) (.cons (.ret .val (.bin .add (.bin .add (.bin .add (.call 15 [] (.cons .val (.ix .ref (.var 0) (.con (.int 1))) .nil) .nil []) (.con (.str [91]))) (.call 18 [] (.cons .val (.ix .ref (.var 0) (.con (.int 2))) .nil) .nil [])) (.con (.str [93])))) .nil) .nil) (.cons (.ret .val (.bin .add (.bin .add (.bin .add (.bin .add (.con (.str [40])) (.call 18 [] (.cons .val (.ix .ref (.var 0) (.con (.int 1))) .nil) .nil [])) (.ix .val (.dct [.str [116, 104, 101, 110], .str [111, 114]] (.cons .val (.con (.str [32])) (.cons .val (.con (.str [32, 43, 32])) .nil))) (.var 1))) (.call 18 [] (.cons .val (.ix .ref (.var 0) (.con (.int 2))) .nil) .nil [])) (.con (.str [41])))) .nil))))))
def b19 : Sts := (.cons (.set 1 (.call 16 [0] (.cons .ref (.var 0) .nil) .nil [])) (.cons (.for1 2 (.rng1 (.call 12 [0] (.cons .ref (.var 0) (.cons .val (.con (.int 20)) .nil)) .nil [])) (.cons (.set 3 (.call 12 [0] (.cons .ref (.var 0) (.cons .val (.con (.int 7)) .nil)) .nil [])) (.cons (.ite (.cmp .lt (.var 3) (.con (.int 2))) (.cons (.set 1 (.tup (.cons .val (.con (.str [109, 97, 110, 121])) (.cons .val (.var 1) .nil)))) .nil) (.cons (.ite (.cmp .eq (.var 3) (.con (.int 2))) (.cons (.set 1 (.tup (.cons .val (.con (.str [119, 101, 105, 103, 104])) (.cons .val (.call 14 [0] (.cons .ref (.var 0) .nil) .nil []) (.cons .val (.var 1) .nil))))) .nil) (.cons (.ite (.cmp .inn (.var 3) (.tup (.cons .val (.con (.int 3)) (.cons .val (.con (.int 4)) .nil)))) (.cons (.set 1 (.tup (.cons .val (.ix .val (.lst (.cons .val (.con (.str [116, 104, 101, 110])) (.cons .val (.con (.str [111, 114])) .nil))) (.bin .sub (.var 3) (.con (.int 3)))) (.cons .val (.var 1) (.cons .val (.call 16 [0] (.cons .ref (.var 0) .nil) .nil []) .nil))))) .nil) (.cons (.set 1 (.tup (.cons .val (.ix .val (.lst (.cons .val (.con (.str [116, 104, 101, 110])) (.cons .val (.con (.str [111, 114])) .nil))) (.bin .sub (.var 3) (.con (.int 5)))) (.cons .val (.call 16 [0] (.cons .ref (.var 0) .nil) .nil []) (.cons .val (.var 1) .nil))))) .nil)) .nil)) .nil)) .nil))) (.cons (.ret .ref (.var 1)) .nil)))
def b20 : Sts := (.cons (.ite (.orr (.isi .ref (.var 1) .tuple) (.isi .ref (.var 1) .list)) (.cons (.set 2 (.ite (.isi .ref (.var 1) .tuple) (.isi .ref (.var 0) .tuple) (.isi .ref (.var 0) .list))) (.cons (.ite (.orr (.nt (.var 2)) (.cmp .ne (.bi .len (.cons .ref (.var 0) .nil)) (.bi .len (.cons .ref (.var 1) .nil)))) (.cons (.ret .val (.con (.bl false))) .nil) .nil) (.cons (.for1 3 (.rng1 (.bi .len (.cons .ref (.var 1) .nil))) (.cons (.ite (.nt (.call 20 [] (.cons .val (.ix .ref (.var 0) (.var 3)) (.cons .val (.ix .ref (.var 1) (.var 3)) .nil)) .nil [])) (.cons (.ret .val (.con (.bl false))) .nil) .nil) .nil)) (.cons (.ret .val (.con (.bl true))) .nil)))) .nil) (.cons (.ite (.isi .ref (.var 1) .str) (.cons (.ret .val (.an (.isi .ref (.var 0) .str) (.cmp .eq (.var 0) (.var 1)))) .nil) .nil) (.cons (.ret .val (.an (.isi .ref (.var 0) .int) (.an (.nt (.isi .ref (.var 0) .bool)) (.cmp .eq (.var 0) (.var 1))))) .nil)))
def b21 : Sts := (.cons (.set 1 (.call 14 [0] (.cons .ref (.var 0) .nil) .nil [])) (.cons (.set 2 (.call 15 [] (.cons .val (.var 1) .nil) .nil [])) (.cons (.ite (.orr (.nt (.call 20 [] (.cons .val (.call 9 [] (.cons .val (.var 1) .nil) .nil []) (.cons .val (.var 2) .nil)) .nil [])) (.nt (.call 20 [] (.cons .val (.call 9 [] .nil (.cons .val (.var 1) .nil) [0]) (.cons .val (.var 2) .nil)) .nil []))) (.cons (.ret .val (.con (.bl false))) .nil) .nil) (.cons (.ret .val (.an (.call 20 [] (.cons .val (.call 3 [] (.cons .val (.var 2) .nil) .nil []) (.cons .val (.var 1) .nil)) .nil []) (.call 20 [] (.cons .val (.call 3 [] .nil (.cons .val (.var 2) .nil) [0]) (.cons .val (.var 1) .nil)) .nil []))) .nil))))
def b22 : Sts := (.cons (.set 1 (.call 17 [0, 1] (.cons .ref (.var 0) (.cons .val (.lst (.cons .val (.con (.int 10)) .nil)) (.cons .val (.con (.int 5)) .nil))) .nil [])) (.cons (.set 2 (.call 18 [] (.cons .val (.var 1) .nil) .nil [])) (.cons (.ite (.orr (.nt (.call 20 [] (.cons .val (.call 10 [] (.cons .val (.var 1) .nil) .nil []) (.cons .val (.var 2) .nil)) .nil [])) (.nt (.call 20 [] (.cons .val (.call 10 [] .nil (.cons .val (.var 1) .nil) [0]) (.cons .val (.var 2) .nil)) .nil []))) (.cons (.ret .val (.con (.bl false))) .nil) .nil) (.cons (.ite (.nt (.call 20 [] (.cons .val (.call 8 [] (.cons .val (.var 2) .nil) .nil []) (.cons .val (.var 1) .nil)) .nil [])) (.cons (.ret .val (.con (.bl false))) .nil) .nil) (.cons (.set 3 (.ite (.cmp .gt (.call 12 [0] (.cons .ref (.var 0) (.cons .val (.con (.int 3)) .nil)) .nil []) (.con (.int 0))) (.call 19 [0] (.cons .ref (.var 0) .nil) .nil []) (.call 17 [0, 1] (.cons .ref (.var 0) (.cons .val (.lst (.cons .val (.con (.int 60)) .nil)) (.cons .val (.con (.int 12)) .nil))) .nil []))) (.cons (.set 4 (.call 8 [] .nil (.cons .val (.call 18 [] (.cons .val (.var 3) .nil) .nil []) .nil) [0])) (.cons (.ret .val (.an (.call 20 [] (.cons .val (.var 4) (.cons .val (.var 3) .nil)) .nil []) (.call 20 [] (.cons .val (.call 10 [] (.cons .val (.var 4) .nil) .nil []) (.cons .val (.call 18 [] (.cons .val (.var 3) .nil) .nil []) .nil)) .nil []))) .nil)))))))
def b23 : Sts := (.cons (.for1 1 (.rng1 (.bi .max (.cons .val (.con (.int 2)) (.cons .val (.bi .min (.cons .val (.con (.int 8)) (.cons .val (.bi .len (.cons .ref (.var 0) .nil)) .nil))) .nil)))) (.cons (.set 2 (.call 11 [] (.cons .val (.var 0) (.cons .val (.var 1) .nil)) .nil [])) (.cons (.for1 3 (.rng1 (.con (.int 3))) (.cons (.ite (.orr (.nt (.call 21 [0] (.cons .ref (.var 2) .nil) .nil [])) (.nt (.call 22 [0] (.cons .ref (.var 2) .nil) .nil []))) (.cons (.ret .val (.con (.bl false))) .nil) .nil) .nil)) .nil))) (.cons (.ret .val (.con (.bl true))) .nil))
def fns : List Fn := [⟨1, [], 3, b0⟩, ⟨1, [], 3, b1⟩, ⟨1, [], 6, b2⟩, ⟨1, [], 2, b3⟩, ⟨2, [], 6, b4⟩, ⟨2, [], 7, b5⟩, ⟨2, [], 3, b6⟩, ⟨2, [], 3, b7⟩, ⟨1, [], 2, b8⟩, ⟨1, [], 3, b9⟩, ⟨1, [], 3, b10⟩, ⟨2, [], 3, b11⟩, ⟨2, [0], 4, b12⟩, ⟨2, [], 2, b13⟩, ⟨1, [0], 5, b14⟩, ⟨1, [], 1, b15⟩, ⟨1, [0], 2, b16⟩, ⟨3, [0, 1], 5, b17⟩, ⟨1, [], 2, b18⟩, ⟨1, [0], 4, b19⟩, ⟨2, [], 4, b20⟩, ⟨1, [0], 3, b21⟩, ⟨1, [0], 5, b22⟩, ⟨1, [], 4, b23⟩]
def Φ : Nat → Option Fn := fun i => fns[i]?
theorem hΦ : Rd G Φ := rd_of (fns := fns) (by decide +kernel)

end K85
namespace K85
open PySem Ev
/-! numbers in digits -/
theorem numT_nat (n : Nat) : numT (n : Int) = TL.numL n := TL.tl_num n
theorem numT_neg {n : Nat} (h : 0 < n) : numT (-(n : Int)) = 45 :: TL.numL n := by
  have e : toString (-(n : Int)) = "-" ++ toString ((n : Nat) : Int) := by
    rw [PyProof.Rows.toString_neg (n := -(n : Int)) (by omega)]
    congr 2
    omega
  unfold numT
  rw [e, PyProof.Rows.signs_ofString, String.toList_append, List.map_append, ← PyProof.Rows.signs_ofString, ← PyProof.Rows.signs_ofString]
  have : (Str.ofString "-").cps.toList = [45] := by decide +kernel
  rw [this]
  exact congrArg (45 :: ·) (TL.tl_num n)
theorem numL_head {n : Nat} : 0 < n → ∃ c r, TL.numL n = c :: r ∧ 49 ≤ c ∧ c ≤ 57 := by
  induction n using Nat.strongRecOn with
  | _ n ih =>
    intro h0
    by_cases h : n < 10
    · rw [TL.numL_lt h]
      exact ⟨_, _, rfl, by omega, by omega⟩
    · rw [TL.numL_step (by omega)]
      obtain ⟨c, r, e, h1⟩ := ih (n / 10) (by omega) (by omega)
      exact ⟨c, r ++ _, by rw [e]; rfl, h1⟩
theorem numL_cons (n : Nat) : ∃ c r, TL.numL n = c :: r ∧ 48 ≤ c ∧ c ≤ 57 ∧ (c = 48 → TL.numL n = [48]) := by
  by_cases h : 0 < n
  · obtain ⟨c, r, e, h1, h2⟩ := numL_head h
    exact ⟨c, r, e, by omega, h2, fun z => by omega⟩
  · obtain rfl : n = 0 := by omega
    have : TL.numL 0 = [48] := TL.numL_lt (by decide)
    exact ⟨48, [], this, by decide, by decide, fun _ => this⟩
def DG : List Nat := [48, 49, 50, 51, 52, 53, 54, 55, 56, 57]
theorem dg_mem {c : Nat} (h : 48 ≤ c ∧ c ≤ 57) : c ∈ DG := by
  unfold DG
  simp only [List.mem_cons, List.not_mem_nil, or_false]
  omega
/-- digits or a digits' text behind a minus -/
def Nm (i : Int) : Prop := -999999999 ≤ i ∧ i ≤ 999999999
theorem nm_cases {i : Int} (h : Nm i) : (∃ n : Nat, i = n ∧ n ≤ 999999999) ∨ ∃ n : Nat, i = -(n : Int) ∧ 0 < n ∧ n ≤ 999999999 := by
  unfold Nm at h
  by_cases h0 : 0 ≤ i
  · exact .inl ⟨i.toNat, by omega, by omega⟩
  · exact .inr ⟨(-i).toNat, by omega, by omega, by omega⟩
theorem numL_9 {n : Nat} (h : n ≤ 999999999) : (TL.numL n).length ≤ 9 := TL.numL_len (by decide) (by omega)
theorem num_10 {i : Int} (h : Nm i) : (numT i).length ≤ 10 := by
  rcases nm_cases h with ⟨n, rfl, hn⟩ | ⟨n, rfl, h0, hn⟩
  · rw [numT_nat]; exact Nat.le_trans (numL_9 hn) (by decide)
  · rw [numT_neg h0, List.length_cons]; exact Nat.succ_le_succ (numL_9 hn)
theorem num_signs {i : Int} (h : Nm i) : ∀ c ∈ numT i, c = 45 ∨ (48 ≤ c ∧ c ≤ 57) := by
  rcases nm_cases h with ⟨n, rfl, hn⟩ | ⟨n, rfl, h0, hn⟩
  · rw [numT_nat]; exact fun c hc => .inr (TL.numL_digits n c hc)
  · rw [numT_neg h0]
    intro c hc
    rcases List.mem_cons.mp hc with rfl | hc
    · exact .inl rfl
    · exact .inr (TL.numL_digits n c hc)
theorem num_ne {i : Int} (h : Nm i) : numT i ≠ [] := by
  rcases nm_cases h with ⟨n, rfl, hn⟩ | ⟨n, rfl, h0, hn⟩
  · rw [numT_nat]; exact TL.numL_ne n
  · rw [numT_neg h0]; exact List.cons_ne_nil _ _
theorem int_back {i : Int} (h : Nm i) : biG .int [.str (numT i)] = some (.int i) := by
  have hl : (numT i).length ≤ 640 := Nat.le_trans (num_10 h) (by decide)
  show (if (numT i).length ≤ 640 then (intText? (mkS (numT i))).map D.int else none) = _
  rw [if_pos hl]
  have : intText? (mkS (numT i)) = some i := by
    rcases nm_cases h with ⟨n, rfl, hn⟩ | ⟨n, rfl, h0, hn⟩
    · rw [numT_nat] at hl ⊢
      have := PySem.intText_digits (x := mkS (TL.numL n)) (TL.numL_digits n) (TL.numL_ne n) (by rw [mkS_length]; omega)
      rw [this]
      exact congrArg (fun m : Nat => some (m : Int)) (TL.numL_val n)
    · rw [numT_neg h0] at hl ⊢
      have := PySem.intText_neg (x := mkS (45 :: TL.numL n)) (cs := TL.numL n) rfl (TL.numL_digits n) (TL.numL_ne n) (by rw [mkS_length]; omega)
      rw [this]
      exact congrArg (fun m : Nat => some (-(m : Int))) (TL.numL_val n)
  rw [this]; rfl
theorem lg_nm {i : Int} (h : Nm i) : lg i < 1920 := by
  unfold lg
  have h1 : i.natAbs < 2 ^ 30 := by unfold Nm at h; omega
  by_cases h0 : i.natAbs = 0
  · rw [h0]; decide
  · have := (Nat.log2_lt h0).mpr h1
    omega
/-! whole_of -/
theorem blsF_map (f : Nat → Bool) : ∀ cs : List Nat, blsF (cs.map fun c => D.bl (f c)) = some (cs.map f)
  | [] => rfl
  | c :: cs => by
    show (blsF (cs.map fun c => D.bl (f c))).map (f c :: ·) = _
    rw [blsF_map f cs]; rfl
theorem lc_dig {cf : CF} {t d : Option D} : ∀ (cs : List Nat) (acc : List D) (x : Option D), acc.length + cs.length ≤ 16777216 →
    ∃ y, lcF (Z.gLc 2) (evE cf (.cmp .inn (.var 2) (.con (.str [48, 49, 50, 51, 52, 53, 54, 55, 56, 57])))) (cs.map fun c => .str [c]) [t, d, x] acc = .ok (acc ++ cs.map fun c => .bl (decide (c ∈ DG))) [t, d, y]
  | [], acc, x, _ => ⟨x, by rw [List.map_nil, List.map_nil, List.append_nil]; rfl⟩
  | c :: cs, acc, x, h => by
    obtain ⟨y, hy⟩ := lc_dig (cf := cf) (t := t) (d := d) cs (acc ++ [.bl (decide (c ∈ DG))]) (some (.str [c])) (by rw [List.length_append, List.length_cons] at *; simp only [List.length_nil]; omega)
    refine ⟨y, ?_⟩
    have e : evE cf (.cmp .inn (.var 2) (.con (.str [48, 49, 50, 51, 52, 53, 54, 55, 56, 57]))) (Z.gLc 2 (.str [c]) [t, d, x]) = .ok (.bl (decide (c ∈ DG))) [t, d, some (.str [c])] := by
      simp -implicitDefEqProofs only [Out.bind_ok, Out.bind_exc, Z.s_con, Z.s_var, Z.k_var, Z.s_tup, Z.s_lst, Z.s_dct, Z.s_bin, Z.s_neg, Z.s_cmp, Z.s_isN, Z.s_nt, Z.s_an, Z.s_or, Z.s_ite, Z.s_ixV, Z.s_ixR, Z.s_sl, Z.s_call, Z.s_bi, Z.s_isiV, Z.s_isiR, Z.s_mt, Z.s_fs, Z.s_lc, Z.t_con, Z.t_var, Z.t_bin, Z.t_cmp, Z.t_isN, Z.t_nt, Z.t_an, Z.t_or, Z.t_ixV, Z.t_ixR, Z.t_call, Z.t_bi, Z.t_isiV, Z.t_isiR, Z.t_mt, Z.a_nil, Z.a_val, Z.a_ref, Z.o_non, Z.o_som, Z.f_nil, Z.f_cons, Z.i_rng, Z.i_ov, Z.k_tru_b, Z.k_tru_i, Z.k_bin, Z.k_add, Z.k_sub, Z.k_mul, Z.k_fdiv, Z.k_mod, Z.k_pow, Z.k_app, Z.k_lapp, Z.k_cmp, Z.c_lt, Z.c_le, Z.c_gt, Z.c_ge, Z.c_eqi, Z.c_nei, Z.c_eqs, Z.c_nes, Z.c_ins, Z.c_int, Z.k_neg, Z.k_isN, Z.nn_0t, Z.nn_1t, Z.nn_0i, Z.nn_1i, Z.nn_0s, Z.nn_1s, Z.nn_0b, Z.nn_1b, Z.nn_0l, Z.nn_1l, Z.nn_0n, Z.nn_1n, Z.k_nt, Z.k_ntT, Z.k_an1, Z.k_an0, Z.k_anT1, Z.k_anT0, Z.k_or1, Z.k_or0, Z.k_orT1, Z.k_orT0, Z.k_ite1, Z.k_ite0, Z.k_ix, Z.k_ix2, Z.k_ixR, Z.k_ixr, Z.k_ref, Z.k_ref_i, Z.k_ref_s, Z.k_ref_b, Z.k_ref_n, Z.k_ref_t, Z.i_lst, Z.i_tup, Z.i_scr, Z.i_str, Z.i_dcs, Z.i_dci, Z.l_hit, Z.at_0, Z.at_1, Z.at_2, Z.at_3, Z.k_sl, Z.k_sl2, Z.k_sl3, Z.k_tup, Z.k_tup2, Z.k_lst, Z.k_lst2, Z.k_dct, Z.k_dct2, Z.v_nil, Z.v_cons, Z.k_pv, Z.k_c1, Z.k_c2, Z.k_c2k, Z.k_cb, Z.k_tk, Z.k_ret, Z.k_retX, Z.k_put, Z.k_putX, Z.tk_nil, Z.tk_v, Z.tk_r, Z.k_tv, Z.k_tr, Z.p_nil, Z.p_v0, Z.p_v1, Z.p_r, Z.r_nil, Z.r_in, Z.r_no, Z.k_bi, Z.pk_nil0, Z.pk_v, Z.pk_r, Z.some_bind, Z.b_lens, Z.b_lenl, Z.b_lent, Z.b_lenc, Z.b_inti, Z.b_str, Z.b_abs, Z.b_max, Z.b_min, Z.b_gcd, Z.b_all, Z.b_any, Z.k_isi, Z.k_isr, Z.k_mt, Z.k_mt2, Z.m_sw, Z.k_lc2, Z.k_a, Z.k_a2, Z.k_ar, Z.k_aref, Z.k_o, Z.k_f, Z.k_f2, Z.fm_s, Z.fm_i, Z.k_rng, Z.k_ov, Z.o_some, Z.x_nil, Z.x_cons, Z.k_sq, Z.k_sqr, Z.k_sqb, Z.k_sqc, Z.x_ex, Z.k_ex0, Z.x_set, Z.k_set, Z.x_mset, Z.k_ms, Z.k_ms2, Z.sm_nil, Z.sm_cons, Z.x_par, Z.k_par, Z.k_par2, Z.x_aug, Z.k_aug, Z.k_aug2a, Z.k_aug2s, Z.x_si, Z.k_si, Z.k_si1, Z.k_si2, Z.k_si3_0, Z.k_si3_1, Z.k_si3_2, Z.x_ret, Z.k_ret1, Z.x_retR, Z.k_retR, Z.x_retN, Z.x_if, Z.k_if1, Z.k_if0, Z.k_w0, Z.k_w1, Z.k_w2n, Z.k_w2c, Z.k_w2b, Z.k_w2r, Z.x_for, Z.fo_nil, Z.k_fon, Z.k_foc, Z.k_fob, Z.k_for2, Z.g_for, Z.g_lc, Z.x_brk, Z.x_cnt, Z.x_pas, Z.lk_0, Z.lk_S, Z.set_0, Z.set_S, Z.fz_i, Z.fz_s, Z.fz_b, Z.fz_n, Z.fz_t, Z.fz_l, Z.fz_c, Z.fl_nil, Z.fl_cons, Z.e_ret, Z.e_nx, ↓reduceIte, List.length_cons, List.length_nil, Nat.reduceAdd, Nat.reduceLeDiff, Nat.zero_le, List.mem_cons, List.not_mem_nil, or_false, or_true, false_or, true_or, Nat.reduceEqDiff, not_false_eq_true, reduceCtorEq, Option.map_some, List.cons.injEq, and_true, true_and, and_false, false_and, decide_true, decide_false, Bool.not_true, Bool.not_false, ne_eq, Nat.reduceMul, Nat.reduceSub, List.map_cons, List.map_nil, List.replicate, List.cons_append, List.nil_append, List.append_nil, List.length_append, Nat.zero_add, List.append_assoc]
      unfold DG
      simp only [List.mem_cons, List.not_mem_nil, or_false]
    rw [List.map_cons, Z.lc_cons e (by rw [List.length_cons] at h; omega), hy]
    simp
theorem all_dig {cs : List Nat} (h : ∀ c ∈ cs, 48 ≤ c ∧ c ≤ 57) : ((cs.map fun c => decide (c ∈ DG)).all id) = true := by
  rw [List.all_eq_true]
  intro b hb
  obtain ⟨c, hc, rfl⟩ := List.mem_map.mp hb
  exact decide_eq_true (dg_mem (h c hc))
theorem whole_dig (k : Nat) {t cs : List Nat} {c : Nat} {r : List Nat} {i : Int} (hd : Z.kMt (call Φ k) .startswith (.cons .val (.con (.str [45])) .nil) (.str t) [some (.str t), none, none] = .ok (.bl (decide (t ≠ cs))) [some (.str t), none, none])
    (hs : t ≠ cs → cutL t (some 1) none = cs) (ht : t.length ≤ 10) (hc : cs = c :: r) (hl : cs.length ≤ 9) (hg : ∀ c ∈ cs, 48 ≤ c ∧ c ≤ 57) (h0 : c = 48 → t = [48]) (hi : biG .int [.str t] = some (.int i)) :
    call Φ (k + 1) 1 [.str t] = .ok (.int i) [] := by
  rw [Z.run_S (fn := ⟨1, [], 3, b1⟩) rfl rfl]
  have ht2 : t.length ≤ 16777216 := Nat.le_trans ht (by decide)
  have hl2 : cs.length ≤ 16777216 := Nat.le_trans hl (by decide)
  have e1 : evE (call Φ k) (.ite (.mt .startswith (.var 0) (.cons .val (.con (.str [45])) .nil)) (.sl (.var 0) (.som (.con (.int 1))) .non) (.var 0)) [some (.str t), none, none] = .ok (.str cs) [some (.str t), none, none] := by
    rw [Z.s_ite, Z.t_mt, Z.s_var, Z.lk_0, Z.k_var, Z.fz_s, Out.bind_ok, Z.set_0, hd, Out.bind_ok, Z.k_tru_b, Out.bind_ok]
    by_cases h : t = cs
    · rw [decide_eq_false (fun z => z h)]
      simp -implicitDefEqProofs only [Out.bind_ok, Out.bind_exc, Z.s_con, Z.s_var, Z.k_var, Z.s_tup, Z.s_lst, Z.s_dct, Z.s_bin, Z.s_neg, Z.s_cmp, Z.s_isN, Z.s_nt, Z.s_an, Z.s_or, Z.s_ite, Z.s_ixV, Z.s_ixR, Z.s_sl, Z.s_call, Z.s_bi, Z.s_isiV, Z.s_isiR, Z.s_mt, Z.s_fs, Z.s_lc, Z.t_con, Z.t_var, Z.t_bin, Z.t_cmp, Z.t_isN, Z.t_nt, Z.t_an, Z.t_or, Z.t_ixV, Z.t_ixR, Z.t_call, Z.t_bi, Z.t_isiV, Z.t_isiR, Z.t_mt, Z.a_nil, Z.a_val, Z.a_ref, Z.o_non, Z.o_som, Z.f_nil, Z.f_cons, Z.i_rng, Z.i_ov, Z.k_tru_b, Z.k_tru_i, Z.k_bin, Z.k_add, Z.k_sub, Z.k_mul, Z.k_fdiv, Z.k_mod, Z.k_pow, Z.k_app, Z.k_lapp, Z.k_cmp, Z.c_lt, Z.c_le, Z.c_gt, Z.c_ge, Z.c_eqi, Z.c_nei, Z.c_eqs, Z.c_nes, Z.c_ins, Z.c_int, Z.k_neg, Z.k_isN, Z.nn_0t, Z.nn_1t, Z.nn_0i, Z.nn_1i, Z.nn_0s, Z.nn_1s, Z.nn_0b, Z.nn_1b, Z.nn_0l, Z.nn_1l, Z.nn_0n, Z.nn_1n, Z.k_nt, Z.k_ntT, Z.k_an1, Z.k_an0, Z.k_anT1, Z.k_anT0, Z.k_or1, Z.k_or0, Z.k_orT1, Z.k_orT0, Z.k_ite1, Z.k_ite0, Z.k_ix, Z.k_ix2, Z.k_ixR, Z.k_ixr, Z.k_ref, Z.k_ref_i, Z.k_ref_s, Z.k_ref_b, Z.k_ref_n, Z.k_ref_t, Z.i_lst, Z.i_tup, Z.i_scr, Z.i_str, Z.i_dcs, Z.i_dci, Z.l_hit, Z.at_0, Z.at_1, Z.at_2, Z.at_3, Z.k_sl, Z.k_sl2, Z.k_sl3, Z.k_tup, Z.k_tup2, Z.k_lst, Z.k_lst2, Z.k_dct, Z.k_dct2, Z.v_nil, Z.v_cons, Z.k_pv, Z.k_c1, Z.k_c2, Z.k_c2k, Z.k_cb, Z.k_tk, Z.k_ret, Z.k_retX, Z.k_put, Z.k_putX, Z.tk_nil, Z.tk_v, Z.tk_r, Z.k_tv, Z.k_tr, Z.p_nil, Z.p_v0, Z.p_v1, Z.p_r, Z.r_nil, Z.r_in, Z.r_no, Z.k_bi, Z.pk_nil0, Z.pk_v, Z.pk_r, Z.some_bind, Z.b_lens, Z.b_lenl, Z.b_lent, Z.b_lenc, Z.b_inti, Z.b_str, Z.b_abs, Z.b_max, Z.b_min, Z.b_gcd, Z.b_all, Z.b_any, Z.k_isi, Z.k_isr, Z.k_mt, Z.k_mt2, Z.m_sw, Z.k_lc2, Z.k_a, Z.k_a2, Z.k_ar, Z.k_aref, Z.k_o, Z.k_f, Z.k_f2, Z.fm_s, Z.fm_i, Z.k_rng, Z.k_ov, Z.o_some, Z.x_nil, Z.x_cons, Z.k_sq, Z.k_sqr, Z.k_sqb, Z.k_sqc, Z.x_ex, Z.k_ex0, Z.x_set, Z.k_set, Z.x_mset, Z.k_ms, Z.k_ms2, Z.sm_nil, Z.sm_cons, Z.x_par, Z.k_par, Z.k_par2, Z.x_aug, Z.k_aug, Z.k_aug2a, Z.k_aug2s, Z.x_si, Z.k_si, Z.k_si1, Z.k_si2, Z.k_si3_0, Z.k_si3_1, Z.k_si3_2, Z.x_ret, Z.k_ret1, Z.x_retR, Z.k_retR, Z.x_retN, Z.x_if, Z.k_if1, Z.k_if0, Z.k_w0, Z.k_w1, Z.k_w2n, Z.k_w2c, Z.k_w2b, Z.k_w2r, Z.x_for, Z.fo_nil, Z.k_fon, Z.k_foc, Z.k_fob, Z.k_for2, Z.g_for, Z.g_lc, Z.x_brk, Z.x_cnt, Z.x_pas, Z.lk_0, Z.lk_S, Z.set_0, Z.set_S, Z.fz_i, Z.fz_s, Z.fz_b, Z.fz_n, Z.fz_t, Z.fz_l, Z.fz_c, Z.fl_nil, Z.fl_cons, Z.e_ret, Z.e_nx, ↓reduceIte, List.length_cons, List.length_nil, Nat.reduceAdd, Nat.reduceLeDiff, Nat.zero_le, List.mem_cons, List.not_mem_nil, or_false, or_true, false_or, true_or, Nat.reduceEqDiff, not_false_eq_true, reduceCtorEq, Option.map_some, List.cons.injEq, and_true, true_and, and_false, false_and, decide_true, decide_false, Bool.not_true, Bool.not_false, ne_eq, Nat.reduceMul, Nat.reduceSub, List.map_cons, List.map_nil, List.replicate, List.cons_append, List.nil_append, List.append_nil, List.length_append, Nat.zero_add, List.append_assoc, h]
    · rw [decide_eq_true h]
      simp -implicitDefEqProofs only [Out.bind_ok, Out.bind_exc, Z.s_con, Z.s_var, Z.k_var, Z.s_tup, Z.s_lst, Z.s_dct, Z.s_bin, Z.s_neg, Z.s_cmp, Z.s_isN, Z.s_nt, Z.s_an, Z.s_or, Z.s_ite, Z.s_ixV, Z.s_ixR, Z.s_sl, Z.s_call, Z.s_bi, Z.s_isiV, Z.s_isiR, Z.s_mt, Z.s_fs, Z.s_lc, Z.t_con, Z.t_var, Z.t_bin, Z.t_cmp, Z.t_isN, Z.t_nt, Z.t_an, Z.t_or, Z.t_ixV, Z.t_ixR, Z.t_call, Z.t_bi, Z.t_isiV, Z.t_isiR, Z.t_mt, Z.a_nil, Z.a_val, Z.a_ref, Z.o_non, Z.o_som, Z.f_nil, Z.f_cons, Z.i_rng, Z.i_ov, Z.k_tru_b, Z.k_tru_i, Z.k_bin, Z.k_add, Z.k_sub, Z.k_mul, Z.k_fdiv, Z.k_mod, Z.k_pow, Z.k_app, Z.k_lapp, Z.k_cmp, Z.c_lt, Z.c_le, Z.c_gt, Z.c_ge, Z.c_eqi, Z.c_nei, Z.c_eqs, Z.c_nes, Z.c_ins, Z.c_int, Z.k_neg, Z.k_isN, Z.nn_0t, Z.nn_1t, Z.nn_0i, Z.nn_1i, Z.nn_0s, Z.nn_1s, Z.nn_0b, Z.nn_1b, Z.nn_0l, Z.nn_1l, Z.nn_0n, Z.nn_1n, Z.k_nt, Z.k_ntT, Z.k_an1, Z.k_an0, Z.k_anT1, Z.k_anT0, Z.k_or1, Z.k_or0, Z.k_orT1, Z.k_orT0, Z.k_ite1, Z.k_ite0, Z.k_ix, Z.k_ix2, Z.k_ixR, Z.k_ixr, Z.k_ref, Z.k_ref_i, Z.k_ref_s, Z.k_ref_b, Z.k_ref_n, Z.k_ref_t, Z.i_lst, Z.i_tup, Z.i_scr, Z.i_str, Z.i_dcs, Z.i_dci, Z.l_hit, Z.at_0, Z.at_1, Z.at_2, Z.at_3, Z.k_sl, Z.k_sl2, Z.k_sl3, Z.k_tup, Z.k_tup2, Z.k_lst, Z.k_lst2, Z.k_dct, Z.k_dct2, Z.v_nil, Z.v_cons, Z.k_pv, Z.k_c1, Z.k_c2, Z.k_c2k, Z.k_cb, Z.k_tk, Z.k_ret, Z.k_retX, Z.k_put, Z.k_putX, Z.tk_nil, Z.tk_v, Z.tk_r, Z.k_tv, Z.k_tr, Z.p_nil, Z.p_v0, Z.p_v1, Z.p_r, Z.r_nil, Z.r_in, Z.r_no, Z.k_bi, Z.pk_nil0, Z.pk_v, Z.pk_r, Z.some_bind, Z.b_lens, Z.b_lenl, Z.b_lent, Z.b_lenc, Z.b_inti, Z.b_str, Z.b_abs, Z.b_max, Z.b_min, Z.b_gcd, Z.b_all, Z.b_any, Z.k_isi, Z.k_isr, Z.k_mt, Z.k_mt2, Z.m_sw, Z.k_lc2, Z.k_a, Z.k_a2, Z.k_ar, Z.k_aref, Z.k_o, Z.k_f, Z.k_f2, Z.fm_s, Z.fm_i, Z.k_rng, Z.k_ov, Z.o_some, Z.x_nil, Z.x_cons, Z.k_sq, Z.k_sqr, Z.k_sqb, Z.k_sqc, Z.x_ex, Z.k_ex0, Z.x_set, Z.k_set, Z.x_mset, Z.k_ms, Z.k_ms2, Z.sm_nil, Z.sm_cons, Z.x_par, Z.k_par, Z.k_par2, Z.x_aug, Z.k_aug, Z.k_aug2a, Z.k_aug2s, Z.x_si, Z.k_si, Z.k_si1, Z.k_si2, Z.k_si3_0, Z.k_si3_1, Z.k_si3_2, Z.x_ret, Z.k_ret1, Z.x_retR, Z.k_retR, Z.x_retN, Z.x_if, Z.k_if1, Z.k_if0, Z.k_w0, Z.k_w1, Z.k_w2n, Z.k_w2c, Z.k_w2b, Z.k_w2r, Z.x_for, Z.fo_nil, Z.k_fon, Z.k_foc, Z.k_fob, Z.k_for2, Z.g_for, Z.g_lc, Z.x_brk, Z.x_cnt, Z.x_pas, Z.lk_0, Z.lk_S, Z.set_0, Z.set_S, Z.fz_i, Z.fz_s, Z.fz_b, Z.fz_n, Z.fz_t, Z.fz_l, Z.fz_c, Z.fl_nil, Z.fl_cons, Z.e_ret, Z.e_nx, ↓reduceIte, List.length_cons, List.length_nil, Nat.reduceAdd, Nat.reduceLeDiff, Nat.zero_le, List.mem_cons, List.not_mem_nil, or_false, or_true, false_or, true_or, Nat.reduceEqDiff, not_false_eq_true, reduceCtorEq, Option.map_some, List.cons.injEq, and_true, true_and, and_false, false_and, decide_true, decide_false, Bool.not_true, Bool.not_false, ne_eq, Nat.reduceMul, Nat.reduceSub, List.map_cons, List.map_nil, List.replicate, List.cons_append, List.nil_append, List.append_nil, List.length_append, Nat.zero_add, List.append_assoc, ht2, hs h]
  have ne : cs ≠ [] := by rw [hc]; exact List.cons_ne_nil _ _
  have ls : ¬ ((9 : Int) < (cs.length : Int)) := by omega
  have at0 : L2.atI cs 0 = some c := by rw [hc]; exact Z.at_0
  obtain ⟨y, hy⟩ := lc_dig (cf := call Φ k) (t := some (.str t)) (d := some (.str cs)) cs [] none (by simpa using hl2)
  have hb : blsF (cs.map fun c => D.bl (decide (c ∈ DG))) = some (cs.map fun c => decide (c ∈ DG)) := blsF_map _ cs
  have ha := all_dig hg
  have hit : itemsF (.str cs) = some (cs.map fun c => .str [c]) := rfl
  by_cases h48 : c = 48
  · have h2 := eq_true (h0 h48)
    simp -implicitDefEqProofs only [b1, Out.bind_ok, Out.bind_exc, Z.s_con, Z.s_var, Z.k_var, Z.s_tup, Z.s_lst, Z.s_dct, Z.s_bin, Z.s_neg, Z.s_cmp, Z.s_isN, Z.s_nt, Z.s_an, Z.s_or, Z.s_ite, Z.s_ixV, Z.s_ixR, Z.s_sl, Z.s_call, Z.s_bi, Z.s_isiV, Z.s_isiR, Z.s_mt, Z.s_fs, Z.s_lc, Z.t_con, Z.t_var, Z.t_bin, Z.t_cmp, Z.t_isN, Z.t_nt, Z.t_an, Z.t_or, Z.t_ixV, Z.t_ixR, Z.t_call, Z.t_bi, Z.t_isiV, Z.t_isiR, Z.t_mt, Z.a_nil, Z.a_val, Z.a_ref, Z.o_non, Z.o_som, Z.f_nil, Z.f_cons, Z.i_rng, Z.i_ov, Z.k_tru_b, Z.k_tru_i, Z.k_bin, Z.k_add, Z.k_sub, Z.k_mul, Z.k_fdiv, Z.k_mod, Z.k_pow, Z.k_app, Z.k_lapp, Z.k_cmp, Z.c_lt, Z.c_le, Z.c_gt, Z.c_ge, Z.c_eqi, Z.c_nei, Z.c_eqs, Z.c_nes, Z.c_ins, Z.c_int, Z.k_neg, Z.k_isN, Z.nn_0t, Z.nn_1t, Z.nn_0i, Z.nn_1i, Z.nn_0s, Z.nn_1s, Z.nn_0b, Z.nn_1b, Z.nn_0l, Z.nn_1l, Z.nn_0n, Z.nn_1n, Z.k_nt, Z.k_ntT, Z.k_an1, Z.k_an0, Z.k_anT1, Z.k_anT0, Z.k_or1, Z.k_or0, Z.k_orT1, Z.k_orT0, Z.k_ite1, Z.k_ite0, Z.k_ix, Z.k_ix2, Z.k_ixR, Z.k_ixr, Z.k_ref, Z.k_ref_i, Z.k_ref_s, Z.k_ref_b, Z.k_ref_n, Z.k_ref_t, Z.i_lst, Z.i_tup, Z.i_scr, Z.i_str, Z.i_dcs, Z.i_dci, Z.l_hit, Z.at_0, Z.at_1, Z.at_2, Z.at_3, Z.k_sl, Z.k_sl2, Z.k_sl3, Z.k_tup, Z.k_tup2, Z.k_lst, Z.k_lst2, Z.k_dct, Z.k_dct2, Z.v_nil, Z.v_cons, Z.k_pv, Z.k_c1, Z.k_c2, Z.k_c2k, Z.k_cb, Z.k_tk, Z.k_ret, Z.k_retX, Z.k_put, Z.k_putX, Z.tk_nil, Z.tk_v, Z.tk_r, Z.k_tv, Z.k_tr, Z.p_nil, Z.p_v0, Z.p_v1, Z.p_r, Z.r_nil, Z.r_in, Z.r_no, Z.k_bi, Z.pk_nil0, Z.pk_v, Z.pk_r, Z.some_bind, Z.b_lens, Z.b_lenl, Z.b_lent, Z.b_lenc, Z.b_inti, Z.b_str, Z.b_abs, Z.b_max, Z.b_min, Z.b_gcd, Z.b_all, Z.b_any, Z.k_isi, Z.k_isr, Z.k_mt, Z.k_mt2, Z.m_sw, Z.k_lc2, Z.k_a, Z.k_a2, Z.k_ar, Z.k_aref, Z.k_o, Z.k_f, Z.k_f2, Z.fm_s, Z.fm_i, Z.k_rng, Z.k_ov, Z.o_some, Z.x_nil, Z.x_cons, Z.k_sq, Z.k_sqr, Z.k_sqb, Z.k_sqc, Z.x_ex, Z.k_ex0, Z.x_set, Z.k_set, Z.x_mset, Z.k_ms, Z.k_ms2, Z.sm_nil, Z.sm_cons, Z.x_par, Z.k_par, Z.k_par2, Z.x_aug, Z.k_aug, Z.k_aug2a, Z.k_aug2s, Z.x_si, Z.k_si, Z.k_si1, Z.k_si2, Z.k_si3_0, Z.k_si3_1, Z.k_si3_2, Z.x_ret, Z.k_ret1, Z.x_retR, Z.k_retR, Z.x_retN, Z.x_if, Z.k_if1, Z.k_if0, Z.k_w0, Z.k_w1, Z.k_w2n, Z.k_w2c, Z.k_w2b, Z.k_w2r, Z.x_for, Z.fo_nil, Z.k_fon, Z.k_foc, Z.k_fob, Z.k_for2, Z.g_for, Z.g_lc, Z.x_brk, Z.x_cnt, Z.x_pas, Z.lk_0, Z.lk_S, Z.set_0, Z.set_S, Z.fz_i, Z.fz_s, Z.fz_b, Z.fz_n, Z.fz_t, Z.fz_l, Z.fz_c, Z.fl_nil, Z.fl_cons, Z.e_ret, Z.e_nx, ↓reduceIte, List.length_cons, List.length_nil, Nat.reduceAdd, Nat.reduceLeDiff, Nat.zero_le, List.mem_cons, List.not_mem_nil, or_false, or_true, false_or, true_or, Nat.reduceEqDiff, not_false_eq_true, reduceCtorEq, Option.map_some, List.cons.injEq, and_true, true_and, and_false, false_and, decide_true, decide_false, Bool.not_true, Bool.not_false, ne_eq, Nat.reduceMul, Nat.reduceSub, List.map_cons, List.map_nil, List.replicate, List.cons_append, List.nil_append, List.append_nil, List.length_append, Nat.zero_add, List.append_assoc, e1, ne, ls, hl2, ht2, hit, Z.k_lc, hy, hb, ha, at0, h48, h2, hi, List.nil_append]
  · simp -implicitDefEqProofs only [b1, Out.bind_ok, Out.bind_exc, Z.s_con, Z.s_var, Z.k_var, Z.s_tup, Z.s_lst, Z.s_dct, Z.s_bin, Z.s_neg, Z.s_cmp, Z.s_isN, Z.s_nt, Z.s_an, Z.s_or, Z.s_ite, Z.s_ixV, Z.s_ixR, Z.s_sl, Z.s_call, Z.s_bi, Z.s_isiV, Z.s_isiR, Z.s_mt, Z.s_fs, Z.s_lc, Z.t_con, Z.t_var, Z.t_bin, Z.t_cmp, Z.t_isN, Z.t_nt, Z.t_an, Z.t_or, Z.t_ixV, Z.t_ixR, Z.t_call, Z.t_bi, Z.t_isiV, Z.t_isiR, Z.t_mt, Z.a_nil, Z.a_val, Z.a_ref, Z.o_non, Z.o_som, Z.f_nil, Z.f_cons, Z.i_rng, Z.i_ov, Z.k_tru_b, Z.k_tru_i, Z.k_bin, Z.k_add, Z.k_sub, Z.k_mul, Z.k_fdiv, Z.k_mod, Z.k_pow, Z.k_app, Z.k_lapp, Z.k_cmp, Z.c_lt, Z.c_le, Z.c_gt, Z.c_ge, Z.c_eqi, Z.c_nei, Z.c_eqs, Z.c_nes, Z.c_ins, Z.c_int, Z.k_neg, Z.k_isN, Z.nn_0t, Z.nn_1t, Z.nn_0i, Z.nn_1i, Z.nn_0s, Z.nn_1s, Z.nn_0b, Z.nn_1b, Z.nn_0l, Z.nn_1l, Z.nn_0n, Z.nn_1n, Z.k_nt, Z.k_ntT, Z.k_an1, Z.k_an0, Z.k_anT1, Z.k_anT0, Z.k_or1, Z.k_or0, Z.k_orT1, Z.k_orT0, Z.k_ite1, Z.k_ite0, Z.k_ix, Z.k_ix2, Z.k_ixR, Z.k_ixr, Z.k_ref, Z.k_ref_i, Z.k_ref_s, Z.k_ref_b, Z.k_ref_n, Z.k_ref_t, Z.i_lst, Z.i_tup, Z.i_scr, Z.i_str, Z.i_dcs, Z.i_dci, Z.l_hit, Z.at_0, Z.at_1, Z.at_2, Z.at_3, Z.k_sl, Z.k_sl2, Z.k_sl3, Z.k_tup, Z.k_tup2, Z.k_lst, Z.k_lst2, Z.k_dct, Z.k_dct2, Z.v_nil, Z.v_cons, Z.k_pv, Z.k_c1, Z.k_c2, Z.k_c2k, Z.k_cb, Z.k_tk, Z.k_ret, Z.k_retX, Z.k_put, Z.k_putX, Z.tk_nil, Z.tk_v, Z.tk_r, Z.k_tv, Z.k_tr, Z.p_nil, Z.p_v0, Z.p_v1, Z.p_r, Z.r_nil, Z.r_in, Z.r_no, Z.k_bi, Z.pk_nil0, Z.pk_v, Z.pk_r, Z.some_bind, Z.b_lens, Z.b_lenl, Z.b_lent, Z.b_lenc, Z.b_inti, Z.b_str, Z.b_abs, Z.b_max, Z.b_min, Z.b_gcd, Z.b_all, Z.b_any, Z.k_isi, Z.k_isr, Z.k_mt, Z.k_mt2, Z.m_sw, Z.k_lc2, Z.k_a, Z.k_a2, Z.k_ar, Z.k_aref, Z.k_o, Z.k_f, Z.k_f2, Z.fm_s, Z.fm_i, Z.k_rng, Z.k_ov, Z.o_some, Z.x_nil, Z.x_cons, Z.k_sq, Z.k_sqr, Z.k_sqb, Z.k_sqc, Z.x_ex, Z.k_ex0, Z.x_set, Z.k_set, Z.x_mset, Z.k_ms, Z.k_ms2, Z.sm_nil, Z.sm_cons, Z.x_par, Z.k_par, Z.k_par2, Z.x_aug, Z.k_aug, Z.k_aug2a, Z.k_aug2s, Z.x_si, Z.k_si, Z.k_si1, Z.k_si2, Z.k_si3_0, Z.k_si3_1, Z.k_si3_2, Z.x_ret, Z.k_ret1, Z.x_retR, Z.k_retR, Z.x_retN, Z.x_if, Z.k_if1, Z.k_if0, Z.k_w0, Z.k_w1, Z.k_w2n, Z.k_w2c, Z.k_w2b, Z.k_w2r, Z.x_for, Z.fo_nil, Z.k_fon, Z.k_foc, Z.k_fob, Z.k_for2, Z.g_for, Z.g_lc, Z.x_brk, Z.x_cnt, Z.x_pas, Z.lk_0, Z.lk_S, Z.set_0, Z.set_S, Z.fz_i, Z.fz_s, Z.fz_b, Z.fz_n, Z.fz_t, Z.fz_l, Z.fz_c, Z.fl_nil, Z.fl_cons, Z.e_ret, Z.e_nx, ↓reduceIte, List.length_cons, List.length_nil, Nat.reduceAdd, Nat.reduceLeDiff, Nat.zero_le, List.mem_cons, List.not_mem_nil, or_false, or_true, false_or, true_or, Nat.reduceEqDiff, not_false_eq_true, reduceCtorEq, Option.map_some, List.cons.injEq, and_true, true_and, and_false, false_and, decide_true, decide_false, Bool.not_true, Bool.not_false, ne_eq, Nat.reduceMul, Nat.reduceSub, List.map_cons, List.map_nil, List.replicate, List.cons_append, List.nil_append, List.append_nil, List.length_append, Nat.zero_add, List.append_assoc, e1, ne, ls, hl2, ht2, hit, Z.k_lc, hy, hb, ha, at0, h48, hi, List.nil_append]
theorem whole_ok (k : Nat) {i : Int} (h : Nm i) : call Φ (k + 1) 1 [.str (numT i)] = .ok (.int i) [] := by
  have hb := int_back h
  have h10 := num_10 h
  rcases nm_cases h with ⟨n, rfl, hn⟩ | ⟨n, rfl, h0, hn⟩
  · rw [numT_nat] at *
    obtain ⟨c, r, e, h1, h2, h3⟩ := numL_cons n
    refine whole_dig k (cs := TL.numL n) ?_ (fun z => absurd rfl z) h10 e (numL_9 hn) (TL.numL_digits n) h3 hb
    have : TL.pre [45] (TL.numL n) = false := by
      rw [e]
      unfold TL.pre
      show ([c] == [45]) = false
      rw [beq_eq_false_iff_ne]
      intro z
      injection z with z
      omega
    simp -implicitDefEqProofs only [Out.bind_ok, Out.bind_exc, Z.s_con, Z.s_var, Z.k_var, Z.s_tup, Z.s_lst, Z.s_dct, Z.s_bin, Z.s_neg, Z.s_cmp, Z.s_isN, Z.s_nt, Z.s_an, Z.s_or, Z.s_ite, Z.s_ixV, Z.s_ixR, Z.s_sl, Z.s_call, Z.s_bi, Z.s_isiV, Z.s_isiR, Z.s_mt, Z.s_fs, Z.s_lc, Z.t_con, Z.t_var, Z.t_bin, Z.t_cmp, Z.t_isN, Z.t_nt, Z.t_an, Z.t_or, Z.t_ixV, Z.t_ixR, Z.t_call, Z.t_bi, Z.t_isiV, Z.t_isiR, Z.t_mt, Z.a_nil, Z.a_val, Z.a_ref, Z.o_non, Z.o_som, Z.f_nil, Z.f_cons, Z.i_rng, Z.i_ov, Z.k_tru_b, Z.k_tru_i, Z.k_bin, Z.k_add, Z.k_sub, Z.k_mul, Z.k_fdiv, Z.k_mod, Z.k_pow, Z.k_app, Z.k_lapp, Z.k_cmp, Z.c_lt, Z.c_le, Z.c_gt, Z.c_ge, Z.c_eqi, Z.c_nei, Z.c_eqs, Z.c_nes, Z.c_ins, Z.c_int, Z.k_neg, Z.k_isN, Z.nn_0t, Z.nn_1t, Z.nn_0i, Z.nn_1i, Z.nn_0s, Z.nn_1s, Z.nn_0b, Z.nn_1b, Z.nn_0l, Z.nn_1l, Z.nn_0n, Z.nn_1n, Z.k_nt, Z.k_ntT, Z.k_an1, Z.k_an0, Z.k_anT1, Z.k_anT0, Z.k_or1, Z.k_or0, Z.k_orT1, Z.k_orT0, Z.k_ite1, Z.k_ite0, Z.k_ix, Z.k_ix2, Z.k_ixR, Z.k_ixr, Z.k_ref, Z.k_ref_i, Z.k_ref_s, Z.k_ref_b, Z.k_ref_n, Z.k_ref_t, Z.i_lst, Z.i_tup, Z.i_scr, Z.i_str, Z.i_dcs, Z.i_dci, Z.l_hit, Z.at_0, Z.at_1, Z.at_2, Z.at_3, Z.k_sl, Z.k_sl2, Z.k_sl3, Z.k_tup, Z.k_tup2, Z.k_lst, Z.k_lst2, Z.k_dct, Z.k_dct2, Z.v_nil, Z.v_cons, Z.k_pv, Z.k_c1, Z.k_c2, Z.k_c2k, Z.k_cb, Z.k_tk, Z.k_ret, Z.k_retX, Z.k_put, Z.k_putX, Z.tk_nil, Z.tk_v, Z.tk_r, Z.k_tv, Z.k_tr, Z.p_nil, Z.p_v0, Z.p_v1, Z.p_r, Z.r_nil, Z.r_in, Z.r_no, Z.k_bi, Z.pk_nil0, Z.pk_v, Z.pk_r, Z.some_bind, Z.b_lens, Z.b_lenl, Z.b_lent, Z.b_lenc, Z.b_inti, Z.b_str, Z.b_abs, Z.b_max, Z.b_min, Z.b_gcd, Z.b_all, Z.b_any, Z.k_isi, Z.k_isr, Z.k_mt, Z.k_mt2, Z.m_sw, Z.k_lc2, Z.k_a, Z.k_a2, Z.k_ar, Z.k_aref, Z.k_o, Z.k_f, Z.k_f2, Z.fm_s, Z.fm_i, Z.k_rng, Z.k_ov, Z.o_some, Z.x_nil, Z.x_cons, Z.k_sq, Z.k_sqr, Z.k_sqb, Z.k_sqc, Z.x_ex, Z.k_ex0, Z.x_set, Z.k_set, Z.x_mset, Z.k_ms, Z.k_ms2, Z.sm_nil, Z.sm_cons, Z.x_par, Z.k_par, Z.k_par2, Z.x_aug, Z.k_aug, Z.k_aug2a, Z.k_aug2s, Z.x_si, Z.k_si, Z.k_si1, Z.k_si2, Z.k_si3_0, Z.k_si3_1, Z.k_si3_2, Z.x_ret, Z.k_ret1, Z.x_retR, Z.k_retR, Z.x_retN, Z.x_if, Z.k_if1, Z.k_if0, Z.k_w0, Z.k_w1, Z.k_w2n, Z.k_w2c, Z.k_w2b, Z.k_w2r, Z.x_for, Z.fo_nil, Z.k_fon, Z.k_foc, Z.k_fob, Z.k_for2, Z.g_for, Z.g_lc, Z.x_brk, Z.x_cnt, Z.x_pas, Z.lk_0, Z.lk_S, Z.set_0, Z.set_S, Z.fz_i, Z.fz_s, Z.fz_b, Z.fz_n, Z.fz_t, Z.fz_l, Z.fz_c, Z.fl_nil, Z.fl_cons, Z.e_ret, Z.e_nx, ↓reduceIte, List.length_cons, List.length_nil, Nat.reduceAdd, Nat.reduceLeDiff, Nat.zero_le, List.mem_cons, List.not_mem_nil, or_false, or_true, false_or, true_or, Nat.reduceEqDiff, not_false_eq_true, reduceCtorEq, Option.map_some, List.cons.injEq, and_true, true_and, and_false, false_and, decide_true, decide_false, Bool.not_true, Bool.not_false, ne_eq, Nat.reduceMul, Nat.reduceSub, List.map_cons, List.map_nil, List.replicate, List.cons_append, List.nil_append, List.append_nil, List.length_append, Nat.zero_add, List.append_assoc, this, decide_not]
  · rw [numT_neg h0] at *
    obtain ⟨c, r, e, h1, h2, h3⟩ := numL_cons n
    obtain ⟨c2, r2, e2, g1, g2⟩ := numL_head h0
    refine whole_dig k (cs := TL.numL n) ?_ (fun _ => ?_) h10 e (numL_9 hn) (TL.numL_digits n) (fun z => ?_) hb
    · have : TL.pre [45] (45 :: TL.numL n) = true := by
        unfold TL.pre
        show ([45] == [45]) = true
        rfl
      have ne : (45 :: TL.numL n) ≠ TL.numL n := fun z => by
        have := congrArg List.length z
        simp at this
      simp -implicitDefEqProofs only [Out.bind_ok, Out.bind_exc, Z.s_con, Z.s_var, Z.k_var, Z.s_tup, Z.s_lst, Z.s_dct, Z.s_bin, Z.s_neg, Z.s_cmp, Z.s_isN, Z.s_nt, Z.s_an, Z.s_or, Z.s_ite, Z.s_ixV, Z.s_ixR, Z.s_sl, Z.s_call, Z.s_bi, Z.s_isiV, Z.s_isiR, Z.s_mt, Z.s_fs, Z.s_lc, Z.t_con, Z.t_var, Z.t_bin, Z.t_cmp, Z.t_isN, Z.t_nt, Z.t_an, Z.t_or, Z.t_ixV, Z.t_ixR, Z.t_call, Z.t_bi, Z.t_isiV, Z.t_isiR, Z.t_mt, Z.a_nil, Z.a_val, Z.a_ref, Z.o_non, Z.o_som, Z.f_nil, Z.f_cons, Z.i_rng, Z.i_ov, Z.k_tru_b, Z.k_tru_i, Z.k_bin, Z.k_add, Z.k_sub, Z.k_mul, Z.k_fdiv, Z.k_mod, Z.k_pow, Z.k_app, Z.k_lapp, Z.k_cmp, Z.c_lt, Z.c_le, Z.c_gt, Z.c_ge, Z.c_eqi, Z.c_nei, Z.c_eqs, Z.c_nes, Z.c_ins, Z.c_int, Z.k_neg, Z.k_isN, Z.nn_0t, Z.nn_1t, Z.nn_0i, Z.nn_1i, Z.nn_0s, Z.nn_1s, Z.nn_0b, Z.nn_1b, Z.nn_0l, Z.nn_1l, Z.nn_0n, Z.nn_1n, Z.k_nt, Z.k_ntT, Z.k_an1, Z.k_an0, Z.k_anT1, Z.k_anT0, Z.k_or1, Z.k_or0, Z.k_orT1, Z.k_orT0, Z.k_ite1, Z.k_ite0, Z.k_ix, Z.k_ix2, Z.k_ixR, Z.k_ixr, Z.k_ref, Z.k_ref_i, Z.k_ref_s, Z.k_ref_b, Z.k_ref_n, Z.k_ref_t, Z.i_lst, Z.i_tup, Z.i_scr, Z.i_str, Z.i_dcs, Z.i_dci, Z.l_hit, Z.at_0, Z.at_1, Z.at_2, Z.at_3, Z.k_sl, Z.k_sl2, Z.k_sl3, Z.k_tup, Z.k_tup2, Z.k_lst, Z.k_lst2, Z.k_dct, Z.k_dct2, Z.v_nil, Z.v_cons, Z.k_pv, Z.k_c1, Z.k_c2, Z.k_c2k, Z.k_cb, Z.k_tk, Z.k_ret, Z.k_retX, Z.k_put, Z.k_putX, Z.tk_nil, Z.tk_v, Z.tk_r, Z.k_tv, Z.k_tr, Z.p_nil, Z.p_v0, Z.p_v1, Z.p_r, Z.r_nil, Z.r_in, Z.r_no, Z.k_bi, Z.pk_nil0, Z.pk_v, Z.pk_r, Z.some_bind, Z.b_lens, Z.b_lenl, Z.b_lent, Z.b_lenc, Z.b_inti, Z.b_str, Z.b_abs, Z.b_max, Z.b_min, Z.b_gcd, Z.b_all, Z.b_any, Z.k_isi, Z.k_isr, Z.k_mt, Z.k_mt2, Z.m_sw, Z.k_lc2, Z.k_a, Z.k_a2, Z.k_ar, Z.k_aref, Z.k_o, Z.k_f, Z.k_f2, Z.fm_s, Z.fm_i, Z.k_rng, Z.k_ov, Z.o_some, Z.x_nil, Z.x_cons, Z.k_sq, Z.k_sqr, Z.k_sqb, Z.k_sqc, Z.x_ex, Z.k_ex0, Z.x_set, Z.k_set, Z.x_mset, Z.k_ms, Z.k_ms2, Z.sm_nil, Z.sm_cons, Z.x_par, Z.k_par, Z.k_par2, Z.x_aug, Z.k_aug, Z.k_aug2a, Z.k_aug2s, Z.x_si, Z.k_si, Z.k_si1, Z.k_si2, Z.k_si3_0, Z.k_si3_1, Z.k_si3_2, Z.x_ret, Z.k_ret1, Z.x_retR, Z.k_retR, Z.x_retN, Z.x_if, Z.k_if1, Z.k_if0, Z.k_w0, Z.k_w1, Z.k_w2n, Z.k_w2c, Z.k_w2b, Z.k_w2r, Z.x_for, Z.fo_nil, Z.k_fon, Z.k_foc, Z.k_fob, Z.k_for2, Z.g_for, Z.g_lc, Z.x_brk, Z.x_cnt, Z.x_pas, Z.lk_0, Z.lk_S, Z.set_0, Z.set_S, Z.fz_i, Z.fz_s, Z.fz_b, Z.fz_n, Z.fz_t, Z.fz_l, Z.fz_c, Z.fl_nil, Z.fl_cons, Z.e_ret, Z.e_nx, ↓reduceIte, List.length_cons, List.length_nil, Nat.reduceAdd, Nat.reduceLeDiff, Nat.zero_le, List.mem_cons, List.not_mem_nil, or_false, or_true, false_or, true_or, Nat.reduceEqDiff, not_false_eq_true, reduceCtorEq, Option.map_some, List.cons.injEq, and_true, true_and, and_false, false_and, decide_true, decide_false, Bool.not_true, Bool.not_false, ne_eq, Nat.reduceMul, Nat.reduceSub, List.map_cons, List.map_nil, List.replicate, List.cons_append, List.nil_append, List.append_nil, List.length_append, Nat.zero_add, List.append_assoc, this, ne]
    · unfold cutL
      have a1 : HT.sIx (45 :: TL.numL n).length 0 (some 1) = 1 := by
        have := HT.sIx_nat (45 :: TL.numL n).length 0 1
        rw [show ((1 : Nat) : Int) = 1 from rfl] at this
        rw [this]
        simp
      rw [a1, HT.sIx_none]
      simp
    · rw [e] at e2
      injection e2 with e2
      omega
end K85

namespace K85
open PySem Ev
/-! weights: pairs of numbers, their texts -/
def Wt (x y : Int) : Prop := Nm x ∧ 1 ≤ y ∧ y ≤ 999999999 ∧ Nat.gcd x.natAbs y.natAbs = 1
theorem Wt.y {x y : Int} (h : Wt x y) : Nm y := ⟨by have := h.2.1; omega, h.2.2.1⟩
def wT (x y : Int) : List Nat := if y = 1 then numT x else numT x ++ 47 :: numT y
theorem no47 {x : Int} (h : Nm x) : 47 ∉ numT x := fun hm => by
  have := num_signs h 47 hm
  omega
theorem wT_len {x y : Int} (h : Wt x y) : (wT x y).length ≤ 21 := by
  have h1 := num_10 h.1
  have h2 := num_10 h.y
  unfold wT
  split
  · omega
  · rw [List.length_append, List.length_cons]; omega
theorem is_number_ok (k : Nat) {x y : Int} (h : Wt x y) : call Φ (k + 1) 0 [.tup [.int x, .int y]] = .ok (.bl true) [] := by
  rw [Z.run_S (fn := ⟨1, [], 3, b0⟩) rfl rfl]
  have h1 : (1 : Int) ≤ y := h.2.1
  have h2 : ((Nat.gcd x.natAbs y.natAbs : Nat) : Int) = 1 := by rw [h.2.2.2]; rfl
  simp -implicitDefEqProofs only [b0, Out.bind_ok, Out.bind_exc, Z.s_con, Z.s_var, Z.k_var, Z.s_tup, Z.s_lst, Z.s_dct, Z.s_bin, Z.s_neg, Z.s_cmp, Z.s_isN, Z.s_nt, Z.s_an, Z.s_or, Z.s_ite, Z.s_ixV, Z.s_ixR, Z.s_sl, Z.s_call, Z.s_bi, Z.s_isiV, Z.s_isiR, Z.s_mt, Z.s_fs, Z.s_lc, Z.t_con, Z.t_var, Z.t_bin, Z.t_cmp, Z.t_isN, Z.t_nt, Z.t_an, Z.t_or, Z.t_ixV, Z.t_ixR, Z.t_call, Z.t_bi, Z.t_isiV, Z.t_isiR, Z.t_mt, Z.a_nil, Z.a_val, Z.a_ref, Z.o_non, Z.o_som, Z.f_nil, Z.f_cons, Z.i_rng, Z.i_ov, Z.k_tru_b, Z.k_tru_i, Z.k_bin, Z.k_add, Z.k_sub, Z.k_mul, Z.k_fdiv, Z.k_mod, Z.k_pow, Z.k_app, Z.k_lapp, Z.k_cmp, Z.c_lt, Z.c_le, Z.c_gt, Z.c_ge, Z.c_eqi, Z.c_nei, Z.c_eqs, Z.c_nes, Z.c_ins, Z.c_int, Z.k_neg, Z.k_isN, Z.nn_0t, Z.nn_1t, Z.nn_0i, Z.nn_1i, Z.nn_0s, Z.nn_1s, Z.nn_0b, Z.nn_1b, Z.nn_0l, Z.nn_1l, Z.nn_0n, Z.nn_1n, Z.k_nt, Z.k_ntT, Z.k_an1, Z.k_an0, Z.k_anT1, Z.k_anT0, Z.k_or1, Z.k_or0, Z.k_orT1, Z.k_orT0, Z.k_ite1, Z.k_ite0, Z.k_ix, Z.k_ix2, Z.k_ixR, Z.k_ixr, Z.k_ref, Z.k_ref_i, Z.k_ref_s, Z.k_ref_b, Z.k_ref_n, Z.k_ref_t, Z.i_lst, Z.i_tup, Z.i_scr, Z.i_str, Z.i_dcs, Z.i_dci, Z.l_hit, Z.at_0, Z.at_1, Z.at_2, Z.at_3, Z.k_sl, Z.k_sl2, Z.k_sl3, Z.k_tup, Z.k_tup2, Z.k_lst, Z.k_lst2, Z.k_dct, Z.k_dct2, Z.v_nil, Z.v_cons, Z.k_pv, Z.k_c1, Z.k_c2, Z.k_c2k, Z.k_cb, Z.k_tk, Z.k_ret, Z.k_retX, Z.k_put, Z.k_putX, Z.tk_nil, Z.tk_v, Z.tk_r, Z.k_tv, Z.k_tr, Z.p_nil, Z.p_v0, Z.p_v1, Z.p_r, Z.r_nil, Z.r_in, Z.r_no, Z.k_bi, Z.pk_nil0, Z.pk_v, Z.pk_r, Z.some_bind, Z.b_lens, Z.b_lenl, Z.b_lent, Z.b_lenc, Z.b_inti, Z.b_str, Z.b_abs, Z.b_max, Z.b_min, Z.b_gcd, Z.b_all, Z.b_any, Z.k_isi, Z.k_isr, Z.k_mt, Z.k_mt2, Z.m_sw, Z.k_lc2, Z.k_a, Z.k_a2, Z.k_ar, Z.k_aref, Z.k_o, Z.k_f, Z.k_f2, Z.fm_s, Z.fm_i, Z.k_rng, Z.k_ov, Z.o_some, Z.x_nil, Z.x_cons, Z.k_sq, Z.k_sqr, Z.k_sqb, Z.k_sqc, Z.x_ex, Z.k_ex0, Z.x_set, Z.k_set, Z.x_mset, Z.k_ms, Z.k_ms2, Z.sm_nil, Z.sm_cons, Z.x_par, Z.k_par, Z.k_par2, Z.x_aug, Z.k_aug, Z.k_aug2a, Z.k_aug2s, Z.x_si, Z.k_si, Z.k_si1, Z.k_si2, Z.k_si3_0, Z.k_si3_1, Z.k_si3_2, Z.x_ret, Z.k_ret1, Z.x_retR, Z.k_retR, Z.x_retN, Z.x_if, Z.k_if1, Z.k_if0, Z.k_w0, Z.k_w1, Z.k_w2n, Z.k_w2c, Z.k_w2b, Z.k_w2r, Z.x_for, Z.fo_nil, Z.k_fon, Z.k_foc, Z.k_fob, Z.k_for2, Z.g_for, Z.g_lc, Z.x_brk, Z.x_cnt, Z.x_pas, Z.lk_0, Z.lk_S, Z.set_0, Z.set_S, Z.fz_i, Z.fz_s, Z.fz_b, Z.fz_n, Z.fz_t, Z.fz_l, Z.fz_c, Z.fl_nil, Z.fl_cons, Z.e_ret, Z.e_nx, ↓reduceIte, List.length_cons, List.length_nil, Nat.reduceAdd, Nat.reduceLeDiff, Nat.zero_le, List.mem_cons, List.not_mem_nil, or_false, or_true, false_or, true_or, Nat.reduceEqDiff, not_false_eq_true, reduceCtorEq, Option.map_some, List.cons.injEq, and_true, true_and, and_false, false_and, decide_true, decide_false, Bool.not_true, Bool.not_false, ne_eq, Nat.reduceMul, Nat.reduceSub, List.map_cons, List.map_nil, List.replicate, List.cons_append, List.nil_append, List.append_nil, List.length_append, Nat.zero_add, List.append_assoc, h1, h2]
theorem part_1 {x : Int} (h : Nm x) : mtF .partition (.str (numT x)) [.str [47]] = some (.tup [.str (numT x), .str [], .str []]) := by
  have hl : (numT x).length ≤ 16777216 := Nat.le_trans (num_10 h) (by decide)
  show (if _ ∧ _ ∧ _ then (match TL.par [47] [] (numT x) with | some (x, y) => _ | none => _) else none) = _
  rw [if_pos ⟨by decide, by decide, hl⟩, TL.par_none1 (no47 h)]
theorem part_2 {x y : Int} (h : Nm x) (h2 : Nm y) : mtF .partition (.str (numT x ++ 47 :: numT y)) [.str [47]] = some (.tup [.str (numT x), .str [47], .str (numT y)]) := by
  have hl : (numT x ++ 47 :: numT y).length ≤ 16777216 := by
    have := num_10 h
    have := num_10 h2
    rw [List.length_append, List.length_cons]; omega
  show (if _ ∧ _ ∧ _ then (match TL.par [47] [] (numT x ++ (47 :: [] ++ numT y)) with | some (x, y) => _ | none => _) else none) = _
  rw [if_pos ⟨by decide, by decide, hl⟩, TL.par_part1 (no47 h), List.nil_append]
theorem number_of_ok (k : Nat) {x y : Int} (h : Wt x y) : call Φ (k + 2) 2 [.str (wT x y)] = .ok (.tup [.int x, .int y]) [] := by
  rw [Z.run_S (fn := ⟨1, [], 6, b2⟩) rfl rfl]
  have hw := whole_ok k h.1
  have hz := whole_ok k h.y
  have hn := is_number_ok k h
  have i1 : isNonF false (.int x) = false := rfl
  have i2 : isNonF false (.int y) = false := rfl
  unfold wT
  split
  · rename_i e
    subst e
    have hp := part_1 h.1
    simp -implicitDefEqProofs only [b2, Out.bind_ok, Out.bind_exc, Z.s_con, Z.s_var, Z.k_var, Z.s_tup, Z.s_lst, Z.s_dct, Z.s_bin, Z.s_neg, Z.s_cmp, Z.s_isN, Z.s_nt, Z.s_an, Z.s_or, Z.s_ite, Z.s_ixV, Z.s_ixR, Z.s_sl, Z.s_call, Z.s_bi, Z.s_isiV, Z.s_isiR, Z.s_mt, Z.s_fs, Z.s_lc, Z.t_con, Z.t_var, Z.t_bin, Z.t_cmp, Z.t_isN, Z.t_nt, Z.t_an, Z.t_or, Z.t_ixV, Z.t_ixR, Z.t_call, Z.t_bi, Z.t_isiV, Z.t_isiR, Z.t_mt, Z.a_nil, Z.a_val, Z.a_ref, Z.o_non, Z.o_som, Z.f_nil, Z.f_cons, Z.i_rng, Z.i_ov, Z.k_tru_b, Z.k_tru_i, Z.k_bin, Z.k_add, Z.k_sub, Z.k_mul, Z.k_fdiv, Z.k_mod, Z.k_pow, Z.k_app, Z.k_lapp, Z.k_cmp, Z.c_lt, Z.c_le, Z.c_gt, Z.c_ge, Z.c_eqi, Z.c_nei, Z.c_eqs, Z.c_nes, Z.c_ins, Z.c_int, Z.k_neg, Z.k_isN, Z.nn_0t, Z.nn_1t, Z.nn_0i, Z.nn_1i, Z.nn_0s, Z.nn_1s, Z.nn_0b, Z.nn_1b, Z.nn_0l, Z.nn_1l, Z.nn_0n, Z.nn_1n, Z.k_nt, Z.k_ntT, Z.k_an1, Z.k_an0, Z.k_anT1, Z.k_anT0, Z.k_or1, Z.k_or0, Z.k_orT1, Z.k_orT0, Z.k_ite1, Z.k_ite0, Z.k_ix, Z.k_ix2, Z.k_ixR, Z.k_ixr, Z.k_ref, Z.k_ref_i, Z.k_ref_s, Z.k_ref_b, Z.k_ref_n, Z.k_ref_t, Z.i_lst, Z.i_tup, Z.i_scr, Z.i_str, Z.i_dcs, Z.i_dci, Z.l_hit, Z.at_0, Z.at_1, Z.at_2, Z.at_3, Z.k_sl, Z.k_sl2, Z.k_sl3, Z.k_tup, Z.k_tup2, Z.k_lst, Z.k_lst2, Z.k_dct, Z.k_dct2, Z.v_nil, Z.v_cons, Z.k_pv, Z.k_c1, Z.k_c2, Z.k_c2k, Z.k_cb, Z.k_tk, Z.k_ret, Z.k_retX, Z.k_put, Z.k_putX, Z.tk_nil, Z.tk_v, Z.tk_r, Z.k_tv, Z.k_tr, Z.p_nil, Z.p_v0, Z.p_v1, Z.p_r, Z.r_nil, Z.r_in, Z.r_no, Z.k_bi, Z.pk_nil0, Z.pk_v, Z.pk_r, Z.some_bind, Z.b_lens, Z.b_lenl, Z.b_lent, Z.b_lenc, Z.b_inti, Z.b_str, Z.b_abs, Z.b_max, Z.b_min, Z.b_gcd, Z.b_all, Z.b_any, Z.k_isi, Z.k_isr, Z.k_mt, Z.k_mt2, Z.m_sw, Z.k_lc2, Z.k_a, Z.k_a2, Z.k_ar, Z.k_aref, Z.k_o, Z.k_f, Z.k_f2, Z.fm_s, Z.fm_i, Z.k_rng, Z.k_ov, Z.o_some, Z.x_nil, Z.x_cons, Z.k_sq, Z.k_sqr, Z.k_sqb, Z.k_sqc, Z.x_ex, Z.k_ex0, Z.x_set, Z.k_set, Z.x_mset, Z.k_ms, Z.k_ms2, Z.sm_nil, Z.sm_cons, Z.x_par, Z.k_par, Z.k_par2, Z.x_aug, Z.k_aug, Z.k_aug2a, Z.k_aug2s, Z.x_si, Z.k_si, Z.k_si1, Z.k_si2, Z.k_si3_0, Z.k_si3_1, Z.k_si3_2, Z.x_ret, Z.k_ret1, Z.x_retR, Z.k_retR, Z.x_retN, Z.x_if, Z.k_if1, Z.k_if0, Z.k_w0, Z.k_w1, Z.k_w2n, Z.k_w2c, Z.k_w2b, Z.k_w2r, Z.x_for, Z.fo_nil, Z.k_fon, Z.k_foc, Z.k_fob, Z.k_for2, Z.g_for, Z.g_lc, Z.x_brk, Z.x_cnt, Z.x_pas, Z.lk_0, Z.lk_S, Z.set_0, Z.set_S, Z.fz_i, Z.fz_s, Z.fz_b, Z.fz_n, Z.fz_t, Z.fz_l, Z.fz_c, Z.fl_nil, Z.fl_cons, Z.e_ret, Z.e_nx, ↓reduceIte, List.length_cons, List.length_nil, Nat.reduceAdd, Nat.reduceLeDiff, Nat.zero_le, List.mem_cons, List.not_mem_nil, or_false, or_true, false_or, true_or, Nat.reduceEqDiff, not_false_eq_true, reduceCtorEq, Option.map_some, List.cons.injEq, and_true, true_and, and_false, false_and, decide_true, decide_false, Bool.not_true, Bool.not_false, ne_eq, Nat.reduceMul, Nat.reduceSub, List.map_cons, List.map_nil, List.replicate, List.cons_append, List.nil_append, List.append_nil, List.length_append, Nat.zero_add, List.append_assoc, hp, hw, i1]
  · rename_i e
    have hp := part_2 h.1 h.y
    have l2 : ¬ y < 2 := by have := h.2.1; omega
    simp -implicitDefEqProofs only [b2, Out.bind_ok, Out.bind_exc, Z.s_con, Z.s_var, Z.k_var, Z.s_tup, Z.s_lst, Z.s_dct, Z.s_bin, Z.s_neg, Z.s_cmp, Z.s_isN, Z.s_nt, Z.s_an, Z.s_or, Z.s_ite, Z.s_ixV, Z.s_ixR, Z.s_sl, Z.s_call, Z.s_bi, Z.s_isiV, Z.s_isiR, Z.s_mt, Z.s_fs, Z.s_lc, Z.t_con, Z.t_var, Z.t_bin, Z.t_cmp, Z.t_isN, Z.t_nt, Z.t_an, Z.t_or, Z.t_ixV, Z.t_ixR, Z.t_call, Z.t_bi, Z.t_isiV, Z.t_isiR, Z.t_mt, Z.a_nil, Z.a_val, Z.a_ref, Z.o_non, Z.o_som, Z.f_nil, Z.f_cons, Z.i_rng, Z.i_ov, Z.k_tru_b, Z.k_tru_i, Z.k_bin, Z.k_add, Z.k_sub, Z.k_mul, Z.k_fdiv, Z.k_mod, Z.k_pow, Z.k_app, Z.k_lapp, Z.k_cmp, Z.c_lt, Z.c_le, Z.c_gt, Z.c_ge, Z.c_eqi, Z.c_nei, Z.c_eqs, Z.c_nes, Z.c_ins, Z.c_int, Z.k_neg, Z.k_isN, Z.nn_0t, Z.nn_1t, Z.nn_0i, Z.nn_1i, Z.nn_0s, Z.nn_1s, Z.nn_0b, Z.nn_1b, Z.nn_0l, Z.nn_1l, Z.nn_0n, Z.nn_1n, Z.k_nt, Z.k_ntT, Z.k_an1, Z.k_an0, Z.k_anT1, Z.k_anT0, Z.k_or1, Z.k_or0, Z.k_orT1, Z.k_orT0, Z.k_ite1, Z.k_ite0, Z.k_ix, Z.k_ix2, Z.k_ixR, Z.k_ixr, Z.k_ref, Z.k_ref_i, Z.k_ref_s, Z.k_ref_b, Z.k_ref_n, Z.k_ref_t, Z.i_lst, Z.i_tup, Z.i_scr, Z.i_str, Z.i_dcs, Z.i_dci, Z.l_hit, Z.at_0, Z.at_1, Z.at_2, Z.at_3, Z.k_sl, Z.k_sl2, Z.k_sl3, Z.k_tup, Z.k_tup2, Z.k_lst, Z.k_lst2, Z.k_dct, Z.k_dct2, Z.v_nil, Z.v_cons, Z.k_pv, Z.k_c1, Z.k_c2, Z.k_c2k, Z.k_cb, Z.k_tk, Z.k_ret, Z.k_retX, Z.k_put, Z.k_putX, Z.tk_nil, Z.tk_v, Z.tk_r, Z.k_tv, Z.k_tr, Z.p_nil, Z.p_v0, Z.p_v1, Z.p_r, Z.r_nil, Z.r_in, Z.r_no, Z.k_bi, Z.pk_nil0, Z.pk_v, Z.pk_r, Z.some_bind, Z.b_lens, Z.b_lenl, Z.b_lent, Z.b_lenc, Z.b_inti, Z.b_str, Z.b_abs, Z.b_max, Z.b_min, Z.b_gcd, Z.b_all, Z.b_any, Z.k_isi, Z.k_isr, Z.k_mt, Z.k_mt2, Z.m_sw, Z.k_lc2, Z.k_a, Z.k_a2, Z.k_ar, Z.k_aref, Z.k_o, Z.k_f, Z.k_f2, Z.fm_s, Z.fm_i, Z.k_rng, Z.k_ov, Z.o_some, Z.x_nil, Z.x_cons, Z.k_sq, Z.k_sqr, Z.k_sqb, Z.k_sqc, Z.x_ex, Z.k_ex0, Z.x_set, Z.k_set, Z.x_mset, Z.k_ms, Z.k_ms2, Z.sm_nil, Z.sm_cons, Z.x_par, Z.k_par, Z.k_par2, Z.x_aug, Z.k_aug, Z.k_aug2a, Z.k_aug2s, Z.x_si, Z.k_si, Z.k_si1, Z.k_si2, Z.k_si3_0, Z.k_si3_1, Z.k_si3_2, Z.x_ret, Z.k_ret1, Z.x_retR, Z.k_retR, Z.x_retN, Z.x_if, Z.k_if1, Z.k_if0, Z.k_w0, Z.k_w1, Z.k_w2n, Z.k_w2c, Z.k_w2b, Z.k_w2r, Z.x_for, Z.fo_nil, Z.k_fon, Z.k_foc, Z.k_fob, Z.k_for2, Z.g_for, Z.g_lc, Z.x_brk, Z.x_cnt, Z.x_pas, Z.lk_0, Z.lk_S, Z.set_0, Z.set_S, Z.fz_i, Z.fz_s, Z.fz_b, Z.fz_n, Z.fz_t, Z.fz_l, Z.fz_c, Z.fl_nil, Z.fl_cons, Z.e_ret, Z.e_nx, ↓reduceIte, List.length_cons, List.length_nil, Nat.reduceAdd, Nat.reduceLeDiff, Nat.zero_le, List.mem_cons, List.not_mem_nil, or_false, or_true, false_or, true_or, Nat.reduceEqDiff, not_false_eq_true, reduceCtorEq, Option.map_some, List.cons.injEq, and_true, true_and, and_false, false_and, decide_true, decide_false, Bool.not_true, Bool.not_false, ne_eq, Nat.reduceMul, Nat.reduceSub, List.map_cons, List.map_nil, List.replicate, List.cons_append, List.nil_append, List.append_nil, List.length_append, Nat.zero_add, List.append_assoc, hp, hw, hz, hn, i1, i2, l2]
theorem read_number_ok (k : Nat) {x y : Int} (h : Wt x y) : call Φ (k + 3) 3 [.str (wT x y)] = .ok (.tup [.int x, .int y]) [] := by
  rw [Z.run_S (fn := ⟨1, [], 2, b3⟩) rfl rfl]
  have hn := number_of_ok k h
  have i1 : isNonF false (.tup [.int x, .int y]) = false := rfl
  simp -implicitDefEqProofs only [b3, Out.bind_ok, Out.bind_exc, Z.s_con, Z.s_var, Z.k_var, Z.s_tup, Z.s_lst, Z.s_dct, Z.s_bin, Z.s_neg, Z.s_cmp, Z.s_isN, Z.s_nt, Z.s_an, Z.s_or, Z.s_ite, Z.s_ixV, Z.s_ixR, Z.s_sl, Z.s_call, Z.s_bi, Z.s_isiV, Z.s_isiR, Z.s_mt, Z.s_fs, Z.s_lc, Z.t_con, Z.t_var, Z.t_bin, Z.t_cmp, Z.t_isN, Z.t_nt, Z.t_an, Z.t_or, Z.t_ixV, Z.t_ixR, Z.t_call, Z.t_bi, Z.t_isiV, Z.t_isiR, Z.t_mt, Z.a_nil, Z.a_val, Z.a_ref, Z.o_non, Z.o_som, Z.f_nil, Z.f_cons, Z.i_rng, Z.i_ov, Z.k_tru_b, Z.k_tru_i, Z.k_bin, Z.k_add, Z.k_sub, Z.k_mul, Z.k_fdiv, Z.k_mod, Z.k_pow, Z.k_app, Z.k_lapp, Z.k_cmp, Z.c_lt, Z.c_le, Z.c_gt, Z.c_ge, Z.c_eqi, Z.c_nei, Z.c_eqs, Z.c_nes, Z.c_ins, Z.c_int, Z.k_neg, Z.k_isN, Z.nn_0t, Z.nn_1t, Z.nn_0i, Z.nn_1i, Z.nn_0s, Z.nn_1s, Z.nn_0b, Z.nn_1b, Z.nn_0l, Z.nn_1l, Z.nn_0n, Z.nn_1n, Z.k_nt, Z.k_ntT, Z.k_an1, Z.k_an0, Z.k_anT1, Z.k_anT0, Z.k_or1, Z.k_or0, Z.k_orT1, Z.k_orT0, Z.k_ite1, Z.k_ite0, Z.k_ix, Z.k_ix2, Z.k_ixR, Z.k_ixr, Z.k_ref, Z.k_ref_i, Z.k_ref_s, Z.k_ref_b, Z.k_ref_n, Z.k_ref_t, Z.i_lst, Z.i_tup, Z.i_scr, Z.i_str, Z.i_dcs, Z.i_dci, Z.l_hit, Z.at_0, Z.at_1, Z.at_2, Z.at_3, Z.k_sl, Z.k_sl2, Z.k_sl3, Z.k_tup, Z.k_tup2, Z.k_lst, Z.k_lst2, Z.k_dct, Z.k_dct2, Z.v_nil, Z.v_cons, Z.k_pv, Z.k_c1, Z.k_c2, Z.k_c2k, Z.k_cb, Z.k_tk, Z.k_ret, Z.k_retX, Z.k_put, Z.k_putX, Z.tk_nil, Z.tk_v, Z.tk_r, Z.k_tv, Z.k_tr, Z.p_nil, Z.p_v0, Z.p_v1, Z.p_r, Z.r_nil, Z.r_in, Z.r_no, Z.k_bi, Z.pk_nil0, Z.pk_v, Z.pk_r, Z.some_bind, Z.b_lens, Z.b_lenl, Z.b_lent, Z.b_lenc, Z.b_inti, Z.b_str, Z.b_abs, Z.b_max, Z.b_min, Z.b_gcd, Z.b_all, Z.b_any, Z.k_isi, Z.k_isr, Z.k_mt, Z.k_mt2, Z.m_sw, Z.k_lc2, Z.k_a, Z.k_a2, Z.k_ar, Z.k_aref, Z.k_o, Z.k_f, Z.k_f2, Z.fm_s, Z.fm_i, Z.k_rng, Z.k_ov, Z.o_some, Z.x_nil, Z.x_cons, Z.k_sq, Z.k_sqr, Z.k_sqb, Z.k_sqc, Z.x_ex, Z.k_ex0, Z.x_set, Z.k_set, Z.x_mset, Z.k_ms, Z.k_ms2, Z.sm_nil, Z.sm_cons, Z.x_par, Z.k_par, Z.k_par2, Z.x_aug, Z.k_aug, Z.k_aug2a, Z.k_aug2s, Z.x_si, Z.k_si, Z.k_si1, Z.k_si2, Z.k_si3_0, Z.k_si3_1, Z.k_si3_2, Z.x_ret, Z.k_ret1, Z.x_retR, Z.k_retR, Z.x_retN, Z.x_if, Z.k_if1, Z.k_if0, Z.k_w0, Z.k_w1, Z.k_w2n, Z.k_w2c, Z.k_w2b, Z.k_w2r, Z.x_for, Z.fo_nil, Z.k_fon, Z.k_foc, Z.k_fob, Z.k_for2, Z.g_for, Z.g_lc, Z.x_brk, Z.x_cnt, Z.x_pas, Z.lk_0, Z.lk_S, Z.set_0, Z.set_S, Z.fz_i, Z.fz_s, Z.fz_b, Z.fz_n, Z.fz_t, Z.fz_l, Z.fz_c, Z.fl_nil, Z.fl_cons, Z.e_ret, Z.e_nx, ↓reduceIte, List.length_cons, List.length_nil, Nat.reduceAdd, Nat.reduceLeDiff, Nat.zero_le, List.mem_cons, List.not_mem_nil, or_false, or_true, false_or, true_or, Nat.reduceEqDiff, not_false_eq_true, reduceCtorEq, Option.map_some, List.cons.injEq, and_true, true_and, and_false, false_and, decide_true, decide_false, Bool.not_true, Bool.not_false, ne_eq, Nat.reduceMul, Nat.reduceSub, List.map_cons, List.map_nil, List.replicate, List.cons_append, List.nil_append, List.append_nil, List.length_append, Nat.zero_add, List.append_assoc, hn, i1]
theorem show_number_ok (k : Nat) {x y : Int} (h : Wt x y) : call Φ (k + 1) 9 [.tup [.int x, .int y]] = .ok (.str (wT x y)) [] := by
  rw [Z.run_S (fn := ⟨1, [], 3, b9⟩) rfl rfl]
  have l1 := lg_nm h.1
  have l2 := lg_nm h.y
  have n1 := num_10 h.1
  have n2 := num_10 h.y
  have n1' : (numT x).length ≤ 16777216 := Nat.le_trans n1 (by decide)
  have n3 : (numT x).length + 1 + (numT y).length ≤ 16777216 := by omega
  have n4 : (numT x).length + 1 ≤ 16777216 := by omega
  unfold wT
  by_cases e : y = 1
  · rw [if_pos e]
    simp -implicitDefEqProofs only [b9, Out.bind_ok, Out.bind_exc, Z.s_con, Z.s_var, Z.k_var, Z.s_tup, Z.s_lst, Z.s_dct, Z.s_bin, Z.s_neg, Z.s_cmp, Z.s_isN, Z.s_nt, Z.s_an, Z.s_or, Z.s_ite, Z.s_ixV, Z.s_ixR, Z.s_sl, Z.s_call, Z.s_bi, Z.s_isiV, Z.s_isiR, Z.s_mt, Z.s_fs, Z.s_lc, Z.t_con, Z.t_var, Z.t_bin, Z.t_cmp, Z.t_isN, Z.t_nt, Z.t_an, Z.t_or, Z.t_ixV, Z.t_ixR, Z.t_call, Z.t_bi, Z.t_isiV, Z.t_isiR, Z.t_mt, Z.a_nil, Z.a_val, Z.a_ref, Z.o_non, Z.o_som, Z.f_nil, Z.f_cons, Z.i_rng, Z.i_ov, Z.k_tru_b, Z.k_tru_i, Z.k_bin, Z.k_add, Z.k_sub, Z.k_mul, Z.k_fdiv, Z.k_mod, Z.k_pow, Z.k_app, Z.k_lapp, Z.k_cmp, Z.c_lt, Z.c_le, Z.c_gt, Z.c_ge, Z.c_eqi, Z.c_nei, Z.c_eqs, Z.c_nes, Z.c_ins, Z.c_int, Z.k_neg, Z.k_isN, Z.nn_0t, Z.nn_1t, Z.nn_0i, Z.nn_1i, Z.nn_0s, Z.nn_1s, Z.nn_0b, Z.nn_1b, Z.nn_0l, Z.nn_1l, Z.nn_0n, Z.nn_1n, Z.k_nt, Z.k_ntT, Z.k_an1, Z.k_an0, Z.k_anT1, Z.k_anT0, Z.k_or1, Z.k_or0, Z.k_orT1, Z.k_orT0, Z.k_ite1, Z.k_ite0, Z.k_ix, Z.k_ix2, Z.k_ixR, Z.k_ixr, Z.k_ref, Z.k_ref_i, Z.k_ref_s, Z.k_ref_b, Z.k_ref_n, Z.k_ref_t, Z.i_lst, Z.i_tup, Z.i_scr, Z.i_str, Z.i_dcs, Z.i_dci, Z.l_hit, Z.at_0, Z.at_1, Z.at_2, Z.at_3, Z.k_sl, Z.k_sl2, Z.k_sl3, Z.k_tup, Z.k_tup2, Z.k_lst, Z.k_lst2, Z.k_dct, Z.k_dct2, Z.v_nil, Z.v_cons, Z.k_pv, Z.k_c1, Z.k_c2, Z.k_c2k, Z.k_cb, Z.k_tk, Z.k_ret, Z.k_retX, Z.k_put, Z.k_putX, Z.tk_nil, Z.tk_v, Z.tk_r, Z.k_tv, Z.k_tr, Z.p_nil, Z.p_v0, Z.p_v1, Z.p_r, Z.r_nil, Z.r_in, Z.r_no, Z.k_bi, Z.pk_nil0, Z.pk_v, Z.pk_r, Z.some_bind, Z.b_lens, Z.b_lenl, Z.b_lent, Z.b_lenc, Z.b_inti, Z.b_str, Z.b_abs, Z.b_max, Z.b_min, Z.b_gcd, Z.b_all, Z.b_any, Z.k_isi, Z.k_isr, Z.k_mt, Z.k_mt2, Z.m_sw, Z.k_lc2, Z.k_a, Z.k_a2, Z.k_ar, Z.k_aref, Z.k_o, Z.k_f, Z.k_f2, Z.fm_s, Z.fm_i, Z.k_rng, Z.k_ov, Z.o_some, Z.x_nil, Z.x_cons, Z.k_sq, Z.k_sqr, Z.k_sqb, Z.k_sqc, Z.x_ex, Z.k_ex0, Z.x_set, Z.k_set, Z.x_mset, Z.k_ms, Z.k_ms2, Z.sm_nil, Z.sm_cons, Z.x_par, Z.k_par, Z.k_par2, Z.x_aug, Z.k_aug, Z.k_aug2a, Z.k_aug2s, Z.x_si, Z.k_si, Z.k_si1, Z.k_si2, Z.k_si3_0, Z.k_si3_1, Z.k_si3_2, Z.x_ret, Z.k_ret1, Z.x_retR, Z.k_retR, Z.x_retN, Z.x_if, Z.k_if1, Z.k_if0, Z.k_w0, Z.k_w1, Z.k_w2n, Z.k_w2c, Z.k_w2b, Z.k_w2r, Z.x_for, Z.fo_nil, Z.k_fon, Z.k_foc, Z.k_fob, Z.k_for2, Z.g_for, Z.g_lc, Z.x_brk, Z.x_cnt, Z.x_pas, Z.lk_0, Z.lk_S, Z.set_0, Z.set_S, Z.fz_i, Z.fz_s, Z.fz_b, Z.fz_n, Z.fz_t, Z.fz_l, Z.fz_c, Z.fl_nil, Z.fl_cons, Z.e_ret, Z.e_nx, ↓reduceIte, List.length_cons, List.length_nil, Nat.reduceAdd, Nat.reduceLeDiff, Nat.zero_le, List.mem_cons, List.not_mem_nil, or_false, or_true, false_or, true_or, Nat.reduceEqDiff, not_false_eq_true, reduceCtorEq, Option.map_some, List.cons.injEq, and_true, true_and, and_false, false_and, decide_true, decide_false, Bool.not_true, Bool.not_false, ne_eq, Nat.reduceMul, Nat.reduceSub, List.map_cons, List.map_nil, List.replicate, List.cons_append, List.nil_append, List.append_nil, List.length_append, Nat.zero_add, List.append_assoc, e, l1, n1', Nat.zero_add]
  · rw [if_neg e]
    simp -implicitDefEqProofs only [b9, Out.bind_ok, Out.bind_exc, Z.s_con, Z.s_var, Z.k_var, Z.s_tup, Z.s_lst, Z.s_dct, Z.s_bin, Z.s_neg, Z.s_cmp, Z.s_isN, Z.s_nt, Z.s_an, Z.s_or, Z.s_ite, Z.s_ixV, Z.s_ixR, Z.s_sl, Z.s_call, Z.s_bi, Z.s_isiV, Z.s_isiR, Z.s_mt, Z.s_fs, Z.s_lc, Z.t_con, Z.t_var, Z.t_bin, Z.t_cmp, Z.t_isN, Z.t_nt, Z.t_an, Z.t_or, Z.t_ixV, Z.t_ixR, Z.t_call, Z.t_bi, Z.t_isiV, Z.t_isiR, Z.t_mt, Z.a_nil, Z.a_val, Z.a_ref, Z.o_non, Z.o_som, Z.f_nil, Z.f_cons, Z.i_rng, Z.i_ov, Z.k_tru_b, Z.k_tru_i, Z.k_bin, Z.k_add, Z.k_sub, Z.k_mul, Z.k_fdiv, Z.k_mod, Z.k_pow, Z.k_app, Z.k_lapp, Z.k_cmp, Z.c_lt, Z.c_le, Z.c_gt, Z.c_ge, Z.c_eqi, Z.c_nei, Z.c_eqs, Z.c_nes, Z.c_ins, Z.c_int, Z.k_neg, Z.k_isN, Z.nn_0t, Z.nn_1t, Z.nn_0i, Z.nn_1i, Z.nn_0s, Z.nn_1s, Z.nn_0b, Z.nn_1b, Z.nn_0l, Z.nn_1l, Z.nn_0n, Z.nn_1n, Z.k_nt, Z.k_ntT, Z.k_an1, Z.k_an0, Z.k_anT1, Z.k_anT0, Z.k_or1, Z.k_or0, Z.k_orT1, Z.k_orT0, Z.k_ite1, Z.k_ite0, Z.k_ix, Z.k_ix2, Z.k_ixR, Z.k_ixr, Z.k_ref, Z.k_ref_i, Z.k_ref_s, Z.k_ref_b, Z.k_ref_n, Z.k_ref_t, Z.i_lst, Z.i_tup, Z.i_scr, Z.i_str, Z.i_dcs, Z.i_dci, Z.l_hit, Z.at_0, Z.at_1, Z.at_2, Z.at_3, Z.k_sl, Z.k_sl2, Z.k_sl3, Z.k_tup, Z.k_tup2, Z.k_lst, Z.k_lst2, Z.k_dct, Z.k_dct2, Z.v_nil, Z.v_cons, Z.k_pv, Z.k_c1, Z.k_c2, Z.k_c2k, Z.k_cb, Z.k_tk, Z.k_ret, Z.k_retX, Z.k_put, Z.k_putX, Z.tk_nil, Z.tk_v, Z.tk_r, Z.k_tv, Z.k_tr, Z.p_nil, Z.p_v0, Z.p_v1, Z.p_r, Z.r_nil, Z.r_in, Z.r_no, Z.k_bi, Z.pk_nil0, Z.pk_v, Z.pk_r, Z.some_bind, Z.b_lens, Z.b_lenl, Z.b_lent, Z.b_lenc, Z.b_inti, Z.b_str, Z.b_abs, Z.b_max, Z.b_min, Z.b_gcd, Z.b_all, Z.b_any, Z.k_isi, Z.k_isr, Z.k_mt, Z.k_mt2, Z.m_sw, Z.k_lc2, Z.k_a, Z.k_a2, Z.k_ar, Z.k_aref, Z.k_o, Z.k_f, Z.k_f2, Z.fm_s, Z.fm_i, Z.k_rng, Z.k_ov, Z.o_some, Z.x_nil, Z.x_cons, Z.k_sq, Z.k_sqr, Z.k_sqb, Z.k_sqc, Z.x_ex, Z.k_ex0, Z.x_set, Z.k_set, Z.x_mset, Z.k_ms, Z.k_ms2, Z.sm_nil, Z.sm_cons, Z.x_par, Z.k_par, Z.k_par2, Z.x_aug, Z.k_aug, Z.k_aug2a, Z.k_aug2s, Z.x_si, Z.k_si, Z.k_si1, Z.k_si2, Z.k_si3_0, Z.k_si3_1, Z.k_si3_2, Z.x_ret, Z.k_ret1, Z.x_retR, Z.k_retR, Z.x_retN, Z.x_if, Z.k_if1, Z.k_if0, Z.k_w0, Z.k_w1, Z.k_w2n, Z.k_w2c, Z.k_w2b, Z.k_w2r, Z.x_for, Z.fo_nil, Z.k_fon, Z.k_foc, Z.k_fob, Z.k_for2, Z.g_for, Z.g_lc, Z.x_brk, Z.x_cnt, Z.x_pas, Z.lk_0, Z.lk_S, Z.set_0, Z.set_S, Z.fz_i, Z.fz_s, Z.fz_b, Z.fz_n, Z.fz_t, Z.fz_l, Z.fz_c, Z.fl_nil, Z.fl_cons, Z.e_ret, Z.e_nx, ↓reduceIte, List.length_cons, List.length_nil, Nat.reduceAdd, Nat.reduceLeDiff, Nat.zero_le, List.mem_cons, List.not_mem_nil, or_false, or_true, false_or, true_or, Nat.reduceEqDiff, not_false_eq_true, reduceCtorEq, Option.map_some, List.cons.injEq, and_true, true_and, and_false, false_and, decide_true, decide_false, Bool.not_true, Bool.not_false, ne_eq, Nat.reduceMul, Nat.reduceSub, List.map_cons, List.map_nil, List.replicate, List.cons_append, List.nil_append, List.append_nil, List.length_append, Nat.zero_add, List.append_assoc, e, l1, l2, n1', Nat.zero_add, n3, n4]
theorem said_ok (k : Nat) {x y : Int} (h : Wt x y) : call Φ (k + 1) 15 [.tup [.int x, .int y]] = .ok (.str (wT x y)) [] := by
  rw [Z.run_S (fn := ⟨1, [], 1, b15⟩) rfl rfl]
  have l1 := lg_nm h.1
  have l2 := lg_nm h.y
  have n1 := num_10 h.1
  have n2 := num_10 h.y
  have n3 : (numT x).length + 1 + (numT y).length ≤ 16777216 := by omega
  have n4 : (numT x).length + 1 ≤ 16777216 := by omega
  unfold wT
  by_cases e : y = 1
  · rw [if_pos e]
    simp -implicitDefEqProofs only [b15, Out.bind_ok, Out.bind_exc, Z.s_con, Z.s_var, Z.k_var, Z.s_tup, Z.s_lst, Z.s_dct, Z.s_bin, Z.s_neg, Z.s_cmp, Z.s_isN, Z.s_nt, Z.s_an, Z.s_or, Z.s_ite, Z.s_ixV, Z.s_ixR, Z.s_sl, Z.s_call, Z.s_bi, Z.s_isiV, Z.s_isiR, Z.s_mt, Z.s_fs, Z.s_lc, Z.t_con, Z.t_var, Z.t_bin, Z.t_cmp, Z.t_isN, Z.t_nt, Z.t_an, Z.t_or, Z.t_ixV, Z.t_ixR, Z.t_call, Z.t_bi, Z.t_isiV, Z.t_isiR, Z.t_mt, Z.a_nil, Z.a_val, Z.a_ref, Z.o_non, Z.o_som, Z.f_nil, Z.f_cons, Z.i_rng, Z.i_ov, Z.k_tru_b, Z.k_tru_i, Z.k_bin, Z.k_add, Z.k_sub, Z.k_mul, Z.k_fdiv, Z.k_mod, Z.k_pow, Z.k_app, Z.k_lapp, Z.k_cmp, Z.c_lt, Z.c_le, Z.c_gt, Z.c_ge, Z.c_eqi, Z.c_nei, Z.c_eqs, Z.c_nes, Z.c_ins, Z.c_int, Z.k_neg, Z.k_isN, Z.nn_0t, Z.nn_1t, Z.nn_0i, Z.nn_1i, Z.nn_0s, Z.nn_1s, Z.nn_0b, Z.nn_1b, Z.nn_0l, Z.nn_1l, Z.nn_0n, Z.nn_1n, Z.k_nt, Z.k_ntT, Z.k_an1, Z.k_an0, Z.k_anT1, Z.k_anT0, Z.k_or1, Z.k_or0, Z.k_orT1, Z.k_orT0, Z.k_ite1, Z.k_ite0, Z.k_ix, Z.k_ix2, Z.k_ixR, Z.k_ixr, Z.k_ref, Z.k_ref_i, Z.k_ref_s, Z.k_ref_b, Z.k_ref_n, Z.k_ref_t, Z.i_lst, Z.i_tup, Z.i_scr, Z.i_str, Z.i_dcs, Z.i_dci, Z.l_hit, Z.at_0, Z.at_1, Z.at_2, Z.at_3, Z.k_sl, Z.k_sl2, Z.k_sl3, Z.k_tup, Z.k_tup2, Z.k_lst, Z.k_lst2, Z.k_dct, Z.k_dct2, Z.v_nil, Z.v_cons, Z.k_pv, Z.k_c1, Z.k_c2, Z.k_c2k, Z.k_cb, Z.k_tk, Z.k_ret, Z.k_retX, Z.k_put, Z.k_putX, Z.tk_nil, Z.tk_v, Z.tk_r, Z.k_tv, Z.k_tr, Z.p_nil, Z.p_v0, Z.p_v1, Z.p_r, Z.r_nil, Z.r_in, Z.r_no, Z.k_bi, Z.pk_nil0, Z.pk_v, Z.pk_r, Z.some_bind, Z.b_lens, Z.b_lenl, Z.b_lent, Z.b_lenc, Z.b_inti, Z.b_str, Z.b_abs, Z.b_max, Z.b_min, Z.b_gcd, Z.b_all, Z.b_any, Z.k_isi, Z.k_isr, Z.k_mt, Z.k_mt2, Z.m_sw, Z.k_lc2, Z.k_a, Z.k_a2, Z.k_ar, Z.k_aref, Z.k_o, Z.k_f, Z.k_f2, Z.fm_s, Z.fm_i, Z.k_rng, Z.k_ov, Z.o_some, Z.x_nil, Z.x_cons, Z.k_sq, Z.k_sqr, Z.k_sqb, Z.k_sqc, Z.x_ex, Z.k_ex0, Z.x_set, Z.k_set, Z.x_mset, Z.k_ms, Z.k_ms2, Z.sm_nil, Z.sm_cons, Z.x_par, Z.k_par, Z.k_par2, Z.x_aug, Z.k_aug, Z.k_aug2a, Z.k_aug2s, Z.x_si, Z.k_si, Z.k_si1, Z.k_si2, Z.k_si3_0, Z.k_si3_1, Z.k_si3_2, Z.x_ret, Z.k_ret1, Z.x_retR, Z.k_retR, Z.x_retN, Z.x_if, Z.k_if1, Z.k_if0, Z.k_w0, Z.k_w1, Z.k_w2n, Z.k_w2c, Z.k_w2b, Z.k_w2r, Z.x_for, Z.fo_nil, Z.k_fon, Z.k_foc, Z.k_fob, Z.k_for2, Z.g_for, Z.g_lc, Z.x_brk, Z.x_cnt, Z.x_pas, Z.lk_0, Z.lk_S, Z.set_0, Z.set_S, Z.fz_i, Z.fz_s, Z.fz_b, Z.fz_n, Z.fz_t, Z.fz_l, Z.fz_c, Z.fl_nil, Z.fl_cons, Z.e_ret, Z.e_nx, ↓reduceIte, List.length_cons, List.length_nil, Nat.reduceAdd, Nat.reduceLeDiff, Nat.zero_le, List.mem_cons, List.not_mem_nil, or_false, or_true, false_or, true_or, Nat.reduceEqDiff, not_false_eq_true, reduceCtorEq, Option.map_some, List.cons.injEq, and_true, true_and, and_false, false_and, decide_true, decide_false, Bool.not_true, Bool.not_false, ne_eq, Nat.reduceMul, Nat.reduceSub, List.map_cons, List.map_nil, List.replicate, List.cons_append, List.nil_append, List.append_nil, List.length_append, Nat.zero_add, List.append_assoc, e, l1]
  · rw [if_neg e]
    simp -implicitDefEqProofs only [b15, Out.bind_ok, Out.bind_exc, Z.s_con, Z.s_var, Z.k_var, Z.s_tup, Z.s_lst, Z.s_dct, Z.s_bin, Z.s_neg, Z.s_cmp, Z.s_isN, Z.s_nt, Z.s_an, Z.s_or, Z.s_ite, Z.s_ixV, Z.s_ixR, Z.s_sl, Z.s_call, Z.s_bi, Z.s_isiV, Z.s_isiR, Z.s_mt, Z.s_fs, Z.s_lc, Z.t_con, Z.t_var, Z.t_bin, Z.t_cmp, Z.t_isN, Z.t_nt, Z.t_an, Z.t_or, Z.t_ixV, Z.t_ixR, Z.t_call, Z.t_bi, Z.t_isiV, Z.t_isiR, Z.t_mt, Z.a_nil, Z.a_val, Z.a_ref, Z.o_non, Z.o_som, Z.f_nil, Z.f_cons, Z.i_rng, Z.i_ov, Z.k_tru_b, Z.k_tru_i, Z.k_bin, Z.k_add, Z.k_sub, Z.k_mul, Z.k_fdiv, Z.k_mod, Z.k_pow, Z.k_app, Z.k_lapp, Z.k_cmp, Z.c_lt, Z.c_le, Z.c_gt, Z.c_ge, Z.c_eqi, Z.c_nei, Z.c_eqs, Z.c_nes, Z.c_ins, Z.c_int, Z.k_neg, Z.k_isN, Z.nn_0t, Z.nn_1t, Z.nn_0i, Z.nn_1i, Z.nn_0s, Z.nn_1s, Z.nn_0b, Z.nn_1b, Z.nn_0l, Z.nn_1l, Z.nn_0n, Z.nn_1n, Z.k_nt, Z.k_ntT, Z.k_an1, Z.k_an0, Z.k_anT1, Z.k_anT0, Z.k_or1, Z.k_or0, Z.k_orT1, Z.k_orT0, Z.k_ite1, Z.k_ite0, Z.k_ix, Z.k_ix2, Z.k_ixR, Z.k_ixr, Z.k_ref, Z.k_ref_i, Z.k_ref_s, Z.k_ref_b, Z.k_ref_n, Z.k_ref_t, Z.i_lst, Z.i_tup, Z.i_scr, Z.i_str, Z.i_dcs, Z.i_dci, Z.l_hit, Z.at_0, Z.at_1, Z.at_2, Z.at_3, Z.k_sl, Z.k_sl2, Z.k_sl3, Z.k_tup, Z.k_tup2, Z.k_lst, Z.k_lst2, Z.k_dct, Z.k_dct2, Z.v_nil, Z.v_cons, Z.k_pv, Z.k_c1, Z.k_c2, Z.k_c2k, Z.k_cb, Z.k_tk, Z.k_ret, Z.k_retX, Z.k_put, Z.k_putX, Z.tk_nil, Z.tk_v, Z.tk_r, Z.k_tv, Z.k_tr, Z.p_nil, Z.p_v0, Z.p_v1, Z.p_r, Z.r_nil, Z.r_in, Z.r_no, Z.k_bi, Z.pk_nil0, Z.pk_v, Z.pk_r, Z.some_bind, Z.b_lens, Z.b_lenl, Z.b_lent, Z.b_lenc, Z.b_inti, Z.b_str, Z.b_abs, Z.b_max, Z.b_min, Z.b_gcd, Z.b_all, Z.b_any, Z.k_isi, Z.k_isr, Z.k_mt, Z.k_mt2, Z.m_sw, Z.k_lc2, Z.k_a, Z.k_a2, Z.k_ar, Z.k_aref, Z.k_o, Z.k_f, Z.k_f2, Z.fm_s, Z.fm_i, Z.k_rng, Z.k_ov, Z.o_some, Z.x_nil, Z.x_cons, Z.k_sq, Z.k_sqr, Z.k_sqb, Z.k_sqc, Z.x_ex, Z.k_ex0, Z.x_set, Z.k_set, Z.x_mset, Z.k_ms, Z.k_ms2, Z.sm_nil, Z.sm_cons, Z.x_par, Z.k_par, Z.k_par2, Z.x_aug, Z.k_aug, Z.k_aug2a, Z.k_aug2s, Z.x_si, Z.k_si, Z.k_si1, Z.k_si2, Z.k_si3_0, Z.k_si3_1, Z.k_si3_2, Z.x_ret, Z.k_ret1, Z.x_retR, Z.k_retR, Z.x_retN, Z.x_if, Z.k_if1, Z.k_if0, Z.k_w0, Z.k_w1, Z.k_w2n, Z.k_w2c, Z.k_w2b, Z.k_w2r, Z.x_for, Z.fo_nil, Z.k_fon, Z.k_foc, Z.k_fob, Z.k_for2, Z.g_for, Z.g_lc, Z.x_brk, Z.x_cnt, Z.x_pas, Z.lk_0, Z.lk_S, Z.set_0, Z.set_S, Z.fz_i, Z.fz_s, Z.fz_b, Z.fz_n, Z.fz_t, Z.fz_l, Z.fz_c, Z.fl_nil, Z.fl_cons, Z.e_ret, Z.e_nx, ↓reduceIte, List.length_cons, List.length_nil, Nat.reduceAdd, Nat.reduceLeDiff, Nat.zero_le, List.mem_cons, List.not_mem_nil, or_false, or_true, false_or, true_or, Nat.reduceEqDiff, not_false_eq_true, reduceCtorEq, Option.map_some, List.cons.injEq, and_true, true_and, and_false, false_and, decide_true, decide_false, Bool.not_true, Bool.not_false, ne_eq, Nat.reduceMul, Nat.reduceSub, List.map_cons, List.map_nil, List.replicate, List.cons_append, List.nil_append, List.append_nil, List.length_append, Nat.zero_add, List.append_assoc, e, l1, l2, n3, n4]
end K85

namespace K85
open PySem Ev
/-! the well -/
theorem mul_s {i j : Int} (h : i.natAbs < 2 ^ 64) : mulOk i j = true := by
  unfold mulOk
  rw [decide_eq_true h]; rfl
theorem mul_t {i j : Int} (h : j.natAbs < 2 ^ 64) : mulOk i j = true := by
  unfold mulOk
  rw [decide_eq_true h, Bool.or_true]; rfl
theorem lg_lt {i : Int} {n : Nat} (h : i.natAbs < 2 ^ n) (h0 : 0 < n) : lg i < n := by
  unfold lg
  by_cases h1 : i.natAbs = 0
  · rw [h1]; exact h0
  · exact (Nat.log2_lt h1).mpr h
theorem pow_s {i j : Int} (h : i.natAbs < 2 ^ 200) (h0 : 0 ≤ j) (h1 : j ≤ 100) : powOk i j = true := by
  have := lg_lt h (by decide)
  unfold powOk
  rw [decide_eq_true h0, Bool.true_and]
  refine decide_eq_true ?_
  have h2 : ((lg i + 1 : Nat) : Int) ≤ 200 := by omega
  have h3 : ((lg i + 1 : Nat) : Int) * j ≤ 200 * 100 := Int.mul_le_mul h2 h1 h0 (by decide)
  omega
theorem pow_b {b c m j : Int} {B : Int} (h0 : 0 ≤ b) (h1 : b < B) (h2 : 0 ≤ c) (h3 : c < 1099511627776) (hB : B ≤ 10000000000000000000000013) (hm : 0 ≤ m ∧ m ≤ 1000003) (hj : 0 ≤ j) (hj2 : j ≤ 100) : powOk (b + m * (c + 1)) j = true := by
  have k1 : 0 ≤ m * (c + 1) := Int.mul_nonneg hm.1 (by omega)
  have k2 : m * (c + 1) ≤ 1000003 * 1099511627777 := Int.mul_le_mul hm.2 (by omega) (by omega) (by decide)
  obtain ⟨z, hz⟩ : ∃ z, z = m * (c + 1) := ⟨_, rfl⟩
  rw [← hz] at k1 k2 ⊢
  exact pow_s (by omega) hj hj2
theorem div_s {j : Int} (h0 : 0 < j) (h : j.natAbs < 2 ^ 64) : divOk j = true := by
  have := lg_lt h (by decide)
  unfold divOk
  rw [decide_eq_true h0, Bool.true_and]
  exact decide_eq_true (by omega)
def Wl (n : Nat) (d : D) : Prop := ∃ a b c : Int, d = .lst true [.int a, .int b, .int c] ∧ 0 ≤ a ∧ 0 ≤ b ∧ b < 10 ^ 25 ∧ 0 ≤ c ∧ c ≤ n
theorem Wl.mono {n m : Nat} {d : D} (h : Wl n d) (hl : n ≤ m) : Wl m d := by
  obtain ⟨a, b, c, e, h1, h2, h3, h4, h5⟩ := h
  exact ⟨a, b, c, e, h1, h2, h3, h4, by omega⟩
theorem dip_1 (k : Nat) {a b c m : Int} (ha : 0 < a) (hm : 0 < m) (hd : divOk m = true) : call Φ (k + 1) 12 [.lst true [.int a, .int b, .int c], .int m] = .ok (.int (a % m)) [.lst true [.int (a / m), .int b, .int c]] := by
  rw [Z.run_S (fn := ⟨2, [0], 4, b12⟩) rfl rfl]
  simp -implicitDefEqProofs only [b12, Out.bind_ok, Out.bind_exc, Z.s_con, Z.s_var, Z.k_var, Z.s_tup, Z.s_lst, Z.s_dct, Z.s_bin, Z.s_neg, Z.s_cmp, Z.s_isN, Z.s_nt, Z.s_an, Z.s_or, Z.s_ite, Z.s_ixV, Z.s_ixR, Z.s_sl, Z.s_call, Z.s_bi, Z.s_isiV, Z.s_isiR, Z.s_mt, Z.s_fs, Z.s_lc, Z.t_con, Z.t_var, Z.t_bin, Z.t_cmp, Z.t_isN, Z.t_nt, Z.t_an, Z.t_or, Z.t_ixV, Z.t_ixR, Z.t_call, Z.t_bi, Z.t_isiV, Z.t_isiR, Z.t_mt, Z.a_nil, Z.a_val, Z.a_ref, Z.o_non, Z.o_som, Z.f_nil, Z.f_cons, Z.i_rng, Z.i_ov, Z.k_tru_b, Z.k_tru_i, Z.k_bin, Z.k_add, Z.k_sub, Z.k_mul, Z.k_fdiv, Z.k_mod, Z.k_pow, Z.k_app, Z.k_lapp, Z.k_cmp, Z.c_lt, Z.c_le, Z.c_gt, Z.c_ge, Z.c_eqi, Z.c_nei, Z.c_eqs, Z.c_nes, Z.c_ins, Z.c_int, Z.k_neg, Z.k_isN, Z.nn_0t, Z.nn_1t, Z.nn_0i, Z.nn_1i, Z.nn_0s, Z.nn_1s, Z.nn_0b, Z.nn_1b, Z.nn_0l, Z.nn_1l, Z.nn_0n, Z.nn_1n, Z.k_nt, Z.k_ntT, Z.k_an1, Z.k_an0, Z.k_anT1, Z.k_anT0, Z.k_or1, Z.k_or0, Z.k_orT1, Z.k_orT0, Z.k_ite1, Z.k_ite0, Z.k_ix, Z.k_ix2, Z.k_ixR, Z.k_ixr, Z.k_ref, Z.k_ref_i, Z.k_ref_s, Z.k_ref_b, Z.k_ref_n, Z.k_ref_t, Z.i_lst, Z.i_tup, Z.i_scr, Z.i_str, Z.i_dcs, Z.i_dci, Z.l_hit, Z.at_0, Z.at_1, Z.at_2, Z.at_3, Z.k_sl, Z.k_sl2, Z.k_sl3, Z.k_tup, Z.k_tup2, Z.k_lst, Z.k_lst2, Z.k_dct, Z.k_dct2, Z.v_nil, Z.v_cons, Z.k_pv, Z.k_c1, Z.k_c2, Z.k_c2k, Z.k_cb, Z.k_tk, Z.k_ret, Z.k_retX, Z.k_put, Z.k_putX, Z.tk_nil, Z.tk_v, Z.tk_r, Z.k_tv, Z.k_tr, Z.p_nil, Z.p_v0, Z.p_v1, Z.p_r, Z.r_nil, Z.r_in, Z.r_no, Z.k_bi, Z.pk_nil0, Z.pk_v, Z.pk_r, Z.some_bind, Z.b_lens, Z.b_lenl, Z.b_lent, Z.b_lenc, Z.b_inti, Z.b_str, Z.b_abs, Z.b_max, Z.b_min, Z.b_gcd, Z.b_all, Z.b_any, Z.k_isi, Z.k_isr, Z.k_mt, Z.k_mt2, Z.m_sw, Z.k_lc2, Z.k_a, Z.k_a2, Z.k_ar, Z.k_aref, Z.k_o, Z.k_f, Z.k_f2, Z.fm_s, Z.fm_i, Z.k_rng, Z.k_ov, Z.o_some, Z.x_nil, Z.x_cons, Z.k_sq, Z.k_sqr, Z.k_sqb, Z.k_sqc, Z.x_ex, Z.k_ex0, Z.x_set, Z.k_set, Z.x_mset, Z.k_ms, Z.k_ms2, Z.sm_nil, Z.sm_cons, Z.x_par, Z.k_par, Z.k_par2, Z.x_aug, Z.k_aug, Z.k_aug2a, Z.k_aug2s, Z.x_si, Z.k_si, Z.k_si1, Z.k_si2, Z.k_si3_0, Z.k_si3_1, Z.k_si3_2, Z.x_ret, Z.k_ret1, Z.x_retR, Z.k_retR, Z.x_retN, Z.x_if, Z.k_if1, Z.k_if0, Z.k_w0, Z.k_w1, Z.k_w2n, Z.k_w2c, Z.k_w2b, Z.k_w2r, Z.x_for, Z.fo_nil, Z.k_fon, Z.k_foc, Z.k_fob, Z.k_for2, Z.g_for, Z.g_lc, Z.x_brk, Z.x_cnt, Z.x_pas, Z.lk_0, Z.lk_S, Z.set_0, Z.set_S, Z.fz_i, Z.fz_s, Z.fz_b, Z.fz_n, Z.fz_t, Z.fz_l, Z.fz_c, Z.fl_nil, Z.fl_cons, Z.e_ret, Z.e_nx, ↓reduceIte, List.length_cons, List.length_nil, Nat.reduceAdd, Nat.reduceLeDiff, Nat.zero_le, List.mem_cons, List.not_mem_nil, or_false, or_true, false_or, true_or, Nat.reduceEqDiff, not_false_eq_true, reduceCtorEq, Option.map_some, List.cons.injEq, and_true, true_and, and_false, false_and, decide_true, decide_false, Bool.not_true, Bool.not_false, ne_eq, Nat.reduceMul, Nat.reduceSub, List.map_cons, List.map_nil, List.replicate, List.cons_append, List.nil_append, List.append_nil, List.length_append, Nat.zero_add, List.append_assoc, ha, hm, hd]
  rw [Z.e_ret1 rfl]
theorem dip_0 (k : Nat) {b c m : Int} (hb : 0 ≤ b ∧ b < 10 ^ 25) (hc : 0 ≤ c ∧ c < 2 ^ 40) (hm : 0 < m) : ∃ r, call Φ (k + 1) 12 [.lst true [.int 0, .int b, .int c], .int m] = .ok (.int (r % m)) [.lst true [.int 0, .int b, .int (c + 1)]] := by
  rw [Z.run_S (fn := ⟨2, [0], 4, b12⟩) rfl rfl]
  obtain ⟨P, hP⟩ : ∃ P : Int, P = 10 ^ Int.toNat 25 := ⟨_, rfl⟩
  obtain ⟨P', hP'⟩ : ∃ P : Int, P = 10 ^ Int.toNat 24 := ⟨_, rfl⟩
  have k25 : ∀ ρ, Z.kBin2 .pow (.int 10) (.int 25) ρ = .ok (.int P) ρ := fun ρ => by rw [hP]; exact Z.k_pow (by decide)
  have k24 : ∀ ρ, Z.kBin2 .pow (.int 10) (.int 24) ρ = .ok (.int P') ρ := fun ρ => by rw [hP']; exact Z.k_pow (by decide)
  have g3 : P + 13 = 10000000000000000000000013 := by rw [hP]; decide
  have g4 : P' + 7 = 1000000000000000000000007 := by rw [hP']; decide
  clear hP hP'
  have p1 : (0 : Int) < P + 13 := by rw [g3]; decide
  have p2 : (0 : Int) < P' + 7 := by rw [g4]; decide
  have hb2 : b < 10000000000000000000000000 := Int.lt_of_lt_of_le hb.2 (by decide)
  have hb1 := hb.1
  have hc1 := hc.1
  have hc2 : c < 1099511627776 := Int.lt_of_lt_of_le hc.2 (by decide)
  have h1 : mulOk 1000003 (c + 1) = true := mul_s (by decide)
  have h2 : powOk (b + 1000003 * (c + 1)) 3 = true := pow_b hb1 hb2 hc1 hc2 (by decide) (by decide) (by decide) (by decide)
  obtain ⟨X3, hX3⟩ : ∃ X3 : Int, ∀ ρ, Z.kBin2 .pow (.int (b + 1000003 * (c + 1))) (.int 3) ρ = .ok (.int X3) ρ := ⟨_, fun ρ => Z.k_pow h2⟩
  have h5 : mulOk 77347 (c + 1) = true := mul_s (by decide)
  have h6 : powOk (X3 % (P + 13) + 77347 * (c + 1)) 2 = true := by
    have g1 : 0 ≤ X3 % (P + 13) := Int.emod_nonneg _ (by omega)
    have g2 : X3 % (P + 13) < P + 13 := Int.emod_lt_of_pos _ p1
    exact pow_b g1 g2 hc1 hc2 (by omega) (by decide) (by decide) (by decide)
  obtain ⟨X2, hX2⟩ : ∃ X2 : Int, ∀ ρ, Z.kBin2 .pow (.int (X3 % (P + 13) + 77347 * (c + 1))) (.int 2) ρ = .ok (.int X2) ρ := ⟨_, fun ρ => Z.k_pow h6⟩
  have h9 : divOk 4096 = true := by decide
  have n0 : ¬ (0 : Int) < 0 := by decide
  simp -implicitDefEqProofs only [b12, Out.bind_ok, Out.bind_exc, Z.s_con, Z.s_var, Z.k_var, Z.s_tup, Z.s_lst, Z.s_dct, Z.s_bin, Z.s_neg, Z.s_cmp, Z.s_isN, Z.s_nt, Z.s_an, Z.s_or, Z.s_ite, Z.s_ixV, Z.s_ixR, Z.s_sl, Z.s_call, Z.s_bi, Z.s_isiV, Z.s_isiR, Z.s_mt, Z.s_fs, Z.s_lc, Z.t_con, Z.t_var, Z.t_bin, Z.t_cmp, Z.t_isN, Z.t_nt, Z.t_an, Z.t_or, Z.t_ixV, Z.t_ixR, Z.t_call, Z.t_bi, Z.t_isiV, Z.t_isiR, Z.t_mt, Z.a_nil, Z.a_val, Z.a_ref, Z.o_non, Z.o_som, Z.f_nil, Z.f_cons, Z.i_rng, Z.i_ov, Z.k_tru_b, Z.k_tru_i, Z.k_bin, Z.k_add, Z.k_sub, Z.k_mul, Z.k_fdiv, Z.k_mod, Z.k_pow, Z.k_app, Z.k_lapp, Z.k_cmp, Z.c_lt, Z.c_le, Z.c_gt, Z.c_ge, Z.c_eqi, Z.c_nei, Z.c_eqs, Z.c_nes, Z.c_ins, Z.c_int, Z.k_neg, Z.k_isN, Z.nn_0t, Z.nn_1t, Z.nn_0i, Z.nn_1i, Z.nn_0s, Z.nn_1s, Z.nn_0b, Z.nn_1b, Z.nn_0l, Z.nn_1l, Z.nn_0n, Z.nn_1n, Z.k_nt, Z.k_ntT, Z.k_an1, Z.k_an0, Z.k_anT1, Z.k_anT0, Z.k_or1, Z.k_or0, Z.k_orT1, Z.k_orT0, Z.k_ite1, Z.k_ite0, Z.k_ix, Z.k_ix2, Z.k_ixR, Z.k_ixr, Z.k_ref, Z.k_ref_i, Z.k_ref_s, Z.k_ref_b, Z.k_ref_n, Z.k_ref_t, Z.i_lst, Z.i_tup, Z.i_scr, Z.i_str, Z.i_dcs, Z.i_dci, Z.l_hit, Z.at_0, Z.at_1, Z.at_2, Z.at_3, Z.k_sl, Z.k_sl2, Z.k_sl3, Z.k_tup, Z.k_tup2, Z.k_lst, Z.k_lst2, Z.k_dct, Z.k_dct2, Z.v_nil, Z.v_cons, Z.k_pv, Z.k_c1, Z.k_c2, Z.k_c2k, Z.k_cb, Z.k_tk, Z.k_ret, Z.k_retX, Z.k_put, Z.k_putX, Z.tk_nil, Z.tk_v, Z.tk_r, Z.k_tv, Z.k_tr, Z.p_nil, Z.p_v0, Z.p_v1, Z.p_r, Z.r_nil, Z.r_in, Z.r_no, Z.k_bi, Z.pk_nil0, Z.pk_v, Z.pk_r, Z.some_bind, Z.b_lens, Z.b_lenl, Z.b_lent, Z.b_lenc, Z.b_inti, Z.b_str, Z.b_abs, Z.b_max, Z.b_min, Z.b_gcd, Z.b_all, Z.b_any, Z.k_isi, Z.k_isr, Z.k_mt, Z.k_mt2, Z.m_sw, Z.k_lc2, Z.k_a, Z.k_a2, Z.k_ar, Z.k_aref, Z.k_o, Z.k_f, Z.k_f2, Z.fm_s, Z.fm_i, Z.k_rng, Z.k_ov, Z.o_some, Z.x_nil, Z.x_cons, Z.k_sq, Z.k_sqr, Z.k_sqb, Z.k_sqc, Z.x_ex, Z.k_ex0, Z.x_set, Z.k_set, Z.x_mset, Z.k_ms, Z.k_ms2, Z.sm_nil, Z.sm_cons, Z.x_par, Z.k_par, Z.k_par2, Z.x_aug, Z.k_aug, Z.k_aug2a, Z.k_aug2s, Z.x_si, Z.k_si, Z.k_si1, Z.k_si2, Z.k_si3_0, Z.k_si3_1, Z.k_si3_2, Z.x_ret, Z.k_ret1, Z.x_retR, Z.k_retR, Z.x_retN, Z.x_if, Z.k_if1, Z.k_if0, Z.k_w0, Z.k_w1, Z.k_w2n, Z.k_w2c, Z.k_w2b, Z.k_w2r, Z.x_for, Z.fo_nil, Z.k_fon, Z.k_foc, Z.k_fob, Z.k_for2, Z.g_for, Z.g_lc, Z.x_brk, Z.x_cnt, Z.x_pas, Z.lk_0, Z.lk_S, Z.set_0, Z.set_S, Z.fz_i, Z.fz_s, Z.fz_b, Z.fz_n, Z.fz_t, Z.fz_l, Z.fz_c, Z.fl_nil, Z.fl_cons, Z.e_ret, Z.e_nx, ↓reduceIte, List.length_cons, List.length_nil, Nat.reduceAdd, Nat.reduceLeDiff, Nat.zero_le, List.mem_cons, List.not_mem_nil, or_false, or_true, false_or, true_or, Nat.reduceEqDiff, not_false_eq_true, reduceCtorEq, Option.map_some, List.cons.injEq, and_true, true_and, and_false, false_and, decide_true, decide_false, Bool.not_true, Bool.not_false, ne_eq, Nat.reduceMul, Nat.reduceSub, List.map_cons, List.map_nil, List.replicate, List.cons_append, List.nil_append, List.append_nil, List.length_append, Nat.zero_add, List.append_assoc, hm, h1, hX3, hX2, k25, k24, h5, h9, p1, p2, n0]
  rw [Z.e_ret1 rfl]
  exact ⟨_, rfl⟩
theorem dip_ok (k : Nat) {n : Nat} {w : D} {m : Int} (h : Wl n w) (hn : n < 2 ^ 40) (hm : 0 < m) (hm2 : m < 2 ^ 64) : ∃ r w', call Φ (k + 1) 12 [w, .int m] = .ok (.int r) [w'] ∧ 0 ≤ r ∧ r < m ∧ Wl (n + 1) w' := by
  obtain ⟨a, b, c, rfl, h1, h2, h3, h4, h5⟩ := h
  by_cases h0 : 0 < a
  · refine ⟨_, _, dip_1 k h0 hm (div_s hm (by omega)), Int.emod_nonneg _ (by omega), Int.emod_lt_of_pos _ hm, _, _, _, rfl, Int.ediv_nonneg h1 (by omega), h2, h3, h4, by omega⟩
  · obtain rfl : a = 0 := by omega
    obtain ⟨r, hr⟩ := dip_0 k (b := b) (c := c) (m := m) ⟨h2, h3⟩ ⟨h4, by omega⟩ hm
    exact ⟨_, _, hr, Int.emod_nonneg _ (by omega), Int.emod_lt_of_pos _ hm, _, _, _, rfl, Int.le_refl 0, h2, h3, by omega, by omega⟩
theorem well_ok (k : Nat) (ns : List Int) (hl : ns.length ≤ 63) {i : Nat} (hi : i < 63) : ∃ w, call Φ (k + 1) 11 [.scr (ns.map .int), .int (i : Int)] = .ok w [] ∧ Wl 0 w := by
  rw [Z.run_S (fn := ⟨2, [], 3, b11⟩) rfl rfl]
  have fin : ∀ (x : Int) (s : D), ∃ w, Z.kEnd [] (evSs (call Φ k) (.cons (.ret .val (.lst (.cons .val (.bi .max (.cons .val (.con (.int 0)) (.cons .val (.bin .sub (.bi .abs (.cons .ref (.var 2) .nil)) (.bin .pow (.con (.int 10)) (.con (.int 18)))) .nil))) (.cons .val (.bin .mod (.bi .int (.cons .val (.bin .add (.bin .add (.bin .mul (.var 2) (.con (.int 48611))) (.bin .mul (.var 1) (.con (.int 6700417)))) (.con (.int 31337))) .nil)) (.bin .add (.bin .pow (.con (.int 10)) (.con (.int 24))) (.con (.int 7)))) (.cons .val (.con (.int 0)) .nil))))) .nil) [some s, some (.int (i : Int)), some (.int x)]) = .ok w [] ∧ Wl 0 w := fun x s => by
    have h1 : mulOk x 48611 = true := mul_t (by decide)
    have h2 : mulOk (i : Int) 6700417 = true := mul_t (by decide)
    have h3 : powOk 10 18 = true := by decide
    have h4 : powOk 10 24 = true := by decide
    have p2 : (0 : Int) < 10 ^ Int.toNat 24 + 7 := by decide
    simp -implicitDefEqProofs only [Out.bind_ok, Out.bind_exc, Z.s_con, Z.s_var, Z.k_var, Z.s_tup, Z.s_lst, Z.s_dct, Z.s_bin, Z.s_neg, Z.s_cmp, Z.s_isN, Z.s_nt, Z.s_an, Z.s_or, Z.s_ite, Z.s_ixV, Z.s_ixR, Z.s_sl, Z.s_call, Z.s_bi, Z.s_isiV, Z.s_isiR, Z.s_mt, Z.s_fs, Z.s_lc, Z.t_con, Z.t_var, Z.t_bin, Z.t_cmp, Z.t_isN, Z.t_nt, Z.t_an, Z.t_or, Z.t_ixV, Z.t_ixR, Z.t_call, Z.t_bi, Z.t_isiV, Z.t_isiR, Z.t_mt, Z.a_nil, Z.a_val, Z.a_ref, Z.o_non, Z.o_som, Z.f_nil, Z.f_cons, Z.i_rng, Z.i_ov, Z.k_tru_b, Z.k_tru_i, Z.k_bin, Z.k_add, Z.k_sub, Z.k_mul, Z.k_fdiv, Z.k_mod, Z.k_pow, Z.k_app, Z.k_lapp, Z.k_cmp, Z.c_lt, Z.c_le, Z.c_gt, Z.c_ge, Z.c_eqi, Z.c_nei, Z.c_eqs, Z.c_nes, Z.c_ins, Z.c_int, Z.k_neg, Z.k_isN, Z.nn_0t, Z.nn_1t, Z.nn_0i, Z.nn_1i, Z.nn_0s, Z.nn_1s, Z.nn_0b, Z.nn_1b, Z.nn_0l, Z.nn_1l, Z.nn_0n, Z.nn_1n, Z.k_nt, Z.k_ntT, Z.k_an1, Z.k_an0, Z.k_anT1, Z.k_anT0, Z.k_or1, Z.k_or0, Z.k_orT1, Z.k_orT0, Z.k_ite1, Z.k_ite0, Z.k_ix, Z.k_ix2, Z.k_ixR, Z.k_ixr, Z.k_ref, Z.k_ref_i, Z.k_ref_s, Z.k_ref_b, Z.k_ref_n, Z.k_ref_t, Z.i_lst, Z.i_tup, Z.i_scr, Z.i_str, Z.i_dcs, Z.i_dci, Z.l_hit, Z.at_0, Z.at_1, Z.at_2, Z.at_3, Z.k_sl, Z.k_sl2, Z.k_sl3, Z.k_tup, Z.k_tup2, Z.k_lst, Z.k_lst2, Z.k_dct, Z.k_dct2, Z.v_nil, Z.v_cons, Z.k_pv, Z.k_c1, Z.k_c2, Z.k_c2k, Z.k_cb, Z.k_tk, Z.k_ret, Z.k_retX, Z.k_put, Z.k_putX, Z.tk_nil, Z.tk_v, Z.tk_r, Z.k_tv, Z.k_tr, Z.p_nil, Z.p_v0, Z.p_v1, Z.p_r, Z.r_nil, Z.r_in, Z.r_no, Z.k_bi, Z.pk_nil0, Z.pk_v, Z.pk_r, Z.some_bind, Z.b_lens, Z.b_lenl, Z.b_lent, Z.b_lenc, Z.b_inti, Z.b_str, Z.b_abs, Z.b_max, Z.b_min, Z.b_gcd, Z.b_all, Z.b_any, Z.k_isi, Z.k_isr, Z.k_mt, Z.k_mt2, Z.m_sw, Z.k_lc2, Z.k_a, Z.k_a2, Z.k_ar, Z.k_aref, Z.k_o, Z.k_f, Z.k_f2, Z.fm_s, Z.fm_i, Z.k_rng, Z.k_ov, Z.o_some, Z.x_nil, Z.x_cons, Z.k_sq, Z.k_sqr, Z.k_sqb, Z.k_sqc, Z.x_ex, Z.k_ex0, Z.x_set, Z.k_set, Z.x_mset, Z.k_ms, Z.k_ms2, Z.sm_nil, Z.sm_cons, Z.x_par, Z.k_par, Z.k_par2, Z.x_aug, Z.k_aug, Z.k_aug2a, Z.k_aug2s, Z.x_si, Z.k_si, Z.k_si1, Z.k_si2, Z.k_si3_0, Z.k_si3_1, Z.k_si3_2, Z.x_ret, Z.k_ret1, Z.x_retR, Z.k_retR, Z.x_retN, Z.x_if, Z.k_if1, Z.k_if0, Z.k_w0, Z.k_w1, Z.k_w2n, Z.k_w2c, Z.k_w2b, Z.k_w2r, Z.x_for, Z.fo_nil, Z.k_fon, Z.k_foc, Z.k_fob, Z.k_for2, Z.g_for, Z.g_lc, Z.x_brk, Z.x_cnt, Z.x_pas, Z.lk_0, Z.lk_S, Z.set_0, Z.set_S, Z.fz_i, Z.fz_s, Z.fz_b, Z.fz_n, Z.fz_t, Z.fz_l, Z.fz_c, Z.fl_nil, Z.fl_cons, Z.e_ret, Z.e_nx, ↓reduceIte, List.length_cons, List.length_nil, Nat.reduceAdd, Nat.reduceLeDiff, Nat.zero_le, List.mem_cons, List.not_mem_nil, or_false, or_true, false_or, true_or, Nat.reduceEqDiff, not_false_eq_true, reduceCtorEq, Option.map_some, List.cons.injEq, and_true, true_and, and_false, false_and, decide_true, decide_false, Bool.not_true, Bool.not_false, ne_eq, Nat.reduceMul, Nat.reduceSub, List.map_cons, List.map_nil, List.replicate, List.cons_append, List.nil_append, List.append_nil, List.length_append, Nat.zero_add, List.append_assoc, h1, h2, h3, h4, p2]
    refine ⟨_, rfl, _, _, _, rfl, ?_, Int.emod_nonneg _ (by decide), ?_, Int.le_refl 0, Int.le_refl 0⟩
    · split <;> omega
    · exact Int.lt_of_lt_of_le (Int.emod_lt_of_pos _ p2) (by decide)
  by_cases h : i < ns.length
  · have hd : (ns.map D.int)[i]? = some (.int ns[i]) := by rw [List.getElem?_map, List.getElem?_eq_getElem h]; rfl
    have ha := L2.atI_nat hd
    have hlt : (i : Int) < ((ns.map D.int).length : Int) := by rw [List.length_map]; omega
    obtain ⟨w, h1, h2⟩ := fin ns[i] (.scr (ns.map .int))
    refine ⟨w, ?_, h2⟩
    rw [← h1]
    simp -implicitDefEqProofs only [b11, Out.bind_ok, Out.bind_exc, Z.s_con, Z.s_var, Z.k_var, Z.s_tup, Z.s_lst, Z.s_dct, Z.s_bin, Z.s_neg, Z.s_cmp, Z.s_isN, Z.s_nt, Z.s_an, Z.s_or, Z.s_ite, Z.s_ixV, Z.s_ixR, Z.s_sl, Z.s_call, Z.s_bi, Z.s_isiV, Z.s_isiR, Z.s_mt, Z.s_fs, Z.s_lc, Z.t_con, Z.t_var, Z.t_bin, Z.t_cmp, Z.t_isN, Z.t_nt, Z.t_an, Z.t_or, Z.t_ixV, Z.t_ixR, Z.t_call, Z.t_bi, Z.t_isiV, Z.t_isiR, Z.t_mt, Z.a_nil, Z.a_val, Z.a_ref, Z.o_non, Z.o_som, Z.f_nil, Z.f_cons, Z.i_rng, Z.i_ov, Z.k_tru_b, Z.k_tru_i, Z.k_bin, Z.k_add, Z.k_sub, Z.k_mul, Z.k_fdiv, Z.k_mod, Z.k_pow, Z.k_app, Z.k_lapp, Z.k_cmp, Z.c_lt, Z.c_le, Z.c_gt, Z.c_ge, Z.c_eqi, Z.c_nei, Z.c_eqs, Z.c_nes, Z.c_ins, Z.c_int, Z.k_neg, Z.k_isN, Z.nn_0t, Z.nn_1t, Z.nn_0i, Z.nn_1i, Z.nn_0s, Z.nn_1s, Z.nn_0b, Z.nn_1b, Z.nn_0l, Z.nn_1l, Z.nn_0n, Z.nn_1n, Z.k_nt, Z.k_ntT, Z.k_an1, Z.k_an0, Z.k_anT1, Z.k_anT0, Z.k_or1, Z.k_or0, Z.k_orT1, Z.k_orT0, Z.k_ite1, Z.k_ite0, Z.k_ix, Z.k_ix2, Z.k_ixR, Z.k_ixr, Z.k_ref, Z.k_ref_i, Z.k_ref_s, Z.k_ref_b, Z.k_ref_n, Z.k_ref_t, Z.i_lst, Z.i_tup, Z.i_scr, Z.i_str, Z.i_dcs, Z.i_dci, Z.l_hit, Z.at_0, Z.at_1, Z.at_2, Z.at_3, Z.k_sl, Z.k_sl2, Z.k_sl3, Z.k_tup, Z.k_tup2, Z.k_lst, Z.k_lst2, Z.k_dct, Z.k_dct2, Z.v_nil, Z.v_cons, Z.k_pv, Z.k_c1, Z.k_c2, Z.k_c2k, Z.k_cb, Z.k_tk, Z.k_ret, Z.k_retX, Z.k_put, Z.k_putX, Z.tk_nil, Z.tk_v, Z.tk_r, Z.k_tv, Z.k_tr, Z.p_nil, Z.p_v0, Z.p_v1, Z.p_r, Z.r_nil, Z.r_in, Z.r_no, Z.k_bi, Z.pk_nil0, Z.pk_v, Z.pk_r, Z.some_bind, Z.b_lens, Z.b_lenl, Z.b_lent, Z.b_lenc, Z.b_inti, Z.b_str, Z.b_abs, Z.b_max, Z.b_min, Z.b_gcd, Z.b_all, Z.b_any, Z.k_isi, Z.k_isr, Z.k_mt, Z.k_mt2, Z.m_sw, Z.k_lc2, Z.k_a, Z.k_a2, Z.k_ar, Z.k_aref, Z.k_o, Z.k_f, Z.k_f2, Z.fm_s, Z.fm_i, Z.k_rng, Z.k_ov, Z.o_some, Z.x_nil, Z.x_cons, Z.k_sq, Z.k_sqr, Z.k_sqb, Z.k_sqc, Z.x_ex, Z.k_ex0, Z.x_set, Z.k_set, Z.x_mset, Z.k_ms, Z.k_ms2, Z.sm_nil, Z.sm_cons, Z.x_par, Z.k_par, Z.k_par2, Z.x_aug, Z.k_aug, Z.k_aug2a, Z.k_aug2s, Z.x_si, Z.k_si, Z.k_si1, Z.k_si2, Z.k_si3_0, Z.k_si3_1, Z.k_si3_2, Z.x_ret, Z.k_ret1, Z.x_retR, Z.k_retR, Z.x_retN, Z.x_if, Z.k_if1, Z.k_if0, Z.k_w0, Z.k_w1, Z.k_w2n, Z.k_w2c, Z.k_w2b, Z.k_w2r, Z.x_for, Z.fo_nil, Z.k_fon, Z.k_foc, Z.k_fob, Z.k_for2, Z.g_for, Z.g_lc, Z.x_brk, Z.x_cnt, Z.x_pas, Z.lk_0, Z.lk_S, Z.set_0, Z.set_S, Z.fz_i, Z.fz_s, Z.fz_b, Z.fz_n, Z.fz_t, Z.fz_l, Z.fz_c, Z.fl_nil, Z.fl_cons, Z.e_ret, Z.e_nx, ↓reduceIte, List.length_cons, List.length_nil, Nat.reduceAdd, Nat.reduceLeDiff, Nat.zero_le, List.mem_cons, List.not_mem_nil, or_false, or_true, false_or, true_or, Nat.reduceEqDiff, not_false_eq_true, reduceCtorEq, Option.map_some, List.cons.injEq, and_true, true_and, and_false, false_and, decide_true, decide_false, Bool.not_true, Bool.not_false, ne_eq, Nat.reduceMul, Nat.reduceSub, List.map_cons, List.map_nil, List.replicate, List.cons_append, List.nil_append, List.append_nil, List.length_append, Nat.zero_add, List.append_assoc, hlt, ha]
  · have hlt : ¬ (i : Int) < ((ns.map D.int).length : Int) := by rw [List.length_map]; omega
    have m1 : mulOk (i : Int) 7919 = true := mul_t (by decide)
    have m2 : mulOk ((ns.map D.int).length : Int) 104729 = true := mul_t (by decide)
    obtain ⟨w, h1, h2⟩ := fin ((i : Int) * 7919 + ((ns.map D.int).length : Int) * 104729) (.scr (ns.map .int))
    refine ⟨w, ?_, h2⟩
    rw [← h1]
    simp -implicitDefEqProofs only [b11, Out.bind_ok, Out.bind_exc, Z.s_con, Z.s_var, Z.k_var, Z.s_tup, Z.s_lst, Z.s_dct, Z.s_bin, Z.s_neg, Z.s_cmp, Z.s_isN, Z.s_nt, Z.s_an, Z.s_or, Z.s_ite, Z.s_ixV, Z.s_ixR, Z.s_sl, Z.s_call, Z.s_bi, Z.s_isiV, Z.s_isiR, Z.s_mt, Z.s_fs, Z.s_lc, Z.t_con, Z.t_var, Z.t_bin, Z.t_cmp, Z.t_isN, Z.t_nt, Z.t_an, Z.t_or, Z.t_ixV, Z.t_ixR, Z.t_call, Z.t_bi, Z.t_isiV, Z.t_isiR, Z.t_mt, Z.a_nil, Z.a_val, Z.a_ref, Z.o_non, Z.o_som, Z.f_nil, Z.f_cons, Z.i_rng, Z.i_ov, Z.k_tru_b, Z.k_tru_i, Z.k_bin, Z.k_add, Z.k_sub, Z.k_mul, Z.k_fdiv, Z.k_mod, Z.k_pow, Z.k_app, Z.k_lapp, Z.k_cmp, Z.c_lt, Z.c_le, Z.c_gt, Z.c_ge, Z.c_eqi, Z.c_nei, Z.c_eqs, Z.c_nes, Z.c_ins, Z.c_int, Z.k_neg, Z.k_isN, Z.nn_0t, Z.nn_1t, Z.nn_0i, Z.nn_1i, Z.nn_0s, Z.nn_1s, Z.nn_0b, Z.nn_1b, Z.nn_0l, Z.nn_1l, Z.nn_0n, Z.nn_1n, Z.k_nt, Z.k_ntT, Z.k_an1, Z.k_an0, Z.k_anT1, Z.k_anT0, Z.k_or1, Z.k_or0, Z.k_orT1, Z.k_orT0, Z.k_ite1, Z.k_ite0, Z.k_ix, Z.k_ix2, Z.k_ixR, Z.k_ixr, Z.k_ref, Z.k_ref_i, Z.k_ref_s, Z.k_ref_b, Z.k_ref_n, Z.k_ref_t, Z.i_lst, Z.i_tup, Z.i_scr, Z.i_str, Z.i_dcs, Z.i_dci, Z.l_hit, Z.at_0, Z.at_1, Z.at_2, Z.at_3, Z.k_sl, Z.k_sl2, Z.k_sl3, Z.k_tup, Z.k_tup2, Z.k_lst, Z.k_lst2, Z.k_dct, Z.k_dct2, Z.v_nil, Z.v_cons, Z.k_pv, Z.k_c1, Z.k_c2, Z.k_c2k, Z.k_cb, Z.k_tk, Z.k_ret, Z.k_retX, Z.k_put, Z.k_putX, Z.tk_nil, Z.tk_v, Z.tk_r, Z.k_tv, Z.k_tr, Z.p_nil, Z.p_v0, Z.p_v1, Z.p_r, Z.r_nil, Z.r_in, Z.r_no, Z.k_bi, Z.pk_nil0, Z.pk_v, Z.pk_r, Z.some_bind, Z.b_lens, Z.b_lenl, Z.b_lent, Z.b_lenc, Z.b_inti, Z.b_str, Z.b_abs, Z.b_max, Z.b_min, Z.b_gcd, Z.b_all, Z.b_any, Z.k_isi, Z.k_isr, Z.k_mt, Z.k_mt2, Z.m_sw, Z.k_lc2, Z.k_a, Z.k_a2, Z.k_ar, Z.k_aref, Z.k_o, Z.k_f, Z.k_f2, Z.fm_s, Z.fm_i, Z.k_rng, Z.k_ov, Z.o_some, Z.x_nil, Z.x_cons, Z.k_sq, Z.k_sqr, Z.k_sqb, Z.k_sqc, Z.x_ex, Z.k_ex0, Z.x_set, Z.k_set, Z.x_mset, Z.k_ms, Z.k_ms2, Z.sm_nil, Z.sm_cons, Z.x_par, Z.k_par, Z.k_par2, Z.x_aug, Z.k_aug, Z.k_aug2a, Z.k_aug2s, Z.x_si, Z.k_si, Z.k_si1, Z.k_si2, Z.k_si3_0, Z.k_si3_1, Z.k_si3_2, Z.x_ret, Z.k_ret1, Z.x_retR, Z.k_retR, Z.x_retN, Z.x_if, Z.k_if1, Z.k_if0, Z.k_w0, Z.k_w1, Z.k_w2n, Z.k_w2c, Z.k_w2b, Z.k_w2r, Z.x_for, Z.fo_nil, Z.k_fon, Z.k_foc, Z.k_fob, Z.k_for2, Z.g_for, Z.g_lc, Z.x_brk, Z.x_cnt, Z.x_pas, Z.lk_0, Z.lk_S, Z.set_0, Z.set_S, Z.fz_i, Z.fz_s, Z.fz_b, Z.fz_n, Z.fz_t, Z.fz_l, Z.fz_c, Z.fl_nil, Z.fl_cons, Z.e_ret, Z.e_nx, ↓reduceIte, List.length_cons, List.length_nil, Nat.reduceAdd, Nat.reduceLeDiff, Nat.zero_le, List.mem_cons, List.not_mem_nil, or_false, or_true, false_or, true_or, Nat.reduceEqDiff, not_false_eq_true, reduceCtorEq, Option.map_some, List.cons.injEq, and_true, true_and, and_false, false_and, decide_true, decide_false, Bool.not_true, Bool.not_false, ne_eq, Nat.reduceMul, Nat.reduceSub, List.map_cons, List.map_nil, List.replicate, List.cons_append, List.nil_append, List.append_nil, List.length_append, Nat.zero_add, List.append_assoc, hlt, m1, m2]
end K85

namespace K85
open PySem Ev
/-! the greatest common part -/
theorem com_loop (cf : CF) : ∀ (a b n : Nat), a < n → whileF (evT cf (.cmp .gt (.var 0) (.con (.int 0)))) (evSs cf (.cons (.par 0 1 (.bin .mod (.bi .int (.cons .ref (.var 1) .nil)) (.var 0)) (.var 0)) .nil)) n [some (.int (a : Int)), some (.int (b : Int))] = .ok .nx [some (.int 0), some (.int ((Nat.gcd a b : Nat) : Int))] := by
  intro a
  induction a using Nat.strongRecOn with
  | _ a ih =>
    intro b n h
    cases n with
    | zero => omega
    | succ n =>
      rw [Z.w_S]
      by_cases h0 : a = 0
      · subst h0
        have e : (((0 : Nat) : Int)) = 0 := rfl
        have n0 : ¬ (0 : Int) < 0 := by decide
        rw [e, Nat.gcd_zero_left]
        simp -implicitDefEqProofs only [Out.bind_ok, Out.bind_exc, Z.s_con, Z.s_var, Z.k_var, Z.s_tup, Z.s_lst, Z.s_dct, Z.s_bin, Z.s_neg, Z.s_cmp, Z.s_isN, Z.s_nt, Z.s_an, Z.s_or, Z.s_ite, Z.s_ixV, Z.s_ixR, Z.s_sl, Z.s_call, Z.s_bi, Z.s_isiV, Z.s_isiR, Z.s_mt, Z.s_fs, Z.s_lc, Z.t_con, Z.t_var, Z.t_bin, Z.t_cmp, Z.t_isN, Z.t_nt, Z.t_an, Z.t_or, Z.t_ixV, Z.t_ixR, Z.t_call, Z.t_bi, Z.t_isiV, Z.t_isiR, Z.t_mt, Z.a_nil, Z.a_val, Z.a_ref, Z.o_non, Z.o_som, Z.f_nil, Z.f_cons, Z.i_rng, Z.i_ov, Z.k_tru_b, Z.k_tru_i, Z.k_bin, Z.k_add, Z.k_sub, Z.k_mul, Z.k_fdiv, Z.k_mod, Z.k_pow, Z.k_app, Z.k_lapp, Z.k_cmp, Z.c_lt, Z.c_le, Z.c_gt, Z.c_ge, Z.c_eqi, Z.c_nei, Z.c_eqs, Z.c_nes, Z.c_ins, Z.c_int, Z.k_neg, Z.k_isN, Z.nn_0t, Z.nn_1t, Z.nn_0i, Z.nn_1i, Z.nn_0s, Z.nn_1s, Z.nn_0b, Z.nn_1b, Z.nn_0l, Z.nn_1l, Z.nn_0n, Z.nn_1n, Z.k_nt, Z.k_ntT, Z.k_an1, Z.k_an0, Z.k_anT1, Z.k_anT0, Z.k_or1, Z.k_or0, Z.k_orT1, Z.k_orT0, Z.k_ite1, Z.k_ite0, Z.k_ix, Z.k_ix2, Z.k_ixR, Z.k_ixr, Z.k_ref, Z.k_ref_i, Z.k_ref_s, Z.k_ref_b, Z.k_ref_n, Z.k_ref_t, Z.i_lst, Z.i_tup, Z.i_scr, Z.i_str, Z.i_dcs, Z.i_dci, Z.l_hit, Z.at_0, Z.at_1, Z.at_2, Z.at_3, Z.k_sl, Z.k_sl2, Z.k_sl3, Z.k_tup, Z.k_tup2, Z.k_lst, Z.k_lst2, Z.k_dct, Z.k_dct2, Z.v_nil, Z.v_cons, Z.k_pv, Z.k_c1, Z.k_c2, Z.k_c2k, Z.k_cb, Z.k_tk, Z.k_ret, Z.k_retX, Z.k_put, Z.k_putX, Z.tk_nil, Z.tk_v, Z.tk_r, Z.k_tv, Z.k_tr, Z.p_nil, Z.p_v0, Z.p_v1, Z.p_r, Z.r_nil, Z.r_in, Z.r_no, Z.k_bi, Z.pk_nil0, Z.pk_v, Z.pk_r, Z.some_bind, Z.b_lens, Z.b_lenl, Z.b_lent, Z.b_lenc, Z.b_inti, Z.b_str, Z.b_abs, Z.b_max, Z.b_min, Z.b_gcd, Z.b_all, Z.b_any, Z.k_isi, Z.k_isr, Z.k_mt, Z.k_mt2, Z.m_sw, Z.k_lc2, Z.k_a, Z.k_a2, Z.k_ar, Z.k_aref, Z.k_o, Z.k_f, Z.k_f2, Z.fm_s, Z.fm_i, Z.k_rng, Z.k_ov, Z.o_some, Z.x_nil, Z.x_cons, Z.k_sq, Z.k_sqr, Z.k_sqb, Z.k_sqc, Z.x_ex, Z.k_ex0, Z.x_set, Z.k_set, Z.x_mset, Z.k_ms, Z.k_ms2, Z.sm_nil, Z.sm_cons, Z.x_par, Z.k_par, Z.k_par2, Z.x_aug, Z.k_aug, Z.k_aug2a, Z.k_aug2s, Z.x_si, Z.k_si, Z.k_si1, Z.k_si2, Z.k_si3_0, Z.k_si3_1, Z.k_si3_2, Z.x_ret, Z.k_ret1, Z.x_retR, Z.k_retR, Z.x_retN, Z.x_if, Z.k_if1, Z.k_if0, Z.k_w0, Z.k_w1, Z.k_w2n, Z.k_w2c, Z.k_w2b, Z.k_w2r, Z.x_for, Z.fo_nil, Z.k_fon, Z.k_foc, Z.k_fob, Z.k_for2, Z.g_for, Z.g_lc, Z.x_brk, Z.x_cnt, Z.x_pas, Z.lk_0, Z.lk_S, Z.set_0, Z.set_S, Z.fz_i, Z.fz_s, Z.fz_b, Z.fz_n, Z.fz_t, Z.fz_l, Z.fz_c, Z.fl_nil, Z.fl_cons, Z.e_ret, Z.e_nx, ↓reduceIte, List.length_cons, List.length_nil, Nat.reduceAdd, Nat.reduceLeDiff, Nat.zero_le, List.mem_cons, List.not_mem_nil, or_false, or_true, false_or, true_or, Nat.reduceEqDiff, not_false_eq_true, reduceCtorEq, Option.map_some, List.cons.injEq, and_true, true_and, and_false, false_and, decide_true, decide_false, Bool.not_true, Bool.not_false, ne_eq, Nat.reduceMul, Nat.reduceSub, List.map_cons, List.map_nil, List.replicate, List.cons_append, List.nil_append, List.append_nil, List.length_append, Nat.zero_add, List.append_assoc, n0]
      · have hp : (0 : Int) < (a : Int) := by omega
        have e : (b : Int) % (a : Int) = ((b % a : Nat) : Int) := rfl
        have := ih (b % a) (Nat.mod_lt _ (by omega)) a n (Nat.lt_of_lt_of_le (Nat.mod_lt _ (by omega)) (by omega))
        simp -implicitDefEqProofs only [Out.bind_ok, Out.bind_exc, Z.s_con, Z.s_var, Z.k_var, Z.s_tup, Z.s_lst, Z.s_dct, Z.s_bin, Z.s_neg, Z.s_cmp, Z.s_isN, Z.s_nt, Z.s_an, Z.s_or, Z.s_ite, Z.s_ixV, Z.s_ixR, Z.s_sl, Z.s_call, Z.s_bi, Z.s_isiV, Z.s_isiR, Z.s_mt, Z.s_fs, Z.s_lc, Z.t_con, Z.t_var, Z.t_bin, Z.t_cmp, Z.t_isN, Z.t_nt, Z.t_an, Z.t_or, Z.t_ixV, Z.t_ixR, Z.t_call, Z.t_bi, Z.t_isiV, Z.t_isiR, Z.t_mt, Z.a_nil, Z.a_val, Z.a_ref, Z.o_non, Z.o_som, Z.f_nil, Z.f_cons, Z.i_rng, Z.i_ov, Z.k_tru_b, Z.k_tru_i, Z.k_bin, Z.k_add, Z.k_sub, Z.k_mul, Z.k_fdiv, Z.k_mod, Z.k_pow, Z.k_app, Z.k_lapp, Z.k_cmp, Z.c_lt, Z.c_le, Z.c_gt, Z.c_ge, Z.c_eqi, Z.c_nei, Z.c_eqs, Z.c_nes, Z.c_ins, Z.c_int, Z.k_neg, Z.k_isN, Z.nn_0t, Z.nn_1t, Z.nn_0i, Z.nn_1i, Z.nn_0s, Z.nn_1s, Z.nn_0b, Z.nn_1b, Z.nn_0l, Z.nn_1l, Z.nn_0n, Z.nn_1n, Z.k_nt, Z.k_ntT, Z.k_an1, Z.k_an0, Z.k_anT1, Z.k_anT0, Z.k_or1, Z.k_or0, Z.k_orT1, Z.k_orT0, Z.k_ite1, Z.k_ite0, Z.k_ix, Z.k_ix2, Z.k_ixR, Z.k_ixr, Z.k_ref, Z.k_ref_i, Z.k_ref_s, Z.k_ref_b, Z.k_ref_n, Z.k_ref_t, Z.i_lst, Z.i_tup, Z.i_scr, Z.i_str, Z.i_dcs, Z.i_dci, Z.l_hit, Z.at_0, Z.at_1, Z.at_2, Z.at_3, Z.k_sl, Z.k_sl2, Z.k_sl3, Z.k_tup, Z.k_tup2, Z.k_lst, Z.k_lst2, Z.k_dct, Z.k_dct2, Z.v_nil, Z.v_cons, Z.k_pv, Z.k_c1, Z.k_c2, Z.k_c2k, Z.k_cb, Z.k_tk, Z.k_ret, Z.k_retX, Z.k_put, Z.k_putX, Z.tk_nil, Z.tk_v, Z.tk_r, Z.k_tv, Z.k_tr, Z.p_nil, Z.p_v0, Z.p_v1, Z.p_r, Z.r_nil, Z.r_in, Z.r_no, Z.k_bi, Z.pk_nil0, Z.pk_v, Z.pk_r, Z.some_bind, Z.b_lens, Z.b_lenl, Z.b_lent, Z.b_lenc, Z.b_inti, Z.b_str, Z.b_abs, Z.b_max, Z.b_min, Z.b_gcd, Z.b_all, Z.b_any, Z.k_isi, Z.k_isr, Z.k_mt, Z.k_mt2, Z.m_sw, Z.k_lc2, Z.k_a, Z.k_a2, Z.k_ar, Z.k_aref, Z.k_o, Z.k_f, Z.k_f2, Z.fm_s, Z.fm_i, Z.k_rng, Z.k_ov, Z.o_some, Z.x_nil, Z.x_cons, Z.k_sq, Z.k_sqr, Z.k_sqb, Z.k_sqc, Z.x_ex, Z.k_ex0, Z.x_set, Z.k_set, Z.x_mset, Z.k_ms, Z.k_ms2, Z.sm_nil, Z.sm_cons, Z.x_par, Z.k_par, Z.k_par2, Z.x_aug, Z.k_aug, Z.k_aug2a, Z.k_aug2s, Z.x_si, Z.k_si, Z.k_si1, Z.k_si2, Z.k_si3_0, Z.k_si3_1, Z.k_si3_2, Z.x_ret, Z.k_ret1, Z.x_retR, Z.k_retR, Z.x_retN, Z.x_if, Z.k_if1, Z.k_if0, Z.k_w0, Z.k_w1, Z.k_w2n, Z.k_w2c, Z.k_w2b, Z.k_w2r, Z.x_for, Z.fo_nil, Z.k_fon, Z.k_foc, Z.k_fob, Z.k_for2, Z.g_for, Z.g_lc, Z.x_brk, Z.x_cnt, Z.x_pas, Z.lk_0, Z.lk_S, Z.set_0, Z.set_S, Z.fz_i, Z.fz_s, Z.fz_b, Z.fz_n, Z.fz_t, Z.fz_l, Z.fz_c, Z.fl_nil, Z.fl_cons, Z.e_ret, Z.e_nx, ↓reduceIte, List.length_cons, List.length_nil, Nat.reduceAdd, Nat.reduceLeDiff, Nat.zero_le, List.mem_cons, List.not_mem_nil, or_false, or_true, false_or, true_or, Nat.reduceEqDiff, not_false_eq_true, reduceCtorEq, Option.map_some, List.cons.injEq, and_true, true_and, and_false, false_and, decide_true, decide_false, Bool.not_true, Bool.not_false, ne_eq, Nat.reduceMul, Nat.reduceSub, List.map_cons, List.map_nil, List.replicate, List.cons_append, List.nil_append, List.append_nil, List.length_append, Nat.zero_add, List.append_assoc, hp, e, this]
        rw [Nat.gcd_rec a b]
theorem common_ok (k : Nat) {x : Int} {b : Nat} (hx : Nm x) : call Φ (k + 1) 13 [.int x, .int (b : Int)] = .ok (.int ((Nat.gcd x.natAbs b : Nat) : Int)) [] := by
  rw [Z.run_S (fn := ⟨2, [], 2, b13⟩) rfl rfl]
  have e : (if x < 0 then -x else x) = ((x.natAbs : Nat) : Int) := by split <;> omega
  have hl := com_loop (call Φ k) x.natAbs b turns (by unfold turns; unfold Nm at hx; omega)
  simp -implicitDefEqProofs only [b13, Out.bind_ok, Out.bind_exc, Z.s_con, Z.s_var, Z.k_var, Z.s_tup, Z.s_lst, Z.s_dct, Z.s_bin, Z.s_neg, Z.s_cmp, Z.s_isN, Z.s_nt, Z.s_an, Z.s_or, Z.s_ite, Z.s_ixV, Z.s_ixR, Z.s_sl, Z.s_call, Z.s_bi, Z.s_isiV, Z.s_isiR, Z.s_mt, Z.s_fs, Z.s_lc, Z.t_con, Z.t_var, Z.t_bin, Z.t_cmp, Z.t_isN, Z.t_nt, Z.t_an, Z.t_or, Z.t_ixV, Z.t_ixR, Z.t_call, Z.t_bi, Z.t_isiV, Z.t_isiR, Z.t_mt, Z.a_nil, Z.a_val, Z.a_ref, Z.o_non, Z.o_som, Z.f_nil, Z.f_cons, Z.i_rng, Z.i_ov, Z.k_tru_b, Z.k_tru_i, Z.k_bin, Z.k_add, Z.k_sub, Z.k_mul, Z.k_fdiv, Z.k_mod, Z.k_pow, Z.k_app, Z.k_lapp, Z.k_cmp, Z.c_lt, Z.c_le, Z.c_gt, Z.c_ge, Z.c_eqi, Z.c_nei, Z.c_eqs, Z.c_nes, Z.c_ins, Z.c_int, Z.k_neg, Z.k_isN, Z.nn_0t, Z.nn_1t, Z.nn_0i, Z.nn_1i, Z.nn_0s, Z.nn_1s, Z.nn_0b, Z.nn_1b, Z.nn_0l, Z.nn_1l, Z.nn_0n, Z.nn_1n, Z.k_nt, Z.k_ntT, Z.k_an1, Z.k_an0, Z.k_anT1, Z.k_anT0, Z.k_or1, Z.k_or0, Z.k_orT1, Z.k_orT0, Z.k_ite1, Z.k_ite0, Z.k_ix, Z.k_ix2, Z.k_ixR, Z.k_ixr, Z.k_ref, Z.k_ref_i, Z.k_ref_s, Z.k_ref_b, Z.k_ref_n, Z.k_ref_t, Z.i_lst, Z.i_tup, Z.i_scr, Z.i_str, Z.i_dcs, Z.i_dci, Z.l_hit, Z.at_0, Z.at_1, Z.at_2, Z.at_3, Z.k_sl, Z.k_sl2, Z.k_sl3, Z.k_tup, Z.k_tup2, Z.k_lst, Z.k_lst2, Z.k_dct, Z.k_dct2, Z.v_nil, Z.v_cons, Z.k_pv, Z.k_c1, Z.k_c2, Z.k_c2k, Z.k_cb, Z.k_tk, Z.k_ret, Z.k_retX, Z.k_put, Z.k_putX, Z.tk_nil, Z.tk_v, Z.tk_r, Z.k_tv, Z.k_tr, Z.p_nil, Z.p_v0, Z.p_v1, Z.p_r, Z.r_nil, Z.r_in, Z.r_no, Z.k_bi, Z.pk_nil0, Z.pk_v, Z.pk_r, Z.some_bind, Z.b_lens, Z.b_lenl, Z.b_lent, Z.b_lenc, Z.b_inti, Z.b_str, Z.b_abs, Z.b_max, Z.b_min, Z.b_gcd, Z.b_all, Z.b_any, Z.k_isi, Z.k_isr, Z.k_mt, Z.k_mt2, Z.m_sw, Z.k_lc2, Z.k_a, Z.k_a2, Z.k_ar, Z.k_aref, Z.k_o, Z.k_f, Z.k_f2, Z.fm_s, Z.fm_i, Z.k_rng, Z.k_ov, Z.o_some, Z.x_nil, Z.x_cons, Z.k_sq, Z.k_sqr, Z.k_sqb, Z.k_sqc, Z.x_ex, Z.k_ex0, Z.x_set, Z.k_set, Z.x_mset, Z.k_ms, Z.k_ms2, Z.sm_nil, Z.sm_cons, Z.x_par, Z.k_par, Z.k_par2, Z.x_aug, Z.k_aug, Z.k_aug2a, Z.k_aug2s, Z.x_si, Z.k_si, Z.k_si1, Z.k_si2, Z.k_si3_0, Z.k_si3_1, Z.k_si3_2, Z.x_ret, Z.k_ret1, Z.x_retR, Z.k_retR, Z.x_retN, Z.x_if, Z.k_if1, Z.k_if0, Z.k_w0, Z.k_w1, Z.k_w2n, Z.k_w2c, Z.k_w2b, Z.k_w2r, Z.x_for, Z.fo_nil, Z.k_fon, Z.k_foc, Z.k_fob, Z.k_for2, Z.g_for, Z.g_lc, Z.x_brk, Z.x_cnt, Z.x_pas, Z.lk_0, Z.lk_S, Z.set_0, Z.set_S, Z.fz_i, Z.fz_s, Z.fz_b, Z.fz_n, Z.fz_t, Z.fz_l, Z.fz_c, Z.fl_nil, Z.fl_cons, Z.e_ret, Z.e_nx, ↓reduceIte, List.length_cons, List.length_nil, Nat.reduceAdd, Nat.reduceLeDiff, Nat.zero_le, List.mem_cons, List.not_mem_nil, or_false, or_true, false_or, true_or, Nat.reduceEqDiff, not_false_eq_true, reduceCtorEq, Option.map_some, List.cons.injEq, and_true, true_and, and_false, false_and, decide_true, decide_false, Bool.not_true, Bool.not_false, ne_eq, Nat.reduceMul, Nat.reduceSub, List.map_cons, List.map_nil, List.replicate, List.cons_append, List.nil_append, List.append_nil, List.length_append, Nat.zero_add, List.append_assoc, e, Z.x_whl, hl]
theorem wt_div {x : Int} {b : Nat} (hx : Nm x) (h1 : 1 ≤ b) (h2 : b ≤ 999999999) : Wt (x / ((Nat.gcd x.natAbs b : Nat) : Int)) ((b : Int) / ((Nat.gcd x.natAbs b : Nat) : Int)) := by
  obtain ⟨g, hg⟩ : ∃ g, g = Nat.gcd x.natAbs b := ⟨_, rfl⟩
  have g0 : 0 < g := by rw [hg]; exact Nat.gcd_pos_of_pos_right _ h1
  obtain ⟨p, hp⟩ : g ∣ x.natAbs := by rw [hg]; exact Nat.gcd_dvd_left _ _
  obtain ⟨q, hq⟩ : g ∣ b := by rw [hg]; exact Nat.gcd_dvd_right _ _
  have hpq : Nat.gcd p q = 1 := by
    have : g * Nat.gcd p q = g * 1 := by rw [← Nat.gcd_mul_left, ← hp, ← hq, ← hg, Nat.mul_one]
    exact Nat.eq_of_mul_eq_mul_left g0 this
  obtain ⟨z, hz⟩ : (g : Int) ∣ x := by
    exact Int.ofNat_dvd_left.mpr ⟨p, hp⟩
  have gz : ((g : Nat) : Int) ≠ 0 := by omega
  have ez : z.natAbs = p := by
    have : g * z.natAbs = g * p := by
      rw [← hp, hz, Int.natAbs_mul, Int.natAbs_natCast]
    exact Nat.eq_of_mul_eq_mul_left g0 this
  have e1 : x / (g : Int) = z := by rw [hz]; exact Int.mul_ediv_cancel_left _ gz
  have e2 : (b : Int) / (g : Int) = (q : Int) := by
    rw [hq]
    push_cast
    exact Int.mul_ediv_cancel_left _ gz
  rw [← hg, e1, e2]
  have lp : p ≤ x.natAbs := by rw [hp]; exact Nat.le_mul_of_pos_left _ g0
  have lq : q ≤ b := by rw [hq]; exact Nat.le_mul_of_pos_left _ g0
  have q0 : 0 < q := by
    rcases Nat.eq_zero_or_pos q with h | h
    · rw [h, Nat.mul_zero] at hq; omega
    · exact h
  refine ⟨?_, by omega, by omega, ?_⟩
  · unfold Nm at *
    omega
  · rw [ez]
    exact hpq
def eAbove : Ex := (.ite (.cmp .lt (.var 1) (.con (.int 2))) (.var 1) (.bin .add (.con (.int 1)) (.call 12 [0] (.cons .ref (.var 0) (.cons .val (.ix .val (.lst (.cons .val (.con (.int 9)) (.cons .val (.con (.int 99)) (.cons .val (.bin .sub (.bin .pow (.con (.int 10)) (.con (.int 9))) (.con (.int 1))) .nil)))) (.bin .fdiv (.var 1) (.con (.int 2)))) .nil)) .nil [])))
def eBelow : Ex := (.ite (.orr (.cmp .eq (.var 1) (.con (.int 0))) (.cmp .eq (.call 12 [0] (.cons .ref (.var 0) (.cons .val (.con (.int 3)) .nil)) .nil []) (.con (.int 0)))) (.con (.int 1)) (.bin .add (.con (.int 1)) (.call 12 [0] (.cons .ref (.var 0) (.cons .val (.ix .val (.lst (.cons .val (.con (.int 9)) (.cons .val (.bin .sub (.bin .pow (.con (.int 10)) (.con (.int 9))) (.con (.int 1))) .nil))) (.call 12 [0] (.cons .ref (.var 0) (.cons .val (.con (.int 2)) .nil)) .nil [])) .nil)) .nil [])))
theorem p109 : ∀ ρ, Z.kBin2 .pow (.int 10) (.int 9) ρ = .ok (.int 1000000000) ρ := fun ρ => by
  rw [Z.k_pow (by decide)]
  rfl
theorem sub109 : (1000000000 : Int) - 1 = 999999999 := by decide
theorem above_ok (k : Nat) {n : Nat} {w : D} {r : Int} (h : Wl n w) (hn : n < 2 ^ 39) (h0 : 0 ≤ r) (h6 : r < 6) : ∃ x w', evE (call Φ (k + 1)) eAbove [some w, some (.int r), none, none, none] = .ok (.int x) [some w', some (.int r), none, none, none] ∧ 0 ≤ x ∧ x ≤ 999999999 ∧ Wl (n + 1) w' := by
  obtain ⟨r1, w1, d1, a1, a2, a3⟩ := dip_ok k h (by omega) (m := 99) (by decide) (by decide)
  obtain ⟨r2, w2, d2, b1, b2, b3⟩ := dip_ok k h (by omega) (m := 999999999) (by decide) (by decide)
  have hd : divOk 2 = true := by decide
  have q1 : (2 : Int) / 2 = 1 := by decide
  have q2 : (3 : Int) / 2 = 1 := by decide
  have q3 : (4 : Int) / 2 = 2 := by decide
  have q4 : (5 : Int) / 2 = 2 := by decide
  have l0 : (0 : Int) < 2 := by decide
  have l1 : (1 : Int) < 2 := by decide
  have l2 : ¬ (2 : Int) < 2 := by decide
  have l3 : ¬ (3 : Int) < 2 := by decide
  have l4 : ¬ (4 : Int) < 2 := by decide
  have l5 : ¬ (5 : Int) < 2 := by decide
  have hr : r = 0 ∨ r = 1 ∨ r = 2 ∨ r = 3 ∨ r = 4 ∨ r = 5 := by omega
  rcases hr with rfl | rfl | rfl | rfl | rfl | rfl
  · exact ⟨0, w, by simp -implicitDefEqProofs only [eAbove, Out.bind_ok, Out.bind_exc, Z.s_con, Z.s_var, Z.k_var, Z.s_tup, Z.s_lst, Z.s_dct, Z.s_bin, Z.s_neg, Z.s_cmp, Z.s_isN, Z.s_nt, Z.s_an, Z.s_or, Z.s_ite, Z.s_ixV, Z.s_ixR, Z.s_sl, Z.s_call, Z.s_bi, Z.s_isiV, Z.s_isiR, Z.s_mt, Z.s_fs, Z.s_lc, Z.t_con, Z.t_var, Z.t_bin, Z.t_cmp, Z.t_isN, Z.t_nt, Z.t_an, Z.t_or, Z.t_ixV, Z.t_ixR, Z.t_call, Z.t_bi, Z.t_isiV, Z.t_isiR, Z.t_mt, Z.a_nil, Z.a_val, Z.a_ref, Z.o_non, Z.o_som, Z.f_nil, Z.f_cons, Z.i_rng, Z.i_ov, Z.k_tru_b, Z.k_tru_i, Z.k_bin, Z.k_add, Z.k_sub, Z.k_mul, Z.k_fdiv, Z.k_mod, Z.k_pow, Z.k_app, Z.k_lapp, Z.k_cmp, Z.c_lt, Z.c_le, Z.c_gt, Z.c_ge, Z.c_eqi, Z.c_nei, Z.c_eqs, Z.c_nes, Z.c_ins, Z.c_int, Z.k_neg, Z.k_isN, Z.nn_0t, Z.nn_1t, Z.nn_0i, Z.nn_1i, Z.nn_0s, Z.nn_1s, Z.nn_0b, Z.nn_1b, Z.nn_0l, Z.nn_1l, Z.nn_0n, Z.nn_1n, Z.k_nt, Z.k_ntT, Z.k_an1, Z.k_an0, Z.k_anT1, Z.k_anT0, Z.k_or1, Z.k_or0, Z.k_orT1, Z.k_orT0, Z.k_ite1, Z.k_ite0, Z.k_ix, Z.k_ix2, Z.k_ixR, Z.k_ixr, Z.k_ref, Z.k_ref_i, Z.k_ref_s, Z.k_ref_b, Z.k_ref_n, Z.k_ref_t, Z.i_lst, Z.i_tup, Z.i_scr, Z.i_str, Z.i_dcs, Z.i_dci, Z.l_hit, Z.at_0, Z.at_1, Z.at_2, Z.at_3, Z.k_sl, Z.k_sl2, Z.k_sl3, Z.k_tup, Z.k_tup2, Z.k_lst, Z.k_lst2, Z.k_dct, Z.k_dct2, Z.v_nil, Z.v_cons, Z.k_pv, Z.k_c1, Z.k_c2, Z.k_c2k, Z.k_cb, Z.k_tk, Z.k_ret, Z.k_retX, Z.k_put, Z.k_putX, Z.tk_nil, Z.tk_v, Z.tk_r, Z.k_tv, Z.k_tr, Z.p_nil, Z.p_v0, Z.p_v1, Z.p_r, Z.r_nil, Z.r_in, Z.r_no, Z.k_bi, Z.pk_nil0, Z.pk_v, Z.pk_r, Z.some_bind, Z.b_lens, Z.b_lenl, Z.b_lent, Z.b_lenc, Z.b_inti, Z.b_str, Z.b_abs, Z.b_max, Z.b_min, Z.b_gcd, Z.b_all, Z.b_any, Z.k_isi, Z.k_isr, Z.k_mt, Z.k_mt2, Z.m_sw, Z.k_lc2, Z.k_a, Z.k_a2, Z.k_ar, Z.k_aref, Z.k_o, Z.k_f, Z.k_f2, Z.fm_s, Z.fm_i, Z.k_rng, Z.k_ov, Z.o_some, Z.x_nil, Z.x_cons, Z.k_sq, Z.k_sqr, Z.k_sqb, Z.k_sqc, Z.x_ex, Z.k_ex0, Z.x_set, Z.k_set, Z.x_mset, Z.k_ms, Z.k_ms2, Z.sm_nil, Z.sm_cons, Z.x_par, Z.k_par, Z.k_par2, Z.x_aug, Z.k_aug, Z.k_aug2a, Z.k_aug2s, Z.x_si, Z.k_si, Z.k_si1, Z.k_si2, Z.k_si3_0, Z.k_si3_1, Z.k_si3_2, Z.x_ret, Z.k_ret1, Z.x_retR, Z.k_retR, Z.x_retN, Z.x_if, Z.k_if1, Z.k_if0, Z.k_w0, Z.k_w1, Z.k_w2n, Z.k_w2c, Z.k_w2b, Z.k_w2r, Z.x_for, Z.fo_nil, Z.k_fon, Z.k_foc, Z.k_fob, Z.k_for2, Z.g_for, Z.g_lc, Z.x_brk, Z.x_cnt, Z.x_pas, Z.lk_0, Z.lk_S, Z.set_0, Z.set_S, Z.fz_i, Z.fz_s, Z.fz_b, Z.fz_n, Z.fz_t, Z.fz_l, Z.fz_c, Z.fl_nil, Z.fl_cons, Z.e_ret, Z.e_nx, ↓reduceIte, List.length_cons, List.length_nil, Nat.reduceAdd, Nat.reduceLeDiff, Nat.zero_le, List.mem_cons, List.not_mem_nil, or_false, or_true, false_or, true_or, Nat.reduceEqDiff, not_false_eq_true, reduceCtorEq, Option.map_some, List.cons.injEq, and_true, true_and, and_false, false_and, decide_true, decide_false, Bool.not_true, Bool.not_false, ne_eq, Nat.reduceMul, Nat.reduceSub, List.map_cons, List.map_nil, List.replicate, List.cons_append, List.nil_append, List.append_nil, List.length_append, Nat.zero_add, List.append_assoc, l0], by omega, by omega, h.mono (by omega)⟩
  · exact ⟨1, w, by simp -implicitDefEqProofs only [eAbove, Out.bind_ok, Out.bind_exc, Z.s_con, Z.s_var, Z.k_var, Z.s_tup, Z.s_lst, Z.s_dct, Z.s_bin, Z.s_neg, Z.s_cmp, Z.s_isN, Z.s_nt, Z.s_an, Z.s_or, Z.s_ite, Z.s_ixV, Z.s_ixR, Z.s_sl, Z.s_call, Z.s_bi, Z.s_isiV, Z.s_isiR, Z.s_mt, Z.s_fs, Z.s_lc, Z.t_con, Z.t_var, Z.t_bin, Z.t_cmp, Z.t_isN, Z.t_nt, Z.t_an, Z.t_or, Z.t_ixV, Z.t_ixR, Z.t_call, Z.t_bi, Z.t_isiV, Z.t_isiR, Z.t_mt, Z.a_nil, Z.a_val, Z.a_ref, Z.o_non, Z.o_som, Z.f_nil, Z.f_cons, Z.i_rng, Z.i_ov, Z.k_tru_b, Z.k_tru_i, Z.k_bin, Z.k_add, Z.k_sub, Z.k_mul, Z.k_fdiv, Z.k_mod, Z.k_pow, Z.k_app, Z.k_lapp, Z.k_cmp, Z.c_lt, Z.c_le, Z.c_gt, Z.c_ge, Z.c_eqi, Z.c_nei, Z.c_eqs, Z.c_nes, Z.c_ins, Z.c_int, Z.k_neg, Z.k_isN, Z.nn_0t, Z.nn_1t, Z.nn_0i, Z.nn_1i, Z.nn_0s, Z.nn_1s, Z.nn_0b, Z.nn_1b, Z.nn_0l, Z.nn_1l, Z.nn_0n, Z.nn_1n, Z.k_nt, Z.k_ntT, Z.k_an1, Z.k_an0, Z.k_anT1, Z.k_anT0, Z.k_or1, Z.k_or0, Z.k_orT1, Z.k_orT0, Z.k_ite1, Z.k_ite0, Z.k_ix, Z.k_ix2, Z.k_ixR, Z.k_ixr, Z.k_ref, Z.k_ref_i, Z.k_ref_s, Z.k_ref_b, Z.k_ref_n, Z.k_ref_t, Z.i_lst, Z.i_tup, Z.i_scr, Z.i_str, Z.i_dcs, Z.i_dci, Z.l_hit, Z.at_0, Z.at_1, Z.at_2, Z.at_3, Z.k_sl, Z.k_sl2, Z.k_sl3, Z.k_tup, Z.k_tup2, Z.k_lst, Z.k_lst2, Z.k_dct, Z.k_dct2, Z.v_nil, Z.v_cons, Z.k_pv, Z.k_c1, Z.k_c2, Z.k_c2k, Z.k_cb, Z.k_tk, Z.k_ret, Z.k_retX, Z.k_put, Z.k_putX, Z.tk_nil, Z.tk_v, Z.tk_r, Z.k_tv, Z.k_tr, Z.p_nil, Z.p_v0, Z.p_v1, Z.p_r, Z.r_nil, Z.r_in, Z.r_no, Z.k_bi, Z.pk_nil0, Z.pk_v, Z.pk_r, Z.some_bind, Z.b_lens, Z.b_lenl, Z.b_lent, Z.b_lenc, Z.b_inti, Z.b_str, Z.b_abs, Z.b_max, Z.b_min, Z.b_gcd, Z.b_all, Z.b_any, Z.k_isi, Z.k_isr, Z.k_mt, Z.k_mt2, Z.m_sw, Z.k_lc2, Z.k_a, Z.k_a2, Z.k_ar, Z.k_aref, Z.k_o, Z.k_f, Z.k_f2, Z.fm_s, Z.fm_i, Z.k_rng, Z.k_ov, Z.o_some, Z.x_nil, Z.x_cons, Z.k_sq, Z.k_sqr, Z.k_sqb, Z.k_sqc, Z.x_ex, Z.k_ex0, Z.x_set, Z.k_set, Z.x_mset, Z.k_ms, Z.k_ms2, Z.sm_nil, Z.sm_cons, Z.x_par, Z.k_par, Z.k_par2, Z.x_aug, Z.k_aug, Z.k_aug2a, Z.k_aug2s, Z.x_si, Z.k_si, Z.k_si1, Z.k_si2, Z.k_si3_0, Z.k_si3_1, Z.k_si3_2, Z.x_ret, Z.k_ret1, Z.x_retR, Z.k_retR, Z.x_retN, Z.x_if, Z.k_if1, Z.k_if0, Z.k_w0, Z.k_w1, Z.k_w2n, Z.k_w2c, Z.k_w2b, Z.k_w2r, Z.x_for, Z.fo_nil, Z.k_fon, Z.k_foc, Z.k_fob, Z.k_for2, Z.g_for, Z.g_lc, Z.x_brk, Z.x_cnt, Z.x_pas, Z.lk_0, Z.lk_S, Z.set_0, Z.set_S, Z.fz_i, Z.fz_s, Z.fz_b, Z.fz_n, Z.fz_t, Z.fz_l, Z.fz_c, Z.fl_nil, Z.fl_cons, Z.e_ret, Z.e_nx, ↓reduceIte, List.length_cons, List.length_nil, Nat.reduceAdd, Nat.reduceLeDiff, Nat.zero_le, List.mem_cons, List.not_mem_nil, or_false, or_true, false_or, true_or, Nat.reduceEqDiff, not_false_eq_true, reduceCtorEq, Option.map_some, List.cons.injEq, and_true, true_and, and_false, false_and, decide_true, decide_false, Bool.not_true, Bool.not_false, ne_eq, Nat.reduceMul, Nat.reduceSub, List.map_cons, List.map_nil, List.replicate, List.cons_append, List.nil_append, List.append_nil, List.length_append, Nat.zero_add, List.append_assoc, l1], by omega, by omega, h.mono (by omega)⟩
  · exact ⟨1 + r1, w1, by simp -implicitDefEqProofs only [eAbove, Out.bind_ok, Out.bind_exc, Z.s_con, Z.s_var, Z.k_var, Z.s_tup, Z.s_lst, Z.s_dct, Z.s_bin, Z.s_neg, Z.s_cmp, Z.s_isN, Z.s_nt, Z.s_an, Z.s_or, Z.s_ite, Z.s_ixV, Z.s_ixR, Z.s_sl, Z.s_call, Z.s_bi, Z.s_isiV, Z.s_isiR, Z.s_mt, Z.s_fs, Z.s_lc, Z.t_con, Z.t_var, Z.t_bin, Z.t_cmp, Z.t_isN, Z.t_nt, Z.t_an, Z.t_or, Z.t_ixV, Z.t_ixR, Z.t_call, Z.t_bi, Z.t_isiV, Z.t_isiR, Z.t_mt, Z.a_nil, Z.a_val, Z.a_ref, Z.o_non, Z.o_som, Z.f_nil, Z.f_cons, Z.i_rng, Z.i_ov, Z.k_tru_b, Z.k_tru_i, Z.k_bin, Z.k_add, Z.k_sub, Z.k_mul, Z.k_fdiv, Z.k_mod, Z.k_pow, Z.k_app, Z.k_lapp, Z.k_cmp, Z.c_lt, Z.c_le, Z.c_gt, Z.c_ge, Z.c_eqi, Z.c_nei, Z.c_eqs, Z.c_nes, Z.c_ins, Z.c_int, Z.k_neg, Z.k_isN, Z.nn_0t, Z.nn_1t, Z.nn_0i, Z.nn_1i, Z.nn_0s, Z.nn_1s, Z.nn_0b, Z.nn_1b, Z.nn_0l, Z.nn_1l, Z.nn_0n, Z.nn_1n, Z.k_nt, Z.k_ntT, Z.k_an1, Z.k_an0, Z.k_anT1, Z.k_anT0, Z.k_or1, Z.k_or0, Z.k_orT1, Z.k_orT0, Z.k_ite1, Z.k_ite0, Z.k_ix, Z.k_ix2, Z.k_ixR, Z.k_ixr, Z.k_ref, Z.k_ref_i, Z.k_ref_s, Z.k_ref_b, Z.k_ref_n, Z.k_ref_t, Z.i_lst, Z.i_tup, Z.i_scr, Z.i_str, Z.i_dcs, Z.i_dci, Z.l_hit, Z.at_0, Z.at_1, Z.at_2, Z.at_3, Z.k_sl, Z.k_sl2, Z.k_sl3, Z.k_tup, Z.k_tup2, Z.k_lst, Z.k_lst2, Z.k_dct, Z.k_dct2, Z.v_nil, Z.v_cons, Z.k_pv, Z.k_c1, Z.k_c2, Z.k_c2k, Z.k_cb, Z.k_tk, Z.k_ret, Z.k_retX, Z.k_put, Z.k_putX, Z.tk_nil, Z.tk_v, Z.tk_r, Z.k_tv, Z.k_tr, Z.p_nil, Z.p_v0, Z.p_v1, Z.p_r, Z.r_nil, Z.r_in, Z.r_no, Z.k_bi, Z.pk_nil0, Z.pk_v, Z.pk_r, Z.some_bind, Z.b_lens, Z.b_lenl, Z.b_lent, Z.b_lenc, Z.b_inti, Z.b_str, Z.b_abs, Z.b_max, Z.b_min, Z.b_gcd, Z.b_all, Z.b_any, Z.k_isi, Z.k_isr, Z.k_mt, Z.k_mt2, Z.m_sw, Z.k_lc2, Z.k_a, Z.k_a2, Z.k_ar, Z.k_aref, Z.k_o, Z.k_f, Z.k_f2, Z.fm_s, Z.fm_i, Z.k_rng, Z.k_ov, Z.o_some, Z.x_nil, Z.x_cons, Z.k_sq, Z.k_sqr, Z.k_sqb, Z.k_sqc, Z.x_ex, Z.k_ex0, Z.x_set, Z.k_set, Z.x_mset, Z.k_ms, Z.k_ms2, Z.sm_nil, Z.sm_cons, Z.x_par, Z.k_par, Z.k_par2, Z.x_aug, Z.k_aug, Z.k_aug2a, Z.k_aug2s, Z.x_si, Z.k_si, Z.k_si1, Z.k_si2, Z.k_si3_0, Z.k_si3_1, Z.k_si3_2, Z.x_ret, Z.k_ret1, Z.x_retR, Z.k_retR, Z.x_retN, Z.x_if, Z.k_if1, Z.k_if0, Z.k_w0, Z.k_w1, Z.k_w2n, Z.k_w2c, Z.k_w2b, Z.k_w2r, Z.x_for, Z.fo_nil, Z.k_fon, Z.k_foc, Z.k_fob, Z.k_for2, Z.g_for, Z.g_lc, Z.x_brk, Z.x_cnt, Z.x_pas, Z.lk_0, Z.lk_S, Z.set_0, Z.set_S, Z.fz_i, Z.fz_s, Z.fz_b, Z.fz_n, Z.fz_t, Z.fz_l, Z.fz_c, Z.fl_nil, Z.fl_cons, Z.e_ret, Z.e_nx, ↓reduceIte, List.length_cons, List.length_nil, Nat.reduceAdd, Nat.reduceLeDiff, Nat.zero_le, List.mem_cons, List.not_mem_nil, or_false, or_true, false_or, true_or, Nat.reduceEqDiff, not_false_eq_true, reduceCtorEq, Option.map_some, List.cons.injEq, and_true, true_and, and_false, false_and, decide_true, decide_false, Bool.not_true, Bool.not_false, ne_eq, Nat.reduceMul, Nat.reduceSub, List.map_cons, List.map_nil, List.replicate, List.cons_append, List.nil_append, List.append_nil, List.length_append, Nat.zero_add, List.append_assoc, l2, hd, q1, p109, d1], by omega, by omega, a3⟩
  · exact ⟨1 + r1, w1, by simp -implicitDefEqProofs only [eAbove, Out.bind_ok, Out.bind_exc, Z.s_con, Z.s_var, Z.k_var, Z.s_tup, Z.s_lst, Z.s_dct, Z.s_bin, Z.s_neg, Z.s_cmp, Z.s_isN, Z.s_nt, Z.s_an, Z.s_or, Z.s_ite, Z.s_ixV, Z.s_ixR, Z.s_sl, Z.s_call, Z.s_bi, Z.s_isiV, Z.s_isiR, Z.s_mt, Z.s_fs, Z.s_lc, Z.t_con, Z.t_var, Z.t_bin, Z.t_cmp, Z.t_isN, Z.t_nt, Z.t_an, Z.t_or, Z.t_ixV, Z.t_ixR, Z.t_call, Z.t_bi, Z.t_isiV, Z.t_isiR, Z.t_mt, Z.a_nil, Z.a_val, Z.a_ref, Z.o_non, Z.o_som, Z.f_nil, Z.f_cons, Z.i_rng, Z.i_ov, Z.k_tru_b, Z.k_tru_i, Z.k_bin, Z.k_add, Z.k_sub, Z.k_mul, Z.k_fdiv, Z.k_mod, Z.k_pow, Z.k_app, Z.k_lapp, Z.k_cmp, Z.c_lt, Z.c_le, Z.c_gt, Z.c_ge, Z.c_eqi, Z.c_nei, Z.c_eqs, Z.c_nes, Z.c_ins, Z.c_int, Z.k_neg, Z.k_isN, Z.nn_0t, Z.nn_1t, Z.nn_0i, Z.nn_1i, Z.nn_0s, Z.nn_1s, Z.nn_0b, Z.nn_1b, Z.nn_0l, Z.nn_1l, Z.nn_0n, Z.nn_1n, Z.k_nt, Z.k_ntT, Z.k_an1, Z.k_an0, Z.k_anT1, Z.k_anT0, Z.k_or1, Z.k_or0, Z.k_orT1, Z.k_orT0, Z.k_ite1, Z.k_ite0, Z.k_ix, Z.k_ix2, Z.k_ixR, Z.k_ixr, Z.k_ref, Z.k_ref_i, Z.k_ref_s, Z.k_ref_b, Z.k_ref_n, Z.k_ref_t, Z.i_lst, Z.i_tup, Z.i_scr, Z.i_str, Z.i_dcs, Z.i_dci, Z.l_hit, Z.at_0, Z.at_1, Z.at_2, Z.at_3, Z.k_sl, Z.k_sl2, Z.k_sl3, Z.k_tup, Z.k_tup2, Z.k_lst, Z.k_lst2, Z.k_dct, Z.k_dct2, Z.v_nil, Z.v_cons, Z.k_pv, Z.k_c1, Z.k_c2, Z.k_c2k, Z.k_cb, Z.k_tk, Z.k_ret, Z.k_retX, Z.k_put, Z.k_putX, Z.tk_nil, Z.tk_v, Z.tk_r, Z.k_tv, Z.k_tr, Z.p_nil, Z.p_v0, Z.p_v1, Z.p_r, Z.r_nil, Z.r_in, Z.r_no, Z.k_bi, Z.pk_nil0, Z.pk_v, Z.pk_r, Z.some_bind, Z.b_lens, Z.b_lenl, Z.b_lent, Z.b_lenc, Z.b_inti, Z.b_str, Z.b_abs, Z.b_max, Z.b_min, Z.b_gcd, Z.b_all, Z.b_any, Z.k_isi, Z.k_isr, Z.k_mt, Z.k_mt2, Z.m_sw, Z.k_lc2, Z.k_a, Z.k_a2, Z.k_ar, Z.k_aref, Z.k_o, Z.k_f, Z.k_f2, Z.fm_s, Z.fm_i, Z.k_rng, Z.k_ov, Z.o_some, Z.x_nil, Z.x_cons, Z.k_sq, Z.k_sqr, Z.k_sqb, Z.k_sqc, Z.x_ex, Z.k_ex0, Z.x_set, Z.k_set, Z.x_mset, Z.k_ms, Z.k_ms2, Z.sm_nil, Z.sm_cons, Z.x_par, Z.k_par, Z.k_par2, Z.x_aug, Z.k_aug, Z.k_aug2a, Z.k_aug2s, Z.x_si, Z.k_si, Z.k_si1, Z.k_si2, Z.k_si3_0, Z.k_si3_1, Z.k_si3_2, Z.x_ret, Z.k_ret1, Z.x_retR, Z.k_retR, Z.x_retN, Z.x_if, Z.k_if1, Z.k_if0, Z.k_w0, Z.k_w1, Z.k_w2n, Z.k_w2c, Z.k_w2b, Z.k_w2r, Z.x_for, Z.fo_nil, Z.k_fon, Z.k_foc, Z.k_fob, Z.k_for2, Z.g_for, Z.g_lc, Z.x_brk, Z.x_cnt, Z.x_pas, Z.lk_0, Z.lk_S, Z.set_0, Z.set_S, Z.fz_i, Z.fz_s, Z.fz_b, Z.fz_n, Z.fz_t, Z.fz_l, Z.fz_c, Z.fl_nil, Z.fl_cons, Z.e_ret, Z.e_nx, ↓reduceIte, List.length_cons, List.length_nil, Nat.reduceAdd, Nat.reduceLeDiff, Nat.zero_le, List.mem_cons, List.not_mem_nil, or_false, or_true, false_or, true_or, Nat.reduceEqDiff, not_false_eq_true, reduceCtorEq, Option.map_some, List.cons.injEq, and_true, true_and, and_false, false_and, decide_true, decide_false, Bool.not_true, Bool.not_false, ne_eq, Nat.reduceMul, Nat.reduceSub, List.map_cons, List.map_nil, List.replicate, List.cons_append, List.nil_append, List.append_nil, List.length_append, Nat.zero_add, List.append_assoc, l3, hd, q2, p109, d1], by omega, by omega, a3⟩
  · exact ⟨1 + r2, w2, by simp -implicitDefEqProofs only [eAbove, Out.bind_ok, Out.bind_exc, Z.s_con, Z.s_var, Z.k_var, Z.s_tup, Z.s_lst, Z.s_dct, Z.s_bin, Z.s_neg, Z.s_cmp, Z.s_isN, Z.s_nt, Z.s_an, Z.s_or, Z.s_ite, Z.s_ixV, Z.s_ixR, Z.s_sl, Z.s_call, Z.s_bi, Z.s_isiV, Z.s_isiR, Z.s_mt, Z.s_fs, Z.s_lc, Z.t_con, Z.t_var, Z.t_bin, Z.t_cmp, Z.t_isN, Z.t_nt, Z.t_an, Z.t_or, Z.t_ixV, Z.t_ixR, Z.t_call, Z.t_bi, Z.t_isiV, Z.t_isiR, Z.t_mt, Z.a_nil, Z.a_val, Z.a_ref, Z.o_non, Z.o_som, Z.f_nil, Z.f_cons, Z.i_rng, Z.i_ov, Z.k_tru_b, Z.k_tru_i, Z.k_bin, Z.k_add, Z.k_sub, Z.k_mul, Z.k_fdiv, Z.k_mod, Z.k_pow, Z.k_app, Z.k_lapp, Z.k_cmp, Z.c_lt, Z.c_le, Z.c_gt, Z.c_ge, Z.c_eqi, Z.c_nei, Z.c_eqs, Z.c_nes, Z.c_ins, Z.c_int, Z.k_neg, Z.k_isN, Z.nn_0t, Z.nn_1t, Z.nn_0i, Z.nn_1i, Z.nn_0s, Z.nn_1s, Z.nn_0b, Z.nn_1b, Z.nn_0l, Z.nn_1l, Z.nn_0n, Z.nn_1n, Z.k_nt, Z.k_ntT, Z.k_an1, Z.k_an0, Z.k_anT1, Z.k_anT0, Z.k_or1, Z.k_or0, Z.k_orT1, Z.k_orT0, Z.k_ite1, Z.k_ite0, Z.k_ix, Z.k_ix2, Z.k_ixR, Z.k_ixr, Z.k_ref, Z.k_ref_i, Z.k_ref_s, Z.k_ref_b, Z.k_ref_n, Z.k_ref_t, Z.i_lst, Z.i_tup, Z.i_scr, Z.i_str, Z.i_dcs, Z.i_dci, Z.l_hit, Z.at_0, Z.at_1, Z.at_2, Z.at_3, Z.k_sl, Z.k_sl2, Z.k_sl3, Z.k_tup, Z.k_tup2, Z.k_lst, Z.k_lst2, Z.k_dct, Z.k_dct2, Z.v_nil, Z.v_cons, Z.k_pv, Z.k_c1, Z.k_c2, Z.k_c2k, Z.k_cb, Z.k_tk, Z.k_ret, Z.k_retX, Z.k_put, Z.k_putX, Z.tk_nil, Z.tk_v, Z.tk_r, Z.k_tv, Z.k_tr, Z.p_nil, Z.p_v0, Z.p_v1, Z.p_r, Z.r_nil, Z.r_in, Z.r_no, Z.k_bi, Z.pk_nil0, Z.pk_v, Z.pk_r, Z.some_bind, Z.b_lens, Z.b_lenl, Z.b_lent, Z.b_lenc, Z.b_inti, Z.b_str, Z.b_abs, Z.b_max, Z.b_min, Z.b_gcd, Z.b_all, Z.b_any, Z.k_isi, Z.k_isr, Z.k_mt, Z.k_mt2, Z.m_sw, Z.k_lc2, Z.k_a, Z.k_a2, Z.k_ar, Z.k_aref, Z.k_o, Z.k_f, Z.k_f2, Z.fm_s, Z.fm_i, Z.k_rng, Z.k_ov, Z.o_some, Z.x_nil, Z.x_cons, Z.k_sq, Z.k_sqr, Z.k_sqb, Z.k_sqc, Z.x_ex, Z.k_ex0, Z.x_set, Z.k_set, Z.x_mset, Z.k_ms, Z.k_ms2, Z.sm_nil, Z.sm_cons, Z.x_par, Z.k_par, Z.k_par2, Z.x_aug, Z.k_aug, Z.k_aug2a, Z.k_aug2s, Z.x_si, Z.k_si, Z.k_si1, Z.k_si2, Z.k_si3_0, Z.k_si3_1, Z.k_si3_2, Z.x_ret, Z.k_ret1, Z.x_retR, Z.k_retR, Z.x_retN, Z.x_if, Z.k_if1, Z.k_if0, Z.k_w0, Z.k_w1, Z.k_w2n, Z.k_w2c, Z.k_w2b, Z.k_w2r, Z.x_for, Z.fo_nil, Z.k_fon, Z.k_foc, Z.k_fob, Z.k_for2, Z.g_for, Z.g_lc, Z.x_brk, Z.x_cnt, Z.x_pas, Z.lk_0, Z.lk_S, Z.set_0, Z.set_S, Z.fz_i, Z.fz_s, Z.fz_b, Z.fz_n, Z.fz_t, Z.fz_l, Z.fz_c, Z.fl_nil, Z.fl_cons, Z.e_ret, Z.e_nx, ↓reduceIte, List.length_cons, List.length_nil, Nat.reduceAdd, Nat.reduceLeDiff, Nat.zero_le, List.mem_cons, List.not_mem_nil, or_false, or_true, false_or, true_or, Nat.reduceEqDiff, not_false_eq_true, reduceCtorEq, Option.map_some, List.cons.injEq, and_true, true_and, and_false, false_and, decide_true, decide_false, Bool.not_true, Bool.not_false, ne_eq, Nat.reduceMul, Nat.reduceSub, List.map_cons, List.map_nil, List.replicate, List.cons_append, List.nil_append, List.append_nil, List.length_append, Nat.zero_add, List.append_assoc, l4, hd, q3, p109, sub109, d2], by omega, by omega, b3⟩
  · exact ⟨1 + r2, w2, by simp -implicitDefEqProofs only [eAbove, Out.bind_ok, Out.bind_exc, Z.s_con, Z.s_var, Z.k_var, Z.s_tup, Z.s_lst, Z.s_dct, Z.s_bin, Z.s_neg, Z.s_cmp, Z.s_isN, Z.s_nt, Z.s_an, Z.s_or, Z.s_ite, Z.s_ixV, Z.s_ixR, Z.s_sl, Z.s_call, Z.s_bi, Z.s_isiV, Z.s_isiR, Z.s_mt, Z.s_fs, Z.s_lc, Z.t_con, Z.t_var, Z.t_bin, Z.t_cmp, Z.t_isN, Z.t_nt, Z.t_an, Z.t_or, Z.t_ixV, Z.t_ixR, Z.t_call, Z.t_bi, Z.t_isiV, Z.t_isiR, Z.t_mt, Z.a_nil, Z.a_val, Z.a_ref, Z.o_non, Z.o_som, Z.f_nil, Z.f_cons, Z.i_rng, Z.i_ov, Z.k_tru_b, Z.k_tru_i, Z.k_bin, Z.k_add, Z.k_sub, Z.k_mul, Z.k_fdiv, Z.k_mod, Z.k_pow, Z.k_app, Z.k_lapp, Z.k_cmp, Z.c_lt, Z.c_le, Z.c_gt, Z.c_ge, Z.c_eqi, Z.c_nei, Z.c_eqs, Z.c_nes, Z.c_ins, Z.c_int, Z.k_neg, Z.k_isN, Z.nn_0t, Z.nn_1t, Z.nn_0i, Z.nn_1i, Z.nn_0s, Z.nn_1s, Z.nn_0b, Z.nn_1b, Z.nn_0l, Z.nn_1l, Z.nn_0n, Z.nn_1n, Z.k_nt, Z.k_ntT, Z.k_an1, Z.k_an0, Z.k_anT1, Z.k_anT0, Z.k_or1, Z.k_or0, Z.k_orT1, Z.k_orT0, Z.k_ite1, Z.k_ite0, Z.k_ix, Z.k_ix2, Z.k_ixR, Z.k_ixr, Z.k_ref, Z.k_ref_i, Z.k_ref_s, Z.k_ref_b, Z.k_ref_n, Z.k_ref_t, Z.i_lst, Z.i_tup, Z.i_scr, Z.i_str, Z.i_dcs, Z.i_dci, Z.l_hit, Z.at_0, Z.at_1, Z.at_2, Z.at_3, Z.k_sl, Z.k_sl2, Z.k_sl3, Z.k_tup, Z.k_tup2, Z.k_lst, Z.k_lst2, Z.k_dct, Z.k_dct2, Z.v_nil, Z.v_cons, Z.k_pv, Z.k_c1, Z.k_c2, Z.k_c2k, Z.k_cb, Z.k_tk, Z.k_ret, Z.k_retX, Z.k_put, Z.k_putX, Z.tk_nil, Z.tk_v, Z.tk_r, Z.k_tv, Z.k_tr, Z.p_nil, Z.p_v0, Z.p_v1, Z.p_r, Z.r_nil, Z.r_in, Z.r_no, Z.k_bi, Z.pk_nil0, Z.pk_v, Z.pk_r, Z.some_bind, Z.b_lens, Z.b_lenl, Z.b_lent, Z.b_lenc, Z.b_inti, Z.b_str, Z.b_abs, Z.b_max, Z.b_min, Z.b_gcd, Z.b_all, Z.b_any, Z.k_isi, Z.k_isr, Z.k_mt, Z.k_mt2, Z.m_sw, Z.k_lc2, Z.k_a, Z.k_a2, Z.k_ar, Z.k_aref, Z.k_o, Z.k_f, Z.k_f2, Z.fm_s, Z.fm_i, Z.k_rng, Z.k_ov, Z.o_some, Z.x_nil, Z.x_cons, Z.k_sq, Z.k_sqr, Z.k_sqb, Z.k_sqc, Z.x_ex, Z.k_ex0, Z.x_set, Z.k_set, Z.x_mset, Z.k_ms, Z.k_ms2, Z.sm_nil, Z.sm_cons, Z.x_par, Z.k_par, Z.k_par2, Z.x_aug, Z.k_aug, Z.k_aug2a, Z.k_aug2s, Z.x_si, Z.k_si, Z.k_si1, Z.k_si2, Z.k_si3_0, Z.k_si3_1, Z.k_si3_2, Z.x_ret, Z.k_ret1, Z.x_retR, Z.k_retR, Z.x_retN, Z.x_if, Z.k_if1, Z.k_if0, Z.k_w0, Z.k_w1, Z.k_w2n, Z.k_w2c, Z.k_w2b, Z.k_w2r, Z.x_for, Z.fo_nil, Z.k_fon, Z.k_foc, Z.k_fob, Z.k_for2, Z.g_for, Z.g_lc, Z.x_brk, Z.x_cnt, Z.x_pas, Z.lk_0, Z.lk_S, Z.set_0, Z.set_S, Z.fz_i, Z.fz_s, Z.fz_b, Z.fz_n, Z.fz_t, Z.fz_l, Z.fz_c, Z.fl_nil, Z.fl_cons, Z.e_ret, Z.e_nx, ↓reduceIte, List.length_cons, List.length_nil, Nat.reduceAdd, Nat.reduceLeDiff, Nat.zero_le, List.mem_cons, List.not_mem_nil, or_false, or_true, false_or, true_or, Nat.reduceEqDiff, not_false_eq_true, reduceCtorEq, Option.map_some, List.cons.injEq, and_true, true_and, and_false, false_and, decide_true, decide_false, Bool.not_true, Bool.not_false, ne_eq, Nat.reduceMul, Nat.reduceSub, List.map_cons, List.map_nil, List.replicate, List.cons_append, List.nil_append, List.append_nil, List.length_append, Nat.zero_add, List.append_assoc, l5, hd, q4, p109, sub109, d2], by omega, by omega, b3⟩
theorem below_ok (k : Nat) {n : Nat} {w : D} {r x : Int} (h : Wl n w) (hn : n < 2 ^ 39) : ∃ (y : Nat) (w' : D), evE (call Φ (k + 1)) eBelow [some w, some (.int r), some (.int x), none, none] = .ok (.int (y : Int)) [some w', some (.int r), some (.int x), none, none] ∧ 1 ≤ y ∧ y ≤ 999999999 ∧ Wl (n + 3) w' := by
  by_cases h0 : r = 0
  · exact ⟨1, w, by simp -implicitDefEqProofs only [eBelow, Out.bind_ok, Out.bind_exc, Z.s_con, Z.s_var, Z.k_var, Z.s_tup, Z.s_lst, Z.s_dct, Z.s_bin, Z.s_neg, Z.s_cmp, Z.s_isN, Z.s_nt, Z.s_an, Z.s_or, Z.s_ite, Z.s_ixV, Z.s_ixR, Z.s_sl, Z.s_call, Z.s_bi, Z.s_isiV, Z.s_isiR, Z.s_mt, Z.s_fs, Z.s_lc, Z.t_con, Z.t_var, Z.t_bin, Z.t_cmp, Z.t_isN, Z.t_nt, Z.t_an, Z.t_or, Z.t_ixV, Z.t_ixR, Z.t_call, Z.t_bi, Z.t_isiV, Z.t_isiR, Z.t_mt, Z.a_nil, Z.a_val, Z.a_ref, Z.o_non, Z.o_som, Z.f_nil, Z.f_cons, Z.i_rng, Z.i_ov, Z.k_tru_b, Z.k_tru_i, Z.k_bin, Z.k_add, Z.k_sub, Z.k_mul, Z.k_fdiv, Z.k_mod, Z.k_pow, Z.k_app, Z.k_lapp, Z.k_cmp, Z.c_lt, Z.c_le, Z.c_gt, Z.c_ge, Z.c_eqi, Z.c_nei, Z.c_eqs, Z.c_nes, Z.c_ins, Z.c_int, Z.k_neg, Z.k_isN, Z.nn_0t, Z.nn_1t, Z.nn_0i, Z.nn_1i, Z.nn_0s, Z.nn_1s, Z.nn_0b, Z.nn_1b, Z.nn_0l, Z.nn_1l, Z.nn_0n, Z.nn_1n, Z.k_nt, Z.k_ntT, Z.k_an1, Z.k_an0, Z.k_anT1, Z.k_anT0, Z.k_or1, Z.k_or0, Z.k_orT1, Z.k_orT0, Z.k_ite1, Z.k_ite0, Z.k_ix, Z.k_ix2, Z.k_ixR, Z.k_ixr, Z.k_ref, Z.k_ref_i, Z.k_ref_s, Z.k_ref_b, Z.k_ref_n, Z.k_ref_t, Z.i_lst, Z.i_tup, Z.i_scr, Z.i_str, Z.i_dcs, Z.i_dci, Z.l_hit, Z.at_0, Z.at_1, Z.at_2, Z.at_3, Z.k_sl, Z.k_sl2, Z.k_sl3, Z.k_tup, Z.k_tup2, Z.k_lst, Z.k_lst2, Z.k_dct, Z.k_dct2, Z.v_nil, Z.v_cons, Z.k_pv, Z.k_c1, Z.k_c2, Z.k_c2k, Z.k_cb, Z.k_tk, Z.k_ret, Z.k_retX, Z.k_put, Z.k_putX, Z.tk_nil, Z.tk_v, Z.tk_r, Z.k_tv, Z.k_tr, Z.p_nil, Z.p_v0, Z.p_v1, Z.p_r, Z.r_nil, Z.r_in, Z.r_no, Z.k_bi, Z.pk_nil0, Z.pk_v, Z.pk_r, Z.some_bind, Z.b_lens, Z.b_lenl, Z.b_lent, Z.b_lenc, Z.b_inti, Z.b_str, Z.b_abs, Z.b_max, Z.b_min, Z.b_gcd, Z.b_all, Z.b_any, Z.k_isi, Z.k_isr, Z.k_mt, Z.k_mt2, Z.m_sw, Z.k_lc2, Z.k_a, Z.k_a2, Z.k_ar, Z.k_aref, Z.k_o, Z.k_f, Z.k_f2, Z.fm_s, Z.fm_i, Z.k_rng, Z.k_ov, Z.o_some, Z.x_nil, Z.x_cons, Z.k_sq, Z.k_sqr, Z.k_sqb, Z.k_sqc, Z.x_ex, Z.k_ex0, Z.x_set, Z.k_set, Z.x_mset, Z.k_ms, Z.k_ms2, Z.sm_nil, Z.sm_cons, Z.x_par, Z.k_par, Z.k_par2, Z.x_aug, Z.k_aug, Z.k_aug2a, Z.k_aug2s, Z.x_si, Z.k_si, Z.k_si1, Z.k_si2, Z.k_si3_0, Z.k_si3_1, Z.k_si3_2, Z.x_ret, Z.k_ret1, Z.x_retR, Z.k_retR, Z.x_retN, Z.x_if, Z.k_if1, Z.k_if0, Z.k_w0, Z.k_w1, Z.k_w2n, Z.k_w2c, Z.k_w2b, Z.k_w2r, Z.x_for, Z.fo_nil, Z.k_fon, Z.k_foc, Z.k_fob, Z.k_for2, Z.g_for, Z.g_lc, Z.x_brk, Z.x_cnt, Z.x_pas, Z.lk_0, Z.lk_S, Z.set_0, Z.set_S, Z.fz_i, Z.fz_s, Z.fz_b, Z.fz_n, Z.fz_t, Z.fz_l, Z.fz_c, Z.fl_nil, Z.fl_cons, Z.e_ret, Z.e_nx, ↓reduceIte, List.length_cons, List.length_nil, Nat.reduceAdd, Nat.reduceLeDiff, Nat.zero_le, List.mem_cons, List.not_mem_nil, or_false, or_true, false_or, true_or, Nat.reduceEqDiff, not_false_eq_true, reduceCtorEq, Option.map_some, List.cons.injEq, and_true, true_and, and_false, false_and, decide_true, decide_false, Bool.not_true, Bool.not_false, ne_eq, Nat.reduceMul, Nat.reduceSub, List.map_cons, List.map_nil, List.replicate, List.cons_append, List.nil_append, List.append_nil, List.length_append, Nat.zero_add, List.append_assoc, h0]; rfl, by omega, by omega, h.mono (by omega)⟩
  · obtain ⟨r1, w1, d1, a1, a2, a3⟩ := dip_ok k h (by omega) (m := 3) (by decide) (by decide)
    by_cases h1 : r1 = 0
    · exact ⟨1, w1, by simp -implicitDefEqProofs only [eBelow, Out.bind_ok, Out.bind_exc, Z.s_con, Z.s_var, Z.k_var, Z.s_tup, Z.s_lst, Z.s_dct, Z.s_bin, Z.s_neg, Z.s_cmp, Z.s_isN, Z.s_nt, Z.s_an, Z.s_or, Z.s_ite, Z.s_ixV, Z.s_ixR, Z.s_sl, Z.s_call, Z.s_bi, Z.s_isiV, Z.s_isiR, Z.s_mt, Z.s_fs, Z.s_lc, Z.t_con, Z.t_var, Z.t_bin, Z.t_cmp, Z.t_isN, Z.t_nt, Z.t_an, Z.t_or, Z.t_ixV, Z.t_ixR, Z.t_call, Z.t_bi, Z.t_isiV, Z.t_isiR, Z.t_mt, Z.a_nil, Z.a_val, Z.a_ref, Z.o_non, Z.o_som, Z.f_nil, Z.f_cons, Z.i_rng, Z.i_ov, Z.k_tru_b, Z.k_tru_i, Z.k_bin, Z.k_add, Z.k_sub, Z.k_mul, Z.k_fdiv, Z.k_mod, Z.k_pow, Z.k_app, Z.k_lapp, Z.k_cmp, Z.c_lt, Z.c_le, Z.c_gt, Z.c_ge, Z.c_eqi, Z.c_nei, Z.c_eqs, Z.c_nes, Z.c_ins, Z.c_int, Z.k_neg, Z.k_isN, Z.nn_0t, Z.nn_1t, Z.nn_0i, Z.nn_1i, Z.nn_0s, Z.nn_1s, Z.nn_0b, Z.nn_1b, Z.nn_0l, Z.nn_1l, Z.nn_0n, Z.nn_1n, Z.k_nt, Z.k_ntT, Z.k_an1, Z.k_an0, Z.k_anT1, Z.k_anT0, Z.k_or1, Z.k_or0, Z.k_orT1, Z.k_orT0, Z.k_ite1, Z.k_ite0, Z.k_ix, Z.k_ix2, Z.k_ixR, Z.k_ixr, Z.k_ref, Z.k_ref_i, Z.k_ref_s, Z.k_ref_b, Z.k_ref_n, Z.k_ref_t, Z.i_lst, Z.i_tup, Z.i_scr, Z.i_str, Z.i_dcs, Z.i_dci, Z.l_hit, Z.at_0, Z.at_1, Z.at_2, Z.at_3, Z.k_sl, Z.k_sl2, Z.k_sl3, Z.k_tup, Z.k_tup2, Z.k_lst, Z.k_lst2, Z.k_dct, Z.k_dct2, Z.v_nil, Z.v_cons, Z.k_pv, Z.k_c1, Z.k_c2, Z.k_c2k, Z.k_cb, Z.k_tk, Z.k_ret, Z.k_retX, Z.k_put, Z.k_putX, Z.tk_nil, Z.tk_v, Z.tk_r, Z.k_tv, Z.k_tr, Z.p_nil, Z.p_v0, Z.p_v1, Z.p_r, Z.r_nil, Z.r_in, Z.r_no, Z.k_bi, Z.pk_nil0, Z.pk_v, Z.pk_r, Z.some_bind, Z.b_lens, Z.b_lenl, Z.b_lent, Z.b_lenc, Z.b_inti, Z.b_str, Z.b_abs, Z.b_max, Z.b_min, Z.b_gcd, Z.b_all, Z.b_any, Z.k_isi, Z.k_isr, Z.k_mt, Z.k_mt2, Z.m_sw, Z.k_lc2, Z.k_a, Z.k_a2, Z.k_ar, Z.k_aref, Z.k_o, Z.k_f, Z.k_f2, Z.fm_s, Z.fm_i, Z.k_rng, Z.k_ov, Z.o_some, Z.x_nil, Z.x_cons, Z.k_sq, Z.k_sqr, Z.k_sqb, Z.k_sqc, Z.x_ex, Z.k_ex0, Z.x_set, Z.k_set, Z.x_mset, Z.k_ms, Z.k_ms2, Z.sm_nil, Z.sm_cons, Z.x_par, Z.k_par, Z.k_par2, Z.x_aug, Z.k_aug, Z.k_aug2a, Z.k_aug2s, Z.x_si, Z.k_si, Z.k_si1, Z.k_si2, Z.k_si3_0, Z.k_si3_1, Z.k_si3_2, Z.x_ret, Z.k_ret1, Z.x_retR, Z.k_retR, Z.x_retN, Z.x_if, Z.k_if1, Z.k_if0, Z.k_w0, Z.k_w1, Z.k_w2n, Z.k_w2c, Z.k_w2b, Z.k_w2r, Z.x_for, Z.fo_nil, Z.k_fon, Z.k_foc, Z.k_fob, Z.k_for2, Z.g_for, Z.g_lc, Z.x_brk, Z.x_cnt, Z.x_pas, Z.lk_0, Z.lk_S, Z.set_0, Z.set_S, Z.fz_i, Z.fz_s, Z.fz_b, Z.fz_n, Z.fz_t, Z.fz_l, Z.fz_c, Z.fl_nil, Z.fl_cons, Z.e_ret, Z.e_nx, ↓reduceIte, List.length_cons, List.length_nil, Nat.reduceAdd, Nat.reduceLeDiff, Nat.zero_le, List.mem_cons, List.not_mem_nil, or_false, or_true, false_or, true_or, Nat.reduceEqDiff, not_false_eq_true, reduceCtorEq, Option.map_some, List.cons.injEq, and_true, true_and, and_false, false_and, decide_true, decide_false, Bool.not_true, Bool.not_false, ne_eq, Nat.reduceMul, Nat.reduceSub, List.map_cons, List.map_nil, List.replicate, List.cons_append, List.nil_append, List.append_nil, List.length_append, Nat.zero_add, List.append_assoc, h0, d1, h1]; rfl, by omega, by omega, a3.mono (by omega)⟩
    · obtain ⟨r2, w2, d2, b1, b2, b3⟩ := dip_ok k a3 (by omega) (m := 2) (by decide) (by decide)
      obtain ⟨r3, w3, d3, c1, c2, c3⟩ := dip_ok k b3 (by omega) (m := 9) (by decide) (by decide)
      obtain ⟨r4, w4, d4, e1, e2, e3⟩ := dip_ok k b3 (by omega) (m := 999999999) (by decide) (by decide)
      have hr : r2 = 0 ∨ r2 = 1 := by omega
      rcases hr with rfl | rfl
      · refine ⟨(1 + r3).toNat, w3, ?_, by omega, by omega, c3⟩
        rw [show (((1 + r3).toNat : Nat) : Int) = 1 + r3 by omega]
        simp -implicitDefEqProofs only [eBelow, Out.bind_ok, Out.bind_exc, Z.s_con, Z.s_var, Z.k_var, Z.s_tup, Z.s_lst, Z.s_dct, Z.s_bin, Z.s_neg, Z.s_cmp, Z.s_isN, Z.s_nt, Z.s_an, Z.s_or, Z.s_ite, Z.s_ixV, Z.s_ixR, Z.s_sl, Z.s_call, Z.s_bi, Z.s_isiV, Z.s_isiR, Z.s_mt, Z.s_fs, Z.s_lc, Z.t_con, Z.t_var, Z.t_bin, Z.t_cmp, Z.t_isN, Z.t_nt, Z.t_an, Z.t_or, Z.t_ixV, Z.t_ixR, Z.t_call, Z.t_bi, Z.t_isiV, Z.t_isiR, Z.t_mt, Z.a_nil, Z.a_val, Z.a_ref, Z.o_non, Z.o_som, Z.f_nil, Z.f_cons, Z.i_rng, Z.i_ov, Z.k_tru_b, Z.k_tru_i, Z.k_bin, Z.k_add, Z.k_sub, Z.k_mul, Z.k_fdiv, Z.k_mod, Z.k_pow, Z.k_app, Z.k_lapp, Z.k_cmp, Z.c_lt, Z.c_le, Z.c_gt, Z.c_ge, Z.c_eqi, Z.c_nei, Z.c_eqs, Z.c_nes, Z.c_ins, Z.c_int, Z.k_neg, Z.k_isN, Z.nn_0t, Z.nn_1t, Z.nn_0i, Z.nn_1i, Z.nn_0s, Z.nn_1s, Z.nn_0b, Z.nn_1b, Z.nn_0l, Z.nn_1l, Z.nn_0n, Z.nn_1n, Z.k_nt, Z.k_ntT, Z.k_an1, Z.k_an0, Z.k_anT1, Z.k_anT0, Z.k_or1, Z.k_or0, Z.k_orT1, Z.k_orT0, Z.k_ite1, Z.k_ite0, Z.k_ix, Z.k_ix2, Z.k_ixR, Z.k_ixr, Z.k_ref, Z.k_ref_i, Z.k_ref_s, Z.k_ref_b, Z.k_ref_n, Z.k_ref_t, Z.i_lst, Z.i_tup, Z.i_scr, Z.i_str, Z.i_dcs, Z.i_dci, Z.l_hit, Z.at_0, Z.at_1, Z.at_2, Z.at_3, Z.k_sl, Z.k_sl2, Z.k_sl3, Z.k_tup, Z.k_tup2, Z.k_lst, Z.k_lst2, Z.k_dct, Z.k_dct2, Z.v_nil, Z.v_cons, Z.k_pv, Z.k_c1, Z.k_c2, Z.k_c2k, Z.k_cb, Z.k_tk, Z.k_ret, Z.k_retX, Z.k_put, Z.k_putX, Z.tk_nil, Z.tk_v, Z.tk_r, Z.k_tv, Z.k_tr, Z.p_nil, Z.p_v0, Z.p_v1, Z.p_r, Z.r_nil, Z.r_in, Z.r_no, Z.k_bi, Z.pk_nil0, Z.pk_v, Z.pk_r, Z.some_bind, Z.b_lens, Z.b_lenl, Z.b_lent, Z.b_lenc, Z.b_inti, Z.b_str, Z.b_abs, Z.b_max, Z.b_min, Z.b_gcd, Z.b_all, Z.b_any, Z.k_isi, Z.k_isr, Z.k_mt, Z.k_mt2, Z.m_sw, Z.k_lc2, Z.k_a, Z.k_a2, Z.k_ar, Z.k_aref, Z.k_o, Z.k_f, Z.k_f2, Z.fm_s, Z.fm_i, Z.k_rng, Z.k_ov, Z.o_some, Z.x_nil, Z.x_cons, Z.k_sq, Z.k_sqr, Z.k_sqb, Z.k_sqc, Z.x_ex, Z.k_ex0, Z.x_set, Z.k_set, Z.x_mset, Z.k_ms, Z.k_ms2, Z.sm_nil, Z.sm_cons, Z.x_par, Z.k_par, Z.k_par2, Z.x_aug, Z.k_aug, Z.k_aug2a, Z.k_aug2s, Z.x_si, Z.k_si, Z.k_si1, Z.k_si2, Z.k_si3_0, Z.k_si3_1, Z.k_si3_2, Z.x_ret, Z.k_ret1, Z.x_retR, Z.k_retR, Z.x_retN, Z.x_if, Z.k_if1, Z.k_if0, Z.k_w0, Z.k_w1, Z.k_w2n, Z.k_w2c, Z.k_w2b, Z.k_w2r, Z.x_for, Z.fo_nil, Z.k_fon, Z.k_foc, Z.k_fob, Z.k_for2, Z.g_for, Z.g_lc, Z.x_brk, Z.x_cnt, Z.x_pas, Z.lk_0, Z.lk_S, Z.set_0, Z.set_S, Z.fz_i, Z.fz_s, Z.fz_b, Z.fz_n, Z.fz_t, Z.fz_l, Z.fz_c, Z.fl_nil, Z.fl_cons, Z.e_ret, Z.e_nx, ↓reduceIte, List.length_cons, List.length_nil, Nat.reduceAdd, Nat.reduceLeDiff, Nat.zero_le, List.mem_cons, List.not_mem_nil, or_false, or_true, false_or, true_or, Nat.reduceEqDiff, not_false_eq_true, reduceCtorEq, Option.map_some, List.cons.injEq, and_true, true_and, and_false, false_and, decide_true, decide_false, Bool.not_true, Bool.not_false, ne_eq, Nat.reduceMul, Nat.reduceSub, List.map_cons, List.map_nil, List.replicate, List.cons_append, List.nil_append, List.append_nil, List.length_append, Nat.zero_add, List.append_assoc, h0, d1, h1, d2, p109, sub109, d3]
      · refine ⟨(1 + r4).toNat, w4, ?_, by omega, by omega, e3⟩
        rw [show (((1 + r4).toNat : Nat) : Int) = 1 + r4 by omega]
        simp -implicitDefEqProofs only [eBelow, Out.bind_ok, Out.bind_exc, Z.s_con, Z.s_var, Z.k_var, Z.s_tup, Z.s_lst, Z.s_dct, Z.s_bin, Z.s_neg, Z.s_cmp, Z.s_isN, Z.s_nt, Z.s_an, Z.s_or, Z.s_ite, Z.s_ixV, Z.s_ixR, Z.s_sl, Z.s_call, Z.s_bi, Z.s_isiV, Z.s_isiR, Z.s_mt, Z.s_fs, Z.s_lc, Z.t_con, Z.t_var, Z.t_bin, Z.t_cmp, Z.t_isN, Z.t_nt, Z.t_an, Z.t_or, Z.t_ixV, Z.t_ixR, Z.t_call, Z.t_bi, Z.t_isiV, Z.t_isiR, Z.t_mt, Z.a_nil, Z.a_val, Z.a_ref, Z.o_non, Z.o_som, Z.f_nil, Z.f_cons, Z.i_rng, Z.i_ov, Z.k_tru_b, Z.k_tru_i, Z.k_bin, Z.k_add, Z.k_sub, Z.k_mul, Z.k_fdiv, Z.k_mod, Z.k_pow, Z.k_app, Z.k_lapp, Z.k_cmp, Z.c_lt, Z.c_le, Z.c_gt, Z.c_ge, Z.c_eqi, Z.c_nei, Z.c_eqs, Z.c_nes, Z.c_ins, Z.c_int, Z.k_neg, Z.k_isN, Z.nn_0t, Z.nn_1t, Z.nn_0i, Z.nn_1i, Z.nn_0s, Z.nn_1s, Z.nn_0b, Z.nn_1b, Z.nn_0l, Z.nn_1l, Z.nn_0n, Z.nn_1n, Z.k_nt, Z.k_ntT, Z.k_an1, Z.k_an0, Z.k_anT1, Z.k_anT0, Z.k_or1, Z.k_or0, Z.k_orT1, Z.k_orT0, Z.k_ite1, Z.k_ite0, Z.k_ix, Z.k_ix2, Z.k_ixR, Z.k_ixr, Z.k_ref, Z.k_ref_i, Z.k_ref_s, Z.k_ref_b, Z.k_ref_n, Z.k_ref_t, Z.i_lst, Z.i_tup, Z.i_scr, Z.i_str, Z.i_dcs, Z.i_dci, Z.l_hit, Z.at_0, Z.at_1, Z.at_2, Z.at_3, Z.k_sl, Z.k_sl2, Z.k_sl3, Z.k_tup, Z.k_tup2, Z.k_lst, Z.k_lst2, Z.k_dct, Z.k_dct2, Z.v_nil, Z.v_cons, Z.k_pv, Z.k_c1, Z.k_c2, Z.k_c2k, Z.k_cb, Z.k_tk, Z.k_ret, Z.k_retX, Z.k_put, Z.k_putX, Z.tk_nil, Z.tk_v, Z.tk_r, Z.k_tv, Z.k_tr, Z.p_nil, Z.p_v0, Z.p_v1, Z.p_r, Z.r_nil, Z.r_in, Z.r_no, Z.k_bi, Z.pk_nil0, Z.pk_v, Z.pk_r, Z.some_bind, Z.b_lens, Z.b_lenl, Z.b_lent, Z.b_lenc, Z.b_inti, Z.b_str, Z.b_abs, Z.b_max, Z.b_min, Z.b_gcd, Z.b_all, Z.b_any, Z.k_isi, Z.k_isr, Z.k_mt, Z.k_mt2, Z.m_sw, Z.k_lc2, Z.k_a, Z.k_a2, Z.k_ar, Z.k_aref, Z.k_o, Z.k_f, Z.k_f2, Z.fm_s, Z.fm_i, Z.k_rng, Z.k_ov, Z.o_some, Z.x_nil, Z.x_cons, Z.k_sq, Z.k_sqr, Z.k_sqb, Z.k_sqc, Z.x_ex, Z.k_ex0, Z.x_set, Z.k_set, Z.x_mset, Z.k_ms, Z.k_ms2, Z.sm_nil, Z.sm_cons, Z.x_par, Z.k_par, Z.k_par2, Z.x_aug, Z.k_aug, Z.k_aug2a, Z.k_aug2s, Z.x_si, Z.k_si, Z.k_si1, Z.k_si2, Z.k_si3_0, Z.k_si3_1, Z.k_si3_2, Z.x_ret, Z.k_ret1, Z.x_retR, Z.k_retR, Z.x_retN, Z.x_if, Z.k_if1, Z.k_if0, Z.k_w0, Z.k_w1, Z.k_w2n, Z.k_w2c, Z.k_w2b, Z.k_w2r, Z.x_for, Z.fo_nil, Z.k_fon, Z.k_foc, Z.k_fob, Z.k_for2, Z.g_for, Z.g_lc, Z.x_brk, Z.x_cnt, Z.x_pas, Z.lk_0, Z.lk_S, Z.set_0, Z.set_S, Z.fz_i, Z.fz_s, Z.fz_b, Z.fz_n, Z.fz_t, Z.fz_l, Z.fz_c, Z.fl_nil, Z.fl_cons, Z.e_ret, Z.e_nx, ↓reduceIte, List.length_cons, List.length_nil, Nat.reduceAdd, Nat.reduceLeDiff, Nat.zero_le, List.mem_cons, List.not_mem_nil, or_false, or_true, false_or, true_or, Nat.reduceEqDiff, not_false_eq_true, reduceCtorEq, Option.map_some, List.cons.injEq, and_true, true_and, and_false, false_and, decide_true, decide_false, Bool.not_true, Bool.not_false, ne_eq, Nat.reduceMul, Nat.reduceSub, List.map_cons, List.map_nil, List.replicate, List.cons_append, List.nil_append, List.append_nil, List.length_append, Nat.zero_add, List.append_assoc, h0, d1, h1, d2, p109, sub109, d4]
theorem pair_ok (k : Nat) {n : Nat} {w : D} (h : Wl n w) (hn : n < 2 ^ 38) : ∃ x y w', call Φ (k + 2) 14 [w] = .ok (.tup [.int x, .int y]) [w'] ∧ Wt x y ∧ Wl (n + 6) w' := by
  rw [Z.run_S (fn := ⟨1, [0], 5, b14⟩) rfl rfl]
  obtain ⟨r, w1, d1, a1, a2, a3⟩ := dip_ok k h (by omega) (m := 6) (by decide) (by decide)
  obtain ⟨x, w2, d2, b1, b2, b3⟩ := above_ok k a3 (by omega) a1 a2
  obtain ⟨y, w3, d3, c1, c2, c3⟩ := below_ok k (r := r) (x := x) b3 (by omega)
  obtain ⟨r4, w4, d4, e1, e2, e3⟩ := dip_ok k c3 (by omega) (m := 3) (by decide) (by decide)
  unfold eAbove at d2
  unfold eBelow at d3
  have fin : ∀ x : Int, Nm x → divOk ((Nat.gcd x.natAbs y : Nat) : Int) = true := fun x _ => by
    have g0 : 0 < Nat.gcd x.natAbs y := Nat.gcd_pos_of_pos_right _ c1
    have g1 : Nat.gcd x.natAbs y ≤ y := Nat.gcd_le_right _ c1
    exact div_s (by omega) (by rw [Int.natAbs_natCast]; omega)
  by_cases h0 : r4 = 0
  · have hx : Nm (-x) := ⟨by omega, by omega⟩
    have hc := common_ok k (b := y) hx
    have hd := fin _ hx
    refine ⟨_, _, w4, ?_, wt_div hx c1 c2, e3.mono (by omega)⟩
    simp -implicitDefEqProofs only [b14, Out.bind_ok, Out.bind_exc, Z.s_con, Z.s_var, Z.k_var, Z.s_tup, Z.s_lst, Z.s_dct, Z.s_bin, Z.s_neg, Z.s_cmp, Z.s_isN, Z.s_nt, Z.s_an, Z.s_or, Z.s_ite, Z.s_ixV, Z.s_ixR, Z.s_sl, Z.s_call, Z.s_bi, Z.s_isiV, Z.s_isiR, Z.s_mt, Z.s_fs, Z.s_lc, Z.t_con, Z.t_var, Z.t_bin, Z.t_cmp, Z.t_isN, Z.t_nt, Z.t_an, Z.t_or, Z.t_ixV, Z.t_ixR, Z.t_call, Z.t_bi, Z.t_isiV, Z.t_isiR, Z.t_mt, Z.a_nil, Z.a_val, Z.a_ref, Z.o_non, Z.o_som, Z.f_nil, Z.f_cons, Z.i_rng, Z.i_ov, Z.k_tru_b, Z.k_tru_i, Z.k_bin, Z.k_add, Z.k_sub, Z.k_mul, Z.k_fdiv, Z.k_mod, Z.k_pow, Z.k_app, Z.k_lapp, Z.k_cmp, Z.c_lt, Z.c_le, Z.c_gt, Z.c_ge, Z.c_eqi, Z.c_nei, Z.c_eqs, Z.c_nes, Z.c_ins, Z.c_int, Z.k_neg, Z.k_isN, Z.nn_0t, Z.nn_1t, Z.nn_0i, Z.nn_1i, Z.nn_0s, Z.nn_1s, Z.nn_0b, Z.nn_1b, Z.nn_0l, Z.nn_1l, Z.nn_0n, Z.nn_1n, Z.k_nt, Z.k_ntT, Z.k_an1, Z.k_an0, Z.k_anT1, Z.k_anT0, Z.k_or1, Z.k_or0, Z.k_orT1, Z.k_orT0, Z.k_ite1, Z.k_ite0, Z.k_ix, Z.k_ix2, Z.k_ixR, Z.k_ixr, Z.k_ref, Z.k_ref_i, Z.k_ref_s, Z.k_ref_b, Z.k_ref_n, Z.k_ref_t, Z.i_lst, Z.i_tup, Z.i_scr, Z.i_str, Z.i_dcs, Z.i_dci, Z.l_hit, Z.at_0, Z.at_1, Z.at_2, Z.at_3, Z.k_sl, Z.k_sl2, Z.k_sl3, Z.k_tup, Z.k_tup2, Z.k_lst, Z.k_lst2, Z.k_dct, Z.k_dct2, Z.v_nil, Z.v_cons, Z.k_pv, Z.k_c1, Z.k_c2, Z.k_c2k, Z.k_cb, Z.k_tk, Z.k_ret, Z.k_retX, Z.k_put, Z.k_putX, Z.tk_nil, Z.tk_v, Z.tk_r, Z.k_tv, Z.k_tr, Z.p_nil, Z.p_v0, Z.p_v1, Z.p_r, Z.r_nil, Z.r_in, Z.r_no, Z.k_bi, Z.pk_nil0, Z.pk_v, Z.pk_r, Z.some_bind, Z.b_lens, Z.b_lenl, Z.b_lent, Z.b_lenc, Z.b_inti, Z.b_str, Z.b_abs, Z.b_max, Z.b_min, Z.b_gcd, Z.b_all, Z.b_any, Z.k_isi, Z.k_isr, Z.k_mt, Z.k_mt2, Z.m_sw, Z.k_lc2, Z.k_a, Z.k_a2, Z.k_ar, Z.k_aref, Z.k_o, Z.k_f, Z.k_f2, Z.fm_s, Z.fm_i, Z.k_rng, Z.k_ov, Z.o_some, Z.x_nil, Z.x_cons, Z.k_sq, Z.k_sqr, Z.k_sqb, Z.k_sqc, Z.x_ex, Z.k_ex0, Z.x_set, Z.k_set, Z.x_mset, Z.k_ms, Z.k_ms2, Z.sm_nil, Z.sm_cons, Z.x_par, Z.k_par, Z.k_par2, Z.x_aug, Z.k_aug, Z.k_aug2a, Z.k_aug2s, Z.x_si, Z.k_si, Z.k_si1, Z.k_si2, Z.k_si3_0, Z.k_si3_1, Z.k_si3_2, Z.x_ret, Z.k_ret1, Z.x_retR, Z.k_retR, Z.x_retN, Z.x_if, Z.k_if1, Z.k_if0, Z.k_w0, Z.k_w1, Z.k_w2n, Z.k_w2c, Z.k_w2b, Z.k_w2r, Z.x_for, Z.fo_nil, Z.k_fon, Z.k_foc, Z.k_fob, Z.k_for2, Z.g_for, Z.g_lc, Z.x_brk, Z.x_cnt, Z.x_pas, Z.lk_0, Z.lk_S, Z.set_0, Z.set_S, Z.fz_i, Z.fz_s, Z.fz_b, Z.fz_n, Z.fz_t, Z.fz_l, Z.fz_c, Z.fl_nil, Z.fl_cons, Z.e_ret, Z.e_nx, ↓reduceIte, List.length_cons, List.length_nil, Nat.reduceAdd, Nat.reduceLeDiff, Nat.zero_le, List.mem_cons, List.not_mem_nil, or_false, or_true, false_or, true_or, Nat.reduceEqDiff, not_false_eq_true, reduceCtorEq, Option.map_some, List.cons.injEq, and_true, true_and, and_false, false_and, decide_true, decide_false, Bool.not_true, Bool.not_false, ne_eq, Nat.reduceMul, Nat.reduceSub, List.map_cons, List.map_nil, List.replicate, List.cons_append, List.nil_append, List.append_nil, List.length_append, Nat.zero_add, List.append_assoc, d1, d2, d3, d4, h0, hc, hd]
    rw [Z.e_ret1 rfl]
  · have hx : Nm x := ⟨by omega, by omega⟩
    have hc := common_ok k (b := y) hx
    have hd := fin _ hx
    refine ⟨_, _, w4, ?_, wt_div hx c1 c2, e3.mono (by omega)⟩
    simp -implicitDefEqProofs only [b14, Out.bind_ok, Out.bind_exc, Z.s_con, Z.s_var, Z.k_var, Z.s_tup, Z.s_lst, Z.s_dct, Z.s_bin, Z.s_neg, Z.s_cmp, Z.s_isN, Z.s_nt, Z.s_an, Z.s_or, Z.s_ite, Z.s_ixV, Z.s_ixR, Z.s_sl, Z.s_call, Z.s_bi, Z.s_isiV, Z.s_isiR, Z.s_mt, Z.s_fs, Z.s_lc, Z.t_con, Z.t_var, Z.t_bin, Z.t_cmp, Z.t_isN, Z.t_nt, Z.t_an, Z.t_or, Z.t_ixV, Z.t_ixR, Z.t_call, Z.t_bi, Z.t_isiV, Z.t_isiR, Z.t_mt, Z.a_nil, Z.a_val, Z.a_ref, Z.o_non, Z.o_som, Z.f_nil, Z.f_cons, Z.i_rng, Z.i_ov, Z.k_tru_b, Z.k_tru_i, Z.k_bin, Z.k_add, Z.k_sub, Z.k_mul, Z.k_fdiv, Z.k_mod, Z.k_pow, Z.k_app, Z.k_lapp, Z.k_cmp, Z.c_lt, Z.c_le, Z.c_gt, Z.c_ge, Z.c_eqi, Z.c_nei, Z.c_eqs, Z.c_nes, Z.c_ins, Z.c_int, Z.k_neg, Z.k_isN, Z.nn_0t, Z.nn_1t, Z.nn_0i, Z.nn_1i, Z.nn_0s, Z.nn_1s, Z.nn_0b, Z.nn_1b, Z.nn_0l, Z.nn_1l, Z.nn_0n, Z.nn_1n, Z.k_nt, Z.k_ntT, Z.k_an1, Z.k_an0, Z.k_anT1, Z.k_anT0, Z.k_or1, Z.k_or0, Z.k_orT1, Z.k_orT0, Z.k_ite1, Z.k_ite0, Z.k_ix, Z.k_ix2, Z.k_ixR, Z.k_ixr, Z.k_ref, Z.k_ref_i, Z.k_ref_s, Z.k_ref_b, Z.k_ref_n, Z.k_ref_t, Z.i_lst, Z.i_tup, Z.i_scr, Z.i_str, Z.i_dcs, Z.i_dci, Z.l_hit, Z.at_0, Z.at_1, Z.at_2, Z.at_3, Z.k_sl, Z.k_sl2, Z.k_sl3, Z.k_tup, Z.k_tup2, Z.k_lst, Z.k_lst2, Z.k_dct, Z.k_dct2, Z.v_nil, Z.v_cons, Z.k_pv, Z.k_c1, Z.k_c2, Z.k_c2k, Z.k_cb, Z.k_tk, Z.k_ret, Z.k_retX, Z.k_put, Z.k_putX, Z.tk_nil, Z.tk_v, Z.tk_r, Z.k_tv, Z.k_tr, Z.p_nil, Z.p_v0, Z.p_v1, Z.p_r, Z.r_nil, Z.r_in, Z.r_no, Z.k_bi, Z.pk_nil0, Z.pk_v, Z.pk_r, Z.some_bind, Z.b_lens, Z.b_lenl, Z.b_lent, Z.b_lenc, Z.b_inti, Z.b_str, Z.b_abs, Z.b_max, Z.b_min, Z.b_gcd, Z.b_all, Z.b_any, Z.k_isi, Z.k_isr, Z.k_mt, Z.k_mt2, Z.m_sw, Z.k_lc2, Z.k_a, Z.k_a2, Z.k_ar, Z.k_aref, Z.k_o, Z.k_f, Z.k_f2, Z.fm_s, Z.fm_i, Z.k_rng, Z.k_ov, Z.o_some, Z.x_nil, Z.x_cons, Z.k_sq, Z.k_sqr, Z.k_sqb, Z.k_sqc, Z.x_ex, Z.k_ex0, Z.x_set, Z.k_set, Z.x_mset, Z.k_ms, Z.k_ms2, Z.sm_nil, Z.sm_cons, Z.x_par, Z.k_par, Z.k_par2, Z.x_aug, Z.k_aug, Z.k_aug2a, Z.k_aug2s, Z.x_si, Z.k_si, Z.k_si1, Z.k_si2, Z.k_si3_0, Z.k_si3_1, Z.k_si3_2, Z.x_ret, Z.k_ret1, Z.x_retR, Z.k_retR, Z.x_retN, Z.x_if, Z.k_if1, Z.k_if0, Z.k_w0, Z.k_w1, Z.k_w2n, Z.k_w2c, Z.k_w2b, Z.k_w2r, Z.x_for, Z.fo_nil, Z.k_fon, Z.k_foc, Z.k_fob, Z.k_for2, Z.g_for, Z.g_lc, Z.x_brk, Z.x_cnt, Z.x_pas, Z.lk_0, Z.lk_S, Z.set_0, Z.set_S, Z.fz_i, Z.fz_s, Z.fz_b, Z.fz_n, Z.fz_t, Z.fz_l, Z.fz_c, Z.fl_nil, Z.fl_cons, Z.e_ret, Z.e_nx, ↓reduceIte, List.length_cons, List.length_nil, Nat.reduceAdd, Nat.reduceLeDiff, Nat.zero_le, List.mem_cons, List.not_mem_nil, or_false, or_true, false_or, true_or, Nat.reduceEqDiff, not_false_eq_true, reduceCtorEq, Option.map_some, List.cons.injEq, and_true, true_and, and_false, false_and, decide_true, decide_false, Bool.not_true, Bool.not_false, ne_eq, Nat.reduceMul, Nat.reduceSub, List.map_cons, List.map_nil, List.replicate, List.cons_append, List.nil_append, List.append_nil, List.length_append, Nat.zero_add, List.append_assoc, d1, d2, d3, d4, h0, hc, hd]
    rw [Z.e_ret1 rfl]
end K85

namespace K85
open PySem Ev
/-! data of numbers, texts, tuples -/
mutual
def pl : D → Bool
  | .int _ => true
  | .str _ => true
  | .tup ds => decide (ds.length ≤ 16777216) && plL ds
  | _ => false
def plL : List D → Bool
  | [] => true
  | d :: ds => pl d && plL ds
end
mutual
def dp : D → Nat
  | .tup ds => dpL ds + 1
  | _ => 0
def dpL : List D → Nat
  | [] => 0
  | d :: ds => max (dp d) (dpL ds)
end
mutual
theorem pl_frz : ∀ {d : D}, pl d = true → frz d = d
  | .int i, _ => Z.fz_i
  | .str s, _ => Z.fz_s
  | .tup ds, h => by
    unfold pl at h
    rw [Bool.and_eq_true] at h
    rw [Z.fz_t, plL_frz h.2]
  | .non, h => by unfold pl at h; exact nomatch h
  | .bl _, h => by unfold pl at h; exact nomatch h
  | .lst _ _, h => by unfold pl at h; exact nomatch h
  | .dct _ _ _, h => by unfold pl at h; exact nomatch h
  | .ins _ _ _ _, h => by unfold pl at h; exact nomatch h
  | .scr _, h => by unfold pl at h; exact nomatch h
theorem plL_frz : ∀ {ds : List D}, plL ds = true → frzL ds = ds
  | [], _ => Z.fl_nil
  | d :: ds, h => by
    unfold plL at h
    rw [Bool.and_eq_true] at h
    rw [Z.fl_cons, pl_frz h.1, plL_frz h.2]
end
theorem plL_get : ∀ {ds : List D} {i : Nat} {d : D}, plL ds = true → ds[i]? = some d → pl d = true ∧ dp d ≤ dpL ds
  | [], _, _, _, h => nomatch h
  | e :: ds, 0, d, h, h2 => by
    unfold plL at h
    rw [Bool.and_eq_true] at h
    cases h2
    unfold dpL
    exact ⟨h.1, Nat.le_max_left _ _⟩
  | e :: ds, i + 1, d, h, h2 => by
    unfold plL at h
    rw [Bool.and_eq_true] at h
    obtain ⟨h3, h4⟩ := plL_get (i := i) h.2 h2
    unfold dpL
    exact ⟨h3, Nat.le_trans h4 (Nat.le_max_right _ _)⟩
theorem ref_pl {j : Nat} {ρ : Ev.Env} {x d : D} (h : frz d = d) (hx : frz x = x) (hj : look ρ j = some x) : Z.kRef2 j ρ x (some d) = .ok d ρ := by
  show (if Sca d = true then Out.ok d ρ else .ok (frz d) (ρ.set j (some (frz x)))) = _
  have e : ρ.set j (some x) = ρ := by
    unfold look at hj
    cases e2 : ρ[j]? with
    | none => rw [e2] at hj; exact nomatch hj
    | some o =>
      rw [e2] at hj
      have hj : o = some x := hj
      obtain ⟨hlt, hv⟩ := List.getElem?_eq_some_iff.mp e2
      rw [← hj, ← hv]
      exact List.set_getElem_self hlt
  rw [h, hx, e]
  split <;> rfl
def eSame : Sts := (.cons (.ite (.nt (.call 20 [] (.cons .val (.ix .ref (.var 0) (.var 3)) (.cons .val (.ix .ref (.var 1) (.var 3)) .nil)) .nil [])) (.cons (.ret .val (.con (.bl false))) .nil) .nil) .nil)
theorem same_loop {cf : CF} {ds : List D} (hp : plL ds = true) (hc : ∀ (i : Nat) (d : D), ds[i]? = some d → cf 20 [d, d] = .ok (.bl true) []) : ∀ (is : List Nat) (x : Option D), (∀ i ∈ is, i < ds.length) →
    ∃ y, forF (Z.gFor 3) (evSs cf eSame) (is.map fun (i : Nat) => D.int (i : Int)) [some (.tup ds), some (.tup ds), some (.bl true), x] = .ok .nx [some (.tup ds), some (.tup ds), some (.bl true), y]
  | [], x, _ => ⟨x, rfl⟩
  | i :: is, x, h => by
    obtain ⟨y, hy⟩ := same_loop hp hc is (some (.int (i : Int))) fun j hj => h j (List.mem_cons_of_mem _ hj)
    have hi := h i List.mem_cons_self
    have hd : ds[i]? = some ds[i] := List.getElem?_eq_getElem hi
    obtain ⟨p1, _⟩ := plL_get hp hd
    have ha := L2.atI_nat hd
    have hcc := hc i _ hd
    have f1 := pl_frz p1
    have f2 : frz (.tup ds) = .tup ds := by rw [Z.fz_t, plL_frz hp]
    have r0 : Z.kRef2 0 [some (.tup ds), some (.tup ds), some (.bl true), some (.int (i : Int))] (.tup ds) (some ds[i]) = .ok ds[i] [some (.tup ds), some (.tup ds), some (.bl true), some (.int (i : Int))] := ref_pl f1 f2 rfl
    have r1 : Z.kRef2 1 [some (.tup ds), some (.tup ds), some (.bl true), some (.int (i : Int))] (.tup ds) (some ds[i]) = .ok ds[i] [some (.tup ds), some (.tup ds), some (.bl true), some (.int (i : Int))] := ref_pl f1 f2 rfl
    refine ⟨y, ?_⟩
    rw [List.map_cons, Z.fo_cons]
    have e : evSs cf eSame (Z.gFor 3 (.int (i : Int)) [some (.tup ds), some (.tup ds), some (.bl true), x]) = .ok .nx [some (.tup ds), some (.tup ds), some (.bl true), some (.int (i : Int))] := by
      simp -implicitDefEqProofs only [eSame, Out.bind_ok, Out.bind_exc, Z.s_con, Z.s_var, Z.k_var, Z.s_tup, Z.s_lst, Z.s_dct, Z.s_bin, Z.s_neg, Z.s_cmp, Z.s_isN, Z.s_nt, Z.s_an, Z.s_or, Z.s_ite, Z.s_ixV, Z.s_ixR, Z.s_sl, Z.s_call, Z.s_bi, Z.s_isiV, Z.s_isiR, Z.s_mt, Z.s_fs, Z.s_lc, Z.t_con, Z.t_var, Z.t_bin, Z.t_cmp, Z.t_isN, Z.t_nt, Z.t_an, Z.t_or, Z.t_ixV, Z.t_ixR, Z.t_call, Z.t_bi, Z.t_isiV, Z.t_isiR, Z.t_mt, Z.a_nil, Z.a_val, Z.a_ref, Z.o_non, Z.o_som, Z.f_nil, Z.f_cons, Z.i_rng, Z.i_ov, Z.k_tru_b, Z.k_tru_i, Z.k_bin, Z.k_add, Z.k_sub, Z.k_mul, Z.k_fdiv, Z.k_mod, Z.k_pow, Z.k_app, Z.k_lapp, Z.k_cmp, Z.c_lt, Z.c_le, Z.c_gt, Z.c_ge, Z.c_eqi, Z.c_nei, Z.c_eqs, Z.c_nes, Z.c_ins, Z.c_int, Z.k_neg, Z.k_isN, Z.nn_0t, Z.nn_1t, Z.nn_0i, Z.nn_1i, Z.nn_0s, Z.nn_1s, Z.nn_0b, Z.nn_1b, Z.nn_0l, Z.nn_1l, Z.nn_0n, Z.nn_1n, Z.k_nt, Z.k_ntT, Z.k_an1, Z.k_an0, Z.k_anT1, Z.k_anT0, Z.k_or1, Z.k_or0, Z.k_orT1, Z.k_orT0, Z.k_ite1, Z.k_ite0, Z.k_ix, Z.k_ix2, Z.k_ixR, Z.k_ixr, Z.k_ref, Z.k_ref_i, Z.k_ref_s, Z.k_ref_b, Z.k_ref_n, Z.k_ref_t, Z.i_lst, Z.i_tup, Z.i_scr, Z.i_str, Z.i_dcs, Z.i_dci, Z.l_hit, Z.at_0, Z.at_1, Z.at_2, Z.at_3, Z.k_sl, Z.k_sl2, Z.k_sl3, Z.k_tup, Z.k_tup2, Z.k_lst, Z.k_lst2, Z.k_dct, Z.k_dct2, Z.v_nil, Z.v_cons, Z.k_pv, Z.k_c1, Z.k_c2, Z.k_c2k, Z.k_cb, Z.k_tk, Z.k_ret, Z.k_retX, Z.k_put, Z.k_putX, Z.tk_nil, Z.tk_v, Z.tk_r, Z.k_tv, Z.k_tr, Z.p_nil, Z.p_v0, Z.p_v1, Z.p_r, Z.r_nil, Z.r_in, Z.r_no, Z.k_bi, Z.pk_nil0, Z.pk_v, Z.pk_r, Z.some_bind, Z.b_lens, Z.b_lenl, Z.b_lent, Z.b_lenc, Z.b_inti, Z.b_str, Z.b_abs, Z.b_max, Z.b_min, Z.b_gcd, Z.b_all, Z.b_any, Z.k_isi, Z.k_isr, Z.k_mt, Z.k_mt2, Z.m_sw, Z.k_lc2, Z.k_a, Z.k_a2, Z.k_ar, Z.k_aref, Z.k_o, Z.k_f, Z.k_f2, Z.fm_s, Z.fm_i, Z.k_rng, Z.k_ov, Z.o_some, Z.x_nil, Z.x_cons, Z.k_sq, Z.k_sqr, Z.k_sqb, Z.k_sqc, Z.x_ex, Z.k_ex0, Z.x_set, Z.k_set, Z.x_mset, Z.k_ms, Z.k_ms2, Z.sm_nil, Z.sm_cons, Z.x_par, Z.k_par, Z.k_par2, Z.x_aug, Z.k_aug, Z.k_aug2a, Z.k_aug2s, Z.x_si, Z.k_si, Z.k_si1, Z.k_si2, Z.k_si3_0, Z.k_si3_1, Z.k_si3_2, Z.x_ret, Z.k_ret1, Z.x_retR, Z.k_retR, Z.x_retN, Z.x_if, Z.k_if1, Z.k_if0, Z.k_w0, Z.k_w1, Z.k_w2n, Z.k_w2c, Z.k_w2b, Z.k_w2r, Z.x_for, Z.fo_nil, Z.k_fon, Z.k_foc, Z.k_fob, Z.k_for2, Z.g_for, Z.g_lc, Z.x_brk, Z.x_cnt, Z.x_pas, Z.lk_0, Z.lk_S, Z.set_0, Z.set_S, Z.fz_i, Z.fz_s, Z.fz_b, Z.fz_n, Z.fz_t, Z.fz_l, Z.fz_c, Z.fl_nil, Z.fl_cons, Z.e_ret, Z.e_nx, ↓reduceIte, List.length_cons, List.length_nil, Nat.reduceAdd, Nat.reduceLeDiff, Nat.zero_le, List.mem_cons, List.not_mem_nil, or_false, or_true, false_or, true_or, Nat.reduceEqDiff, not_false_eq_true, reduceCtorEq, Option.map_some, List.cons.injEq, and_true, true_and, and_false, false_and, decide_true, decide_false, Bool.not_true, Bool.not_false, ne_eq, Nat.reduceMul, Nat.reduceSub, List.map_cons, List.map_nil, List.replicate, List.cons_append, List.nil_append, List.append_nil, List.length_append, Nat.zero_add, List.append_assoc, ha, r0, r1, hcc]
    rw [e, Out.bind_ok, Z.k_fon, hy]
theorem same_ok : ∀ (k : Nat) (d : D), pl d = true → dp d ≤ k → call Φ (k + 1) 20 [d, d] = .ok (.bl true) []
  | k, .int i, _, _ => by
    rw [Z.run_S (fn := ⟨2, [], 4, b20⟩) rfl rfl]
    have i1 : isiF (.int i) .tuple = some false := rfl
    have i2 : isiF (.int i) .list = some false := rfl
    have i3 : isiF (.int i) .str = some false := rfl
    have i4 : isiF (.int i) .int = some true := rfl
    have i5 : isiF (.int i) .bool = some false := rfl
    simp -implicitDefEqProofs only [b20, Out.bind_ok, Out.bind_exc, Z.s_con, Z.s_var, Z.k_var, Z.s_tup, Z.s_lst, Z.s_dct, Z.s_bin, Z.s_neg, Z.s_cmp, Z.s_isN, Z.s_nt, Z.s_an, Z.s_or, Z.s_ite, Z.s_ixV, Z.s_ixR, Z.s_sl, Z.s_call, Z.s_bi, Z.s_isiV, Z.s_isiR, Z.s_mt, Z.s_fs, Z.s_lc, Z.t_con, Z.t_var, Z.t_bin, Z.t_cmp, Z.t_isN, Z.t_nt, Z.t_an, Z.t_or, Z.t_ixV, Z.t_ixR, Z.t_call, Z.t_bi, Z.t_isiV, Z.t_isiR, Z.t_mt, Z.a_nil, Z.a_val, Z.a_ref, Z.o_non, Z.o_som, Z.f_nil, Z.f_cons, Z.i_rng, Z.i_ov, Z.k_tru_b, Z.k_tru_i, Z.k_bin, Z.k_add, Z.k_sub, Z.k_mul, Z.k_fdiv, Z.k_mod, Z.k_pow, Z.k_app, Z.k_lapp, Z.k_cmp, Z.c_lt, Z.c_le, Z.c_gt, Z.c_ge, Z.c_eqi, Z.c_nei, Z.c_eqs, Z.c_nes, Z.c_ins, Z.c_int, Z.k_neg, Z.k_isN, Z.nn_0t, Z.nn_1t, Z.nn_0i, Z.nn_1i, Z.nn_0s, Z.nn_1s, Z.nn_0b, Z.nn_1b, Z.nn_0l, Z.nn_1l, Z.nn_0n, Z.nn_1n, Z.k_nt, Z.k_ntT, Z.k_an1, Z.k_an0, Z.k_anT1, Z.k_anT0, Z.k_or1, Z.k_or0, Z.k_orT1, Z.k_orT0, Z.k_ite1, Z.k_ite0, Z.k_ix, Z.k_ix2, Z.k_ixR, Z.k_ixr, Z.k_ref, Z.k_ref_i, Z.k_ref_s, Z.k_ref_b, Z.k_ref_n, Z.k_ref_t, Z.i_lst, Z.i_tup, Z.i_scr, Z.i_str, Z.i_dcs, Z.i_dci, Z.l_hit, Z.at_0, Z.at_1, Z.at_2, Z.at_3, Z.k_sl, Z.k_sl2, Z.k_sl3, Z.k_tup, Z.k_tup2, Z.k_lst, Z.k_lst2, Z.k_dct, Z.k_dct2, Z.v_nil, Z.v_cons, Z.k_pv, Z.k_c1, Z.k_c2, Z.k_c2k, Z.k_cb, Z.k_tk, Z.k_ret, Z.k_retX, Z.k_put, Z.k_putX, Z.tk_nil, Z.tk_v, Z.tk_r, Z.k_tv, Z.k_tr, Z.p_nil, Z.p_v0, Z.p_v1, Z.p_r, Z.r_nil, Z.r_in, Z.r_no, Z.k_bi, Z.pk_nil0, Z.pk_v, Z.pk_r, Z.some_bind, Z.b_lens, Z.b_lenl, Z.b_lent, Z.b_lenc, Z.b_inti, Z.b_str, Z.b_abs, Z.b_max, Z.b_min, Z.b_gcd, Z.b_all, Z.b_any, Z.k_isi, Z.k_isr, Z.k_mt, Z.k_mt2, Z.m_sw, Z.k_lc2, Z.k_a, Z.k_a2, Z.k_ar, Z.k_aref, Z.k_o, Z.k_f, Z.k_f2, Z.fm_s, Z.fm_i, Z.k_rng, Z.k_ov, Z.o_some, Z.x_nil, Z.x_cons, Z.k_sq, Z.k_sqr, Z.k_sqb, Z.k_sqc, Z.x_ex, Z.k_ex0, Z.x_set, Z.k_set, Z.x_mset, Z.k_ms, Z.k_ms2, Z.sm_nil, Z.sm_cons, Z.x_par, Z.k_par, Z.k_par2, Z.x_aug, Z.k_aug, Z.k_aug2a, Z.k_aug2s, Z.x_si, Z.k_si, Z.k_si1, Z.k_si2, Z.k_si3_0, Z.k_si3_1, Z.k_si3_2, Z.x_ret, Z.k_ret1, Z.x_retR, Z.k_retR, Z.x_retN, Z.x_if, Z.k_if1, Z.k_if0, Z.k_w0, Z.k_w1, Z.k_w2n, Z.k_w2c, Z.k_w2b, Z.k_w2r, Z.x_for, Z.fo_nil, Z.k_fon, Z.k_foc, Z.k_fob, Z.k_for2, Z.g_for, Z.g_lc, Z.x_brk, Z.x_cnt, Z.x_pas, Z.lk_0, Z.lk_S, Z.set_0, Z.set_S, Z.fz_i, Z.fz_s, Z.fz_b, Z.fz_n, Z.fz_t, Z.fz_l, Z.fz_c, Z.fl_nil, Z.fl_cons, Z.e_ret, Z.e_nx, ↓reduceIte, List.length_cons, List.length_nil, Nat.reduceAdd, Nat.reduceLeDiff, Nat.zero_le, List.mem_cons, List.not_mem_nil, or_false, or_true, false_or, true_or, Nat.reduceEqDiff, not_false_eq_true, reduceCtorEq, Option.map_some, List.cons.injEq, and_true, true_and, and_false, false_and, decide_true, decide_false, Bool.not_true, Bool.not_false, ne_eq, Nat.reduceMul, Nat.reduceSub, List.map_cons, List.map_nil, List.replicate, List.cons_append, List.nil_append, List.append_nil, List.length_append, Nat.zero_add, List.append_assoc, i1, i2, i3, i4, i5]
  | k, .str s, _, _ => by
    rw [Z.run_S (fn := ⟨2, [], 4, b20⟩) rfl rfl]
    have i1 : isiF (.str s) .tuple = some false := rfl
    have i2 : isiF (.str s) .list = some false := rfl
    have i3 : isiF (.str s) .str = some true := rfl
    simp -implicitDefEqProofs only [b20, Out.bind_ok, Out.bind_exc, Z.s_con, Z.s_var, Z.k_var, Z.s_tup, Z.s_lst, Z.s_dct, Z.s_bin, Z.s_neg, Z.s_cmp, Z.s_isN, Z.s_nt, Z.s_an, Z.s_or, Z.s_ite, Z.s_ixV, Z.s_ixR, Z.s_sl, Z.s_call, Z.s_bi, Z.s_isiV, Z.s_isiR, Z.s_mt, Z.s_fs, Z.s_lc, Z.t_con, Z.t_var, Z.t_bin, Z.t_cmp, Z.t_isN, Z.t_nt, Z.t_an, Z.t_or, Z.t_ixV, Z.t_ixR, Z.t_call, Z.t_bi, Z.t_isiV, Z.t_isiR, Z.t_mt, Z.a_nil, Z.a_val, Z.a_ref, Z.o_non, Z.o_som, Z.f_nil, Z.f_cons, Z.i_rng, Z.i_ov, Z.k_tru_b, Z.k_tru_i, Z.k_bin, Z.k_add, Z.k_sub, Z.k_mul, Z.k_fdiv, Z.k_mod, Z.k_pow, Z.k_app, Z.k_lapp, Z.k_cmp, Z.c_lt, Z.c_le, Z.c_gt, Z.c_ge, Z.c_eqi, Z.c_nei, Z.c_eqs, Z.c_nes, Z.c_ins, Z.c_int, Z.k_neg, Z.k_isN, Z.nn_0t, Z.nn_1t, Z.nn_0i, Z.nn_1i, Z.nn_0s, Z.nn_1s, Z.nn_0b, Z.nn_1b, Z.nn_0l, Z.nn_1l, Z.nn_0n, Z.nn_1n, Z.k_nt, Z.k_ntT, Z.k_an1, Z.k_an0, Z.k_anT1, Z.k_anT0, Z.k_or1, Z.k_or0, Z.k_orT1, Z.k_orT0, Z.k_ite1, Z.k_ite0, Z.k_ix, Z.k_ix2, Z.k_ixR, Z.k_ixr, Z.k_ref, Z.k_ref_i, Z.k_ref_s, Z.k_ref_b, Z.k_ref_n, Z.k_ref_t, Z.i_lst, Z.i_tup, Z.i_scr, Z.i_str, Z.i_dcs, Z.i_dci, Z.l_hit, Z.at_0, Z.at_1, Z.at_2, Z.at_3, Z.k_sl, Z.k_sl2, Z.k_sl3, Z.k_tup, Z.k_tup2, Z.k_lst, Z.k_lst2, Z.k_dct, Z.k_dct2, Z.v_nil, Z.v_cons, Z.k_pv, Z.k_c1, Z.k_c2, Z.k_c2k, Z.k_cb, Z.k_tk, Z.k_ret, Z.k_retX, Z.k_put, Z.k_putX, Z.tk_nil, Z.tk_v, Z.tk_r, Z.k_tv, Z.k_tr, Z.p_nil, Z.p_v0, Z.p_v1, Z.p_r, Z.r_nil, Z.r_in, Z.r_no, Z.k_bi, Z.pk_nil0, Z.pk_v, Z.pk_r, Z.some_bind, Z.b_lens, Z.b_lenl, Z.b_lent, Z.b_lenc, Z.b_inti, Z.b_str, Z.b_abs, Z.b_max, Z.b_min, Z.b_gcd, Z.b_all, Z.b_any, Z.k_isi, Z.k_isr, Z.k_mt, Z.k_mt2, Z.m_sw, Z.k_lc2, Z.k_a, Z.k_a2, Z.k_ar, Z.k_aref, Z.k_o, Z.k_f, Z.k_f2, Z.fm_s, Z.fm_i, Z.k_rng, Z.k_ov, Z.o_some, Z.x_nil, Z.x_cons, Z.k_sq, Z.k_sqr, Z.k_sqb, Z.k_sqc, Z.x_ex, Z.k_ex0, Z.x_set, Z.k_set, Z.x_mset, Z.k_ms, Z.k_ms2, Z.sm_nil, Z.sm_cons, Z.x_par, Z.k_par, Z.k_par2, Z.x_aug, Z.k_aug, Z.k_aug2a, Z.k_aug2s, Z.x_si, Z.k_si, Z.k_si1, Z.k_si2, Z.k_si3_0, Z.k_si3_1, Z.k_si3_2, Z.x_ret, Z.k_ret1, Z.x_retR, Z.k_retR, Z.x_retN, Z.x_if, Z.k_if1, Z.k_if0, Z.k_w0, Z.k_w1, Z.k_w2n, Z.k_w2c, Z.k_w2b, Z.k_w2r, Z.x_for, Z.fo_nil, Z.k_fon, Z.k_foc, Z.k_fob, Z.k_for2, Z.g_for, Z.g_lc, Z.x_brk, Z.x_cnt, Z.x_pas, Z.lk_0, Z.lk_S, Z.set_0, Z.set_S, Z.fz_i, Z.fz_s, Z.fz_b, Z.fz_n, Z.fz_t, Z.fz_l, Z.fz_c, Z.fl_nil, Z.fl_cons, Z.e_ret, Z.e_nx, ↓reduceIte, List.length_cons, List.length_nil, Nat.reduceAdd, Nat.reduceLeDiff, Nat.zero_le, List.mem_cons, List.not_mem_nil, or_false, or_true, false_or, true_or, Nat.reduceEqDiff, not_false_eq_true, reduceCtorEq, Option.map_some, List.cons.injEq, and_true, true_and, and_false, false_and, decide_true, decide_false, Bool.not_true, Bool.not_false, ne_eq, Nat.reduceMul, Nat.reduceSub, List.map_cons, List.map_nil, List.replicate, List.cons_append, List.nil_append, List.append_nil, List.length_append, Nat.zero_add, List.append_assoc, i1, i2, i3]
  | 0, .tup ds, _, h => by unfold dp at h; omega
  | k + 1, .tup ds, hp, h => by
    unfold dp at h
    unfold pl at hp
    rw [Bool.and_eq_true] at hp
    have hl := of_decide_eq_true hp.1
    have hp := hp.2
    rw [Z.run_S (fn := ⟨2, [], 4, b20⟩) rfl rfl]
    have hs : ∀ (i : Nat) (d : D), ds[i]? = some d → call Φ (k + 1) 20 [d, d] = .ok (.bl true) [] := fun i d hd => by
      obtain ⟨p1, p2⟩ := plL_get hp hd
      exact same_ok k d p1 (by omega)
    obtain ⟨y, hy⟩ := same_loop hp hs (List.range ds.length) none fun i hi => List.mem_range.mp hi
    unfold eSame at hy
    · have i1 : isiF (.tup ds) .tuple = some true := rfl
      have hr : -(2 ^ 62 : Int) ≤ (ds.length : Int) ∧ (ds.length : Int) < 2 ^ 62 := ⟨by omega, by omega⟩
      have e : rngL (ds.length : Int).toNat = (List.range ds.length).map fun (i : Nat) => D.int (i : Int) := by rw [Int.toNat_natCast]; rfl
      have hk := Z.k_rng (ρ := [some (.tup ds), some (.tup ds), some (.bl true), none]) hr
      rw [e] at hk
      simp -implicitDefEqProofs only [b20, Out.bind_ok, Out.bind_exc, Z.s_con, Z.s_var, Z.k_var, Z.s_tup, Z.s_lst, Z.s_dct, Z.s_bin, Z.s_neg, Z.s_cmp, Z.s_isN, Z.s_nt, Z.s_an, Z.s_or, Z.s_ite, Z.s_ixV, Z.s_ixR, Z.s_sl, Z.s_call, Z.s_bi, Z.s_isiV, Z.s_isiR, Z.s_mt, Z.s_fs, Z.s_lc, Z.t_con, Z.t_var, Z.t_bin, Z.t_cmp, Z.t_isN, Z.t_nt, Z.t_an, Z.t_or, Z.t_ixV, Z.t_ixR, Z.t_call, Z.t_bi, Z.t_isiV, Z.t_isiR, Z.t_mt, Z.a_nil, Z.a_val, Z.a_ref, Z.o_non, Z.o_som, Z.f_nil, Z.f_cons, Z.i_rng, Z.i_ov, Z.k_tru_b, Z.k_tru_i, Z.k_bin, Z.k_add, Z.k_sub, Z.k_mul, Z.k_fdiv, Z.k_mod, Z.k_pow, Z.k_app, Z.k_lapp, Z.k_cmp, Z.c_lt, Z.c_le, Z.c_gt, Z.c_ge, Z.c_eqi, Z.c_nei, Z.c_eqs, Z.c_nes, Z.c_ins, Z.c_int, Z.k_neg, Z.k_isN, Z.nn_0t, Z.nn_1t, Z.nn_0i, Z.nn_1i, Z.nn_0s, Z.nn_1s, Z.nn_0b, Z.nn_1b, Z.nn_0l, Z.nn_1l, Z.nn_0n, Z.nn_1n, Z.k_nt, Z.k_ntT, Z.k_an1, Z.k_an0, Z.k_anT1, Z.k_anT0, Z.k_or1, Z.k_or0, Z.k_orT1, Z.k_orT0, Z.k_ite1, Z.k_ite0, Z.k_ix, Z.k_ix2, Z.k_ixR, Z.k_ixr, Z.k_ref, Z.k_ref_i, Z.k_ref_s, Z.k_ref_b, Z.k_ref_n, Z.k_ref_t, Z.i_lst, Z.i_tup, Z.i_scr, Z.i_str, Z.i_dcs, Z.i_dci, Z.l_hit, Z.at_0, Z.at_1, Z.at_2, Z.at_3, Z.k_sl, Z.k_sl2, Z.k_sl3, Z.k_tup, Z.k_tup2, Z.k_lst, Z.k_lst2, Z.k_dct, Z.k_dct2, Z.v_nil, Z.v_cons, Z.k_pv, Z.k_c1, Z.k_c2, Z.k_c2k, Z.k_cb, Z.k_tk, Z.k_ret, Z.k_retX, Z.k_put, Z.k_putX, Z.tk_nil, Z.tk_v, Z.tk_r, Z.k_tv, Z.k_tr, Z.p_nil, Z.p_v0, Z.p_v1, Z.p_r, Z.r_nil, Z.r_in, Z.r_no, Z.k_bi, Z.pk_nil0, Z.pk_v, Z.pk_r, Z.some_bind, Z.b_lens, Z.b_lenl, Z.b_lent, Z.b_lenc, Z.b_inti, Z.b_str, Z.b_abs, Z.b_max, Z.b_min, Z.b_gcd, Z.b_all, Z.b_any, Z.k_isi, Z.k_isr, Z.k_mt, Z.k_mt2, Z.m_sw, Z.k_lc2, Z.k_a, Z.k_a2, Z.k_ar, Z.k_aref, Z.k_o, Z.k_f, Z.k_f2, Z.fm_s, Z.fm_i, Z.k_rng, Z.k_ov, Z.o_some, Z.x_nil, Z.x_cons, Z.k_sq, Z.k_sqr, Z.k_sqb, Z.k_sqc, Z.x_ex, Z.k_ex0, Z.x_set, Z.k_set, Z.x_mset, Z.k_ms, Z.k_ms2, Z.sm_nil, Z.sm_cons, Z.x_par, Z.k_par, Z.k_par2, Z.x_aug, Z.k_aug, Z.k_aug2a, Z.k_aug2s, Z.x_si, Z.k_si, Z.k_si1, Z.k_si2, Z.k_si3_0, Z.k_si3_1, Z.k_si3_2, Z.x_ret, Z.k_ret1, Z.x_retR, Z.k_retR, Z.x_retN, Z.x_if, Z.k_if1, Z.k_if0, Z.k_w0, Z.k_w1, Z.k_w2n, Z.k_w2c, Z.k_w2b, Z.k_w2r, Z.x_for, Z.fo_nil, Z.k_fon, Z.k_foc, Z.k_fob, Z.k_for2, Z.g_for, Z.g_lc, Z.x_brk, Z.x_cnt, Z.x_pas, Z.lk_0, Z.lk_S, Z.set_0, Z.set_S, Z.fz_i, Z.fz_s, Z.fz_b, Z.fz_n, Z.fz_t, Z.fz_l, Z.fz_c, Z.fl_nil, Z.fl_cons, Z.e_ret, Z.e_nx, ↓reduceIte, List.length_cons, List.length_nil, Nat.reduceAdd, Nat.reduceLeDiff, Nat.zero_le, List.mem_cons, List.not_mem_nil, or_false, or_true, false_or, true_or, Nat.reduceEqDiff, not_false_eq_true, reduceCtorEq, Option.map_some, List.cons.injEq, and_true, true_and, and_false, false_and, decide_true, decide_false, Bool.not_true, Bool.not_false, ne_eq, Nat.reduceMul, Nat.reduceSub, List.map_cons, List.map_nil, List.replicate, List.cons_append, List.nil_append, List.append_nil, List.length_append, Nat.zero_add, List.append_assoc, i1, hk, Z.k_for, hy]
  | _, .non, h, _ => by unfold pl at h; exact nomatch h
  | _, .bl _, h, _ => by unfold pl at h; exact nomatch h
  | _, .lst _ _, h, _ => by unfold pl at h; exact nomatch h
  | _, .dct _ _ _, h, _ => by unfold pl at h; exact nomatch h
  | _, .ins _ _ _ _, h, _ => by unfold pl at h; exact nomatch h
  | _, .scr _, h, _ => by unfold pl at h; exact nomatch h
end K85

namespace K85
open PySem Ev
/-! patterns -/
inductive Pt where
  | any | emp | non
  | sig (c : Nat)
  | many (p : Pt)
  | wgh (x y : Int) (p : Pt)
  | alt (p q : Pt)
  | seq (p q : Pt)
def Pt.D : Pt → D
  | .any => .tup [.str [97, 110, 121]]
  | .emp => .tup [.str [101, 109, 112, 116, 121]]
  | .non => .tup [.str [110, 111, 110, 101]]
  | .sig c => .tup [.str [115, 105, 103, 110], .str [c]]
  | .many p => .tup [.str [109, 97, 110, 121], p.D]
  | .wgh x y p => .tup [.str [119, 101, 105, 103, 104], .tup [.int x, .int y], p.D]
  | .alt p q => .tup [.str [111, 114], p.D, q.D]
  | .seq p q => .tup [.str [116, 104, 101, 110], p.D, q.D]
def Pt.T : Pt → List Nat
  | .any => [46]
  | .emp => [49]
  | .non => [48]
  | .sig c => [c]
  | .many p => p.T ++ [42]
  | .wgh x y p => wT x y ++ 91 :: (p.T ++ [93])
  | .alt p q => 40 :: (p.T ++ 32 :: 43 :: 32 :: (q.T ++ [41]))
  | .seq p q => 40 :: (p.T ++ 32 :: (q.T ++ [41]))
def Pt.ok : Pt → Prop
  | .sig c => 97 ≤ c ∧ c ≤ 122
  | .many p => p.ok
  | .wgh x y p => Wt x y ∧ p.ok
  | .alt p q => p.ok ∧ q.ok
  | .seq p q => p.ok ∧ q.ok
  | _ => True
def Pt.sz : Pt → Nat
  | .many p => p.sz + 1
  | .wgh _ _ p => p.sz + 1
  | .alt p q => p.sz + q.sz + 1
  | .seq p q => p.sz + q.sz + 1
  | _ => 1
def Pt.dp : Pt → Nat
  | .many p => p.dp + 1
  | .wgh _ _ p => p.dp + 1
  | .alt p q => max p.dp q.dp + 1
  | .seq p q => max p.dp q.dp + 1
  | _ => 0
theorem Pt.len : ∀ {p : Pt}, p.ok → p.T.length ≤ 24 * p.sz
  | .any, _ => by decide
  | .emp, _ => by decide
  | .non, _ => by decide
  | .sig c, _ => by simp [Pt.T, Pt.sz]
  | .many p, h => by have := Pt.len (p := p) h; simp only [Pt.T, Pt.sz, List.length_append, List.length_singleton]; omega
  | .wgh x y p, h => by
    have h1 := wT_len h.1
    have := Pt.len (p := p) h.2
    simp only [Pt.T, Pt.sz, List.length_append, List.length_cons, List.length_nil]; omega
  | .alt p q, h => by
    have h1 := Pt.len (p := p) h.1
    have h2 := Pt.len (p := q) h.2
    simp only [Pt.T, Pt.sz, List.length_append, List.length_cons, List.length_nil]; omega
  | .seq p q, h => by
    have h1 := Pt.len (p := p) h.1
    have h2 := Pt.len (p := q) h.2
    simp only [Pt.T, Pt.sz, List.length_append, List.length_cons, List.length_nil]; omega
theorem Pt.pl : ∀ (p : Pt), pl p.D = true
  | .any => by decide
  | .emp => by decide
  | .non => by decide
  | .sig c => by simp [Pt.D, K85.pl, plL]
  | .many p => by simp [Pt.D, K85.pl, plL, Pt.pl p]
  | .wgh x y p => by simp [Pt.D, K85.pl, plL, Pt.pl p]
  | .alt p q => by simp [Pt.D, K85.pl, plL, Pt.pl p, Pt.pl q]
  | .seq p q => by simp [Pt.D, K85.pl, plL, Pt.pl p, Pt.pl q]
theorem Pt.fz (p : Pt) : frz p.D = p.D := pl_frz p.pl
theorem Pt.dpD : ∀ (p : Pt), K85.dp p.D ≤ p.dp + 2
  | .any => by decide
  | .emp => by decide
  | .non => by decide
  | .sig c => by simp [Pt.D, K85.dp, dpL]
  | .many p => by have := Pt.dpD p; simp [Pt.D, K85.dp, dpL, Pt.dp]; omega
  | .wgh x y p => by have := Pt.dpD p; simp [Pt.D, K85.dp, dpL, Pt.dp]; omega
  | .alt p q => by have := Pt.dpD p; have := Pt.dpD q; simp [Pt.D, K85.dp, dpL, Pt.dp]; omega
  | .seq p q => by have := Pt.dpD p; have := Pt.dpD q; simp [Pt.D, K85.dp, dpL, Pt.dp]; omega
theorem same_pt {k : Nat} (p : Pt) (h : p.dp + 2 ≤ k) : call Φ (k + 1) 20 [p.D, p.D] = .ok (.bl true) [] := same_ok k _ p.pl (Nat.le_trans p.dpD h)
theorem show_ok : ∀ (k : Nat) (p : Pt), p.ok → 24 * p.sz ≤ 16777216 → p.dp ≤ k → call Φ (k + 2) 10 [p.D] = .ok (.str p.T) []
  | k, .any, _, _, _ => by
    rw [Z.run_S (fn := ⟨1, [], 3, b10⟩) rfl rfl]
    simp -implicitDefEqProofs only [b10, Pt.D, Pt.T, Out.bind_ok, Out.bind_exc, Z.s_con, Z.s_var, Z.k_var, Z.s_tup, Z.s_lst, Z.s_dct, Z.s_bin, Z.s_neg, Z.s_cmp, Z.s_isN, Z.s_nt, Z.s_an, Z.s_or, Z.s_ite, Z.s_ixV, Z.s_ixR, Z.s_sl, Z.s_call, Z.s_bi, Z.s_isiV, Z.s_isiR, Z.s_mt, Z.s_fs, Z.s_lc, Z.t_con, Z.t_var, Z.t_bin, Z.t_cmp, Z.t_isN, Z.t_nt, Z.t_an, Z.t_or, Z.t_ixV, Z.t_ixR, Z.t_call, Z.t_bi, Z.t_isiV, Z.t_isiR, Z.t_mt, Z.a_nil, Z.a_val, Z.a_ref, Z.o_non, Z.o_som, Z.f_nil, Z.f_cons, Z.i_rng, Z.i_ov, Z.k_tru_b, Z.k_tru_i, Z.k_bin, Z.k_add, Z.k_sub, Z.k_mul, Z.k_fdiv, Z.k_mod, Z.k_pow, Z.k_app, Z.k_lapp, Z.k_cmp, Z.c_lt, Z.c_le, Z.c_gt, Z.c_ge, Z.c_eqi, Z.c_nei, Z.c_eqs, Z.c_nes, Z.c_ins, Z.c_int, Z.k_neg, Z.k_isN, Z.nn_0t, Z.nn_1t, Z.nn_0i, Z.nn_1i, Z.nn_0s, Z.nn_1s, Z.nn_0b, Z.nn_1b, Z.nn_0l, Z.nn_1l, Z.nn_0n, Z.nn_1n, Z.k_nt, Z.k_ntT, Z.k_an1, Z.k_an0, Z.k_anT1, Z.k_anT0, Z.k_or1, Z.k_or0, Z.k_orT1, Z.k_orT0, Z.k_ite1, Z.k_ite0, Z.k_ix, Z.k_ix2, Z.k_ixR, Z.k_ixr, Z.k_ref, Z.k_ref_i, Z.k_ref_s, Z.k_ref_b, Z.k_ref_n, Z.k_ref_t, Z.i_lst, Z.i_tup, Z.i_scr, Z.i_str, Z.i_dcs, Z.i_dci, Z.l_hit, Z.at_0, Z.at_1, Z.at_2, Z.at_3, Z.k_sl, Z.k_sl2, Z.k_sl3, Z.k_tup, Z.k_tup2, Z.k_lst, Z.k_lst2, Z.k_dct, Z.k_dct2, Z.v_nil, Z.v_cons, Z.k_pv, Z.k_c1, Z.k_c2, Z.k_c2k, Z.k_cb, Z.k_tk, Z.k_ret, Z.k_retX, Z.k_put, Z.k_putX, Z.tk_nil, Z.tk_v, Z.tk_r, Z.k_tv, Z.k_tr, Z.p_nil, Z.p_v0, Z.p_v1, Z.p_r, Z.r_nil, Z.r_in, Z.r_no, Z.k_bi, Z.pk_nil0, Z.pk_v, Z.pk_r, Z.some_bind, Z.b_lens, Z.b_lenl, Z.b_lent, Z.b_lenc, Z.b_inti, Z.b_str, Z.b_abs, Z.b_max, Z.b_min, Z.b_gcd, Z.b_all, Z.b_any, Z.k_isi, Z.k_isr, Z.k_mt, Z.k_mt2, Z.m_sw, Z.k_lc2, Z.k_a, Z.k_a2, Z.k_ar, Z.k_aref, Z.k_o, Z.k_f, Z.k_f2, Z.fm_s, Z.fm_i, Z.k_rng, Z.k_ov, Z.o_some, Z.x_nil, Z.x_cons, Z.k_sq, Z.k_sqr, Z.k_sqb, Z.k_sqc, Z.x_ex, Z.k_ex0, Z.x_set, Z.k_set, Z.x_mset, Z.k_ms, Z.k_ms2, Z.sm_nil, Z.sm_cons, Z.x_par, Z.k_par, Z.k_par2, Z.x_aug, Z.k_aug, Z.k_aug2a, Z.k_aug2s, Z.x_si, Z.k_si, Z.k_si1, Z.k_si2, Z.k_si3_0, Z.k_si3_1, Z.k_si3_2, Z.x_ret, Z.k_ret1, Z.x_retR, Z.k_retR, Z.x_retN, Z.x_if, Z.k_if1, Z.k_if0, Z.k_w0, Z.k_w1, Z.k_w2n, Z.k_w2c, Z.k_w2b, Z.k_w2r, Z.x_for, Z.fo_nil, Z.k_fon, Z.k_foc, Z.k_fob, Z.k_for2, Z.g_for, Z.g_lc, Z.x_brk, Z.x_cnt, Z.x_pas, Z.lk_0, Z.lk_S, Z.set_0, Z.set_S, Z.fz_i, Z.fz_s, Z.fz_b, Z.fz_n, Z.fz_t, Z.fz_l, Z.fz_c, Z.fl_nil, Z.fl_cons, Z.e_ret, Z.e_nx, ↓reduceIte, List.length_cons, List.length_nil, Nat.reduceAdd, Nat.reduceLeDiff, Nat.zero_le, List.mem_cons, List.not_mem_nil, or_false, or_true, false_or, true_or, Nat.reduceEqDiff, not_false_eq_true, reduceCtorEq, Option.map_some, List.cons.injEq, and_true, true_and, and_false, false_and, decide_true, decide_false, Bool.not_true, Bool.not_false, ne_eq, Nat.reduceMul, Nat.reduceSub, List.map_cons, List.map_nil, List.replicate, List.cons_append, List.nil_append, List.append_nil, List.length_append, Nat.zero_add, List.append_assoc]
  | k, .emp, _, _, _ => by
    rw [Z.run_S (fn := ⟨1, [], 3, b10⟩) rfl rfl]
    simp -implicitDefEqProofs only [b10, Pt.D, Pt.T, Out.bind_ok, Out.bind_exc, Z.s_con, Z.s_var, Z.k_var, Z.s_tup, Z.s_lst, Z.s_dct, Z.s_bin, Z.s_neg, Z.s_cmp, Z.s_isN, Z.s_nt, Z.s_an, Z.s_or, Z.s_ite, Z.s_ixV, Z.s_ixR, Z.s_sl, Z.s_call, Z.s_bi, Z.s_isiV, Z.s_isiR, Z.s_mt, Z.s_fs, Z.s_lc, Z.t_con, Z.t_var, Z.t_bin, Z.t_cmp, Z.t_isN, Z.t_nt, Z.t_an, Z.t_or, Z.t_ixV, Z.t_ixR, Z.t_call, Z.t_bi, Z.t_isiV, Z.t_isiR, Z.t_mt, Z.a_nil, Z.a_val, Z.a_ref, Z.o_non, Z.o_som, Z.f_nil, Z.f_cons, Z.i_rng, Z.i_ov, Z.k_tru_b, Z.k_tru_i, Z.k_bin, Z.k_add, Z.k_sub, Z.k_mul, Z.k_fdiv, Z.k_mod, Z.k_pow, Z.k_app, Z.k_lapp, Z.k_cmp, Z.c_lt, Z.c_le, Z.c_gt, Z.c_ge, Z.c_eqi, Z.c_nei, Z.c_eqs, Z.c_nes, Z.c_ins, Z.c_int, Z.k_neg, Z.k_isN, Z.nn_0t, Z.nn_1t, Z.nn_0i, Z.nn_1i, Z.nn_0s, Z.nn_1s, Z.nn_0b, Z.nn_1b, Z.nn_0l, Z.nn_1l, Z.nn_0n, Z.nn_1n, Z.k_nt, Z.k_ntT, Z.k_an1, Z.k_an0, Z.k_anT1, Z.k_anT0, Z.k_or1, Z.k_or0, Z.k_orT1, Z.k_orT0, Z.k_ite1, Z.k_ite0, Z.k_ix, Z.k_ix2, Z.k_ixR, Z.k_ixr, Z.k_ref, Z.k_ref_i, Z.k_ref_s, Z.k_ref_b, Z.k_ref_n, Z.k_ref_t, Z.i_lst, Z.i_tup, Z.i_scr, Z.i_str, Z.i_dcs, Z.i_dci, Z.l_hit, Z.at_0, Z.at_1, Z.at_2, Z.at_3, Z.k_sl, Z.k_sl2, Z.k_sl3, Z.k_tup, Z.k_tup2, Z.k_lst, Z.k_lst2, Z.k_dct, Z.k_dct2, Z.v_nil, Z.v_cons, Z.k_pv, Z.k_c1, Z.k_c2, Z.k_c2k, Z.k_cb, Z.k_tk, Z.k_ret, Z.k_retX, Z.k_put, Z.k_putX, Z.tk_nil, Z.tk_v, Z.tk_r, Z.k_tv, Z.k_tr, Z.p_nil, Z.p_v0, Z.p_v1, Z.p_r, Z.r_nil, Z.r_in, Z.r_no, Z.k_bi, Z.pk_nil0, Z.pk_v, Z.pk_r, Z.some_bind, Z.b_lens, Z.b_lenl, Z.b_lent, Z.b_lenc, Z.b_inti, Z.b_str, Z.b_abs, Z.b_max, Z.b_min, Z.b_gcd, Z.b_all, Z.b_any, Z.k_isi, Z.k_isr, Z.k_mt, Z.k_mt2, Z.m_sw, Z.k_lc2, Z.k_a, Z.k_a2, Z.k_ar, Z.k_aref, Z.k_o, Z.k_f, Z.k_f2, Z.fm_s, Z.fm_i, Z.k_rng, Z.k_ov, Z.o_some, Z.x_nil, Z.x_cons, Z.k_sq, Z.k_sqr, Z.k_sqb, Z.k_sqc, Z.x_ex, Z.k_ex0, Z.x_set, Z.k_set, Z.x_mset, Z.k_ms, Z.k_ms2, Z.sm_nil, Z.sm_cons, Z.x_par, Z.k_par, Z.k_par2, Z.x_aug, Z.k_aug, Z.k_aug2a, Z.k_aug2s, Z.x_si, Z.k_si, Z.k_si1, Z.k_si2, Z.k_si3_0, Z.k_si3_1, Z.k_si3_2, Z.x_ret, Z.k_ret1, Z.x_retR, Z.k_retR, Z.x_retN, Z.x_if, Z.k_if1, Z.k_if0, Z.k_w0, Z.k_w1, Z.k_w2n, Z.k_w2c, Z.k_w2b, Z.k_w2r, Z.x_for, Z.fo_nil, Z.k_fon, Z.k_foc, Z.k_fob, Z.k_for2, Z.g_for, Z.g_lc, Z.x_brk, Z.x_cnt, Z.x_pas, Z.lk_0, Z.lk_S, Z.set_0, Z.set_S, Z.fz_i, Z.fz_s, Z.fz_b, Z.fz_n, Z.fz_t, Z.fz_l, Z.fz_c, Z.fl_nil, Z.fl_cons, Z.e_ret, Z.e_nx, ↓reduceIte, List.length_cons, List.length_nil, Nat.reduceAdd, Nat.reduceLeDiff, Nat.zero_le, List.mem_cons, List.not_mem_nil, or_false, or_true, false_or, true_or, Nat.reduceEqDiff, not_false_eq_true, reduceCtorEq, Option.map_some, List.cons.injEq, and_true, true_and, and_false, false_and, decide_true, decide_false, Bool.not_true, Bool.not_false, ne_eq, Nat.reduceMul, Nat.reduceSub, List.map_cons, List.map_nil, List.replicate, List.cons_append, List.nil_append, List.append_nil, List.length_append, Nat.zero_add, List.append_assoc]
  | k, .non, _, _, _ => by
    rw [Z.run_S (fn := ⟨1, [], 3, b10⟩) rfl rfl]
    simp -implicitDefEqProofs only [b10, Pt.D, Pt.T, Out.bind_ok, Out.bind_exc, Z.s_con, Z.s_var, Z.k_var, Z.s_tup, Z.s_lst, Z.s_dct, Z.s_bin, Z.s_neg, Z.s_cmp, Z.s_isN, Z.s_nt, Z.s_an, Z.s_or, Z.s_ite, Z.s_ixV, Z.s_ixR, Z.s_sl, Z.s_call, Z.s_bi, Z.s_isiV, Z.s_isiR, Z.s_mt, Z.s_fs, Z.s_lc, Z.t_con, Z.t_var, Z.t_bin, Z.t_cmp, Z.t_isN, Z.t_nt, Z.t_an, Z.t_or, Z.t_ixV, Z.t_ixR, Z.t_call, Z.t_bi, Z.t_isiV, Z.t_isiR, Z.t_mt, Z.a_nil, Z.a_val, Z.a_ref, Z.o_non, Z.o_som, Z.f_nil, Z.f_cons, Z.i_rng, Z.i_ov, Z.k_tru_b, Z.k_tru_i, Z.k_bin, Z.k_add, Z.k_sub, Z.k_mul, Z.k_fdiv, Z.k_mod, Z.k_pow, Z.k_app, Z.k_lapp, Z.k_cmp, Z.c_lt, Z.c_le, Z.c_gt, Z.c_ge, Z.c_eqi, Z.c_nei, Z.c_eqs, Z.c_nes, Z.c_ins, Z.c_int, Z.k_neg, Z.k_isN, Z.nn_0t, Z.nn_1t, Z.nn_0i, Z.nn_1i, Z.nn_0s, Z.nn_1s, Z.nn_0b, Z.nn_1b, Z.nn_0l, Z.nn_1l, Z.nn_0n, Z.nn_1n, Z.k_nt, Z.k_ntT, Z.k_an1, Z.k_an0, Z.k_anT1, Z.k_anT0, Z.k_or1, Z.k_or0, Z.k_orT1, Z.k_orT0, Z.k_ite1, Z.k_ite0, Z.k_ix, Z.k_ix2, Z.k_ixR, Z.k_ixr, Z.k_ref, Z.k_ref_i, Z.k_ref_s, Z.k_ref_b, Z.k_ref_n, Z.k_ref_t, Z.i_lst, Z.i_tup, Z.i_scr, Z.i_str, Z.i_dcs, Z.i_dci, Z.l_hit, Z.at_0, Z.at_1, Z.at_2, Z.at_3, Z.k_sl, Z.k_sl2, Z.k_sl3, Z.k_tup, Z.k_tup2, Z.k_lst, Z.k_lst2, Z.k_dct, Z.k_dct2, Z.v_nil, Z.v_cons, Z.k_pv, Z.k_c1, Z.k_c2, Z.k_c2k, Z.k_cb, Z.k_tk, Z.k_ret, Z.k_retX, Z.k_put, Z.k_putX, Z.tk_nil, Z.tk_v, Z.tk_r, Z.k_tv, Z.k_tr, Z.p_nil, Z.p_v0, Z.p_v1, Z.p_r, Z.r_nil, Z.r_in, Z.r_no, Z.k_bi, Z.pk_nil0, Z.pk_v, Z.pk_r, Z.some_bind, Z.b_lens, Z.b_lenl, Z.b_lent, Z.b_lenc, Z.b_inti, Z.b_str, Z.b_abs, Z.b_max, Z.b_min, Z.b_gcd, Z.b_all, Z.b_any, Z.k_isi, Z.k_isr, Z.k_mt, Z.k_mt2, Z.m_sw, Z.k_lc2, Z.k_a, Z.k_a2, Z.k_ar, Z.k_aref, Z.k_o, Z.k_f, Z.k_f2, Z.fm_s, Z.fm_i, Z.k_rng, Z.k_ov, Z.o_some, Z.x_nil, Z.x_cons, Z.k_sq, Z.k_sqr, Z.k_sqb, Z.k_sqc, Z.x_ex, Z.k_ex0, Z.x_set, Z.k_set, Z.x_mset, Z.k_ms, Z.k_ms2, Z.sm_nil, Z.sm_cons, Z.x_par, Z.k_par, Z.k_par2, Z.x_aug, Z.k_aug, Z.k_aug2a, Z.k_aug2s, Z.x_si, Z.k_si, Z.k_si1, Z.k_si2, Z.k_si3_0, Z.k_si3_1, Z.k_si3_2, Z.x_ret, Z.k_ret1, Z.x_retR, Z.k_retR, Z.x_retN, Z.x_if, Z.k_if1, Z.k_if0, Z.k_w0, Z.k_w1, Z.k_w2n, Z.k_w2c, Z.k_w2b, Z.k_w2r, Z.x_for, Z.fo_nil, Z.k_fon, Z.k_foc, Z.k_fob, Z.k_for2, Z.g_for, Z.g_lc, Z.x_brk, Z.x_cnt, Z.x_pas, Z.lk_0, Z.lk_S, Z.set_0, Z.set_S, Z.fz_i, Z.fz_s, Z.fz_b, Z.fz_n, Z.fz_t, Z.fz_l, Z.fz_c, Z.fl_nil, Z.fl_cons, Z.e_ret, Z.e_nx, ↓reduceIte, List.length_cons, List.length_nil, Nat.reduceAdd, Nat.reduceLeDiff, Nat.zero_le, List.mem_cons, List.not_mem_nil, or_false, or_true, false_or, true_or, Nat.reduceEqDiff, not_false_eq_true, reduceCtorEq, Option.map_some, List.cons.injEq, and_true, true_and, and_false, false_and, decide_true, decide_false, Bool.not_true, Bool.not_false, ne_eq, Nat.reduceMul, Nat.reduceSub, List.map_cons, List.map_nil, List.replicate, List.cons_append, List.nil_append, List.append_nil, List.length_append, Nat.zero_add, List.append_assoc]
  | k, .sig c, _, _, _ => by
    rw [Z.run_S (fn := ⟨1, [], 3, b10⟩) rfl rfl]
    simp -implicitDefEqProofs only [b10, Pt.D, Pt.T, Out.bind_ok, Out.bind_exc, Z.s_con, Z.s_var, Z.k_var, Z.s_tup, Z.s_lst, Z.s_dct, Z.s_bin, Z.s_neg, Z.s_cmp, Z.s_isN, Z.s_nt, Z.s_an, Z.s_or, Z.s_ite, Z.s_ixV, Z.s_ixR, Z.s_sl, Z.s_call, Z.s_bi, Z.s_isiV, Z.s_isiR, Z.s_mt, Z.s_fs, Z.s_lc, Z.t_con, Z.t_var, Z.t_bin, Z.t_cmp, Z.t_isN, Z.t_nt, Z.t_an, Z.t_or, Z.t_ixV, Z.t_ixR, Z.t_call, Z.t_bi, Z.t_isiV, Z.t_isiR, Z.t_mt, Z.a_nil, Z.a_val, Z.a_ref, Z.o_non, Z.o_som, Z.f_nil, Z.f_cons, Z.i_rng, Z.i_ov, Z.k_tru_b, Z.k_tru_i, Z.k_bin, Z.k_add, Z.k_sub, Z.k_mul, Z.k_fdiv, Z.k_mod, Z.k_pow, Z.k_app, Z.k_lapp, Z.k_cmp, Z.c_lt, Z.c_le, Z.c_gt, Z.c_ge, Z.c_eqi, Z.c_nei, Z.c_eqs, Z.c_nes, Z.c_ins, Z.c_int, Z.k_neg, Z.k_isN, Z.nn_0t, Z.nn_1t, Z.nn_0i, Z.nn_1i, Z.nn_0s, Z.nn_1s, Z.nn_0b, Z.nn_1b, Z.nn_0l, Z.nn_1l, Z.nn_0n, Z.nn_1n, Z.k_nt, Z.k_ntT, Z.k_an1, Z.k_an0, Z.k_anT1, Z.k_anT0, Z.k_or1, Z.k_or0, Z.k_orT1, Z.k_orT0, Z.k_ite1, Z.k_ite0, Z.k_ix, Z.k_ix2, Z.k_ixR, Z.k_ixr, Z.k_ref, Z.k_ref_i, Z.k_ref_s, Z.k_ref_b, Z.k_ref_n, Z.k_ref_t, Z.i_lst, Z.i_tup, Z.i_scr, Z.i_str, Z.i_dcs, Z.i_dci, Z.l_hit, Z.at_0, Z.at_1, Z.at_2, Z.at_3, Z.k_sl, Z.k_sl2, Z.k_sl3, Z.k_tup, Z.k_tup2, Z.k_lst, Z.k_lst2, Z.k_dct, Z.k_dct2, Z.v_nil, Z.v_cons, Z.k_pv, Z.k_c1, Z.k_c2, Z.k_c2k, Z.k_cb, Z.k_tk, Z.k_ret, Z.k_retX, Z.k_put, Z.k_putX, Z.tk_nil, Z.tk_v, Z.tk_r, Z.k_tv, Z.k_tr, Z.p_nil, Z.p_v0, Z.p_v1, Z.p_r, Z.r_nil, Z.r_in, Z.r_no, Z.k_bi, Z.pk_nil0, Z.pk_v, Z.pk_r, Z.some_bind, Z.b_lens, Z.b_lenl, Z.b_lent, Z.b_lenc, Z.b_inti, Z.b_str, Z.b_abs, Z.b_max, Z.b_min, Z.b_gcd, Z.b_all, Z.b_any, Z.k_isi, Z.k_isr, Z.k_mt, Z.k_mt2, Z.m_sw, Z.k_lc2, Z.k_a, Z.k_a2, Z.k_ar, Z.k_aref, Z.k_o, Z.k_f, Z.k_f2, Z.fm_s, Z.fm_i, Z.k_rng, Z.k_ov, Z.o_some, Z.x_nil, Z.x_cons, Z.k_sq, Z.k_sqr, Z.k_sqb, Z.k_sqc, Z.x_ex, Z.k_ex0, Z.x_set, Z.k_set, Z.x_mset, Z.k_ms, Z.k_ms2, Z.sm_nil, Z.sm_cons, Z.x_par, Z.k_par, Z.k_par2, Z.x_aug, Z.k_aug, Z.k_aug2a, Z.k_aug2s, Z.x_si, Z.k_si, Z.k_si1, Z.k_si2, Z.k_si3_0, Z.k_si3_1, Z.k_si3_2, Z.x_ret, Z.k_ret1, Z.x_retR, Z.k_retR, Z.x_retN, Z.x_if, Z.k_if1, Z.k_if0, Z.k_w0, Z.k_w1, Z.k_w2n, Z.k_w2c, Z.k_w2b, Z.k_w2r, Z.x_for, Z.fo_nil, Z.k_fon, Z.k_foc, Z.k_fob, Z.k_for2, Z.g_for, Z.g_lc, Z.x_brk, Z.x_cnt, Z.x_pas, Z.lk_0, Z.lk_S, Z.set_0, Z.set_S, Z.fz_i, Z.fz_s, Z.fz_b, Z.fz_n, Z.fz_t, Z.fz_l, Z.fz_c, Z.fl_nil, Z.fl_cons, Z.e_ret, Z.e_nx, ↓reduceIte, List.length_cons, List.length_nil, Nat.reduceAdd, Nat.reduceLeDiff, Nat.zero_le, List.mem_cons, List.not_mem_nil, or_false, or_true, false_or, true_or, Nat.reduceEqDiff, not_false_eq_true, reduceCtorEq, Option.map_some, List.cons.injEq, and_true, true_and, and_false, false_and, decide_true, decide_false, Bool.not_true, Bool.not_false, ne_eq, Nat.reduceMul, Nat.reduceSub, List.map_cons, List.map_nil, List.replicate, List.cons_append, List.nil_append, List.append_nil, List.length_append, Nat.zero_add, List.append_assoc]
  | 0, .many p, _, _, h => by unfold Pt.dp at h; omega
  | 0, .wgh x y p, _, _, h => by unfold Pt.dp at h; omega
  | 0, .alt p q, _, _, h => by unfold Pt.dp at h; omega
  | 0, .seq p q, _, _, h => by unfold Pt.dp at h; omega
  | k + 1, .many p, ho, hs, hd => by
    have hl := Pt.len (p := p) ho
    unfold Pt.sz at hs
    unfold Pt.dp at hd
    have h1 := show_ok k p ho (by omega) (by omega)
    have hf := p.fz
    have l1 : p.T.length + 1 ≤ 16777216 := by omega
    rw [show Pt.D (.many p) = .tup [.str [109, 97, 110, 121], p.D] from rfl, show Pt.T (.many p) = p.T ++ [42] from rfl, Z.run_S (fn := ⟨1, [], 3, b10⟩) rfl rfl]
    simp -implicitDefEqProofs only [b10, Out.bind_ok, Out.bind_exc, Z.s_con, Z.s_var, Z.k_var, Z.s_tup, Z.s_lst, Z.s_dct, Z.s_bin, Z.s_neg, Z.s_cmp, Z.s_isN, Z.s_nt, Z.s_an, Z.s_or, Z.s_ite, Z.s_ixV, Z.s_ixR, Z.s_sl, Z.s_call, Z.s_bi, Z.s_isiV, Z.s_isiR, Z.s_mt, Z.s_fs, Z.s_lc, Z.t_con, Z.t_var, Z.t_bin, Z.t_cmp, Z.t_isN, Z.t_nt, Z.t_an, Z.t_or, Z.t_ixV, Z.t_ixR, Z.t_call, Z.t_bi, Z.t_isiV, Z.t_isiR, Z.t_mt, Z.a_nil, Z.a_val, Z.a_ref, Z.o_non, Z.o_som, Z.f_nil, Z.f_cons, Z.i_rng, Z.i_ov, Z.k_tru_b, Z.k_tru_i, Z.k_bin, Z.k_add, Z.k_sub, Z.k_mul, Z.k_fdiv, Z.k_mod, Z.k_pow, Z.k_app, Z.k_lapp, Z.k_cmp, Z.c_lt, Z.c_le, Z.c_gt, Z.c_ge, Z.c_eqi, Z.c_nei, Z.c_eqs, Z.c_nes, Z.c_ins, Z.c_int, Z.k_neg, Z.k_isN, Z.nn_0t, Z.nn_1t, Z.nn_0i, Z.nn_1i, Z.nn_0s, Z.nn_1s, Z.nn_0b, Z.nn_1b, Z.nn_0l, Z.nn_1l, Z.nn_0n, Z.nn_1n, Z.k_nt, Z.k_ntT, Z.k_an1, Z.k_an0, Z.k_anT1, Z.k_anT0, Z.k_or1, Z.k_or0, Z.k_orT1, Z.k_orT0, Z.k_ite1, Z.k_ite0, Z.k_ix, Z.k_ix2, Z.k_ixR, Z.k_ixr, Z.k_ref, Z.k_ref_i, Z.k_ref_s, Z.k_ref_b, Z.k_ref_n, Z.k_ref_t, Z.i_lst, Z.i_tup, Z.i_scr, Z.i_str, Z.i_dcs, Z.i_dci, Z.l_hit, Z.at_0, Z.at_1, Z.at_2, Z.at_3, Z.k_sl, Z.k_sl2, Z.k_sl3, Z.k_tup, Z.k_tup2, Z.k_lst, Z.k_lst2, Z.k_dct, Z.k_dct2, Z.v_nil, Z.v_cons, Z.k_pv, Z.k_c1, Z.k_c2, Z.k_c2k, Z.k_cb, Z.k_tk, Z.k_ret, Z.k_retX, Z.k_put, Z.k_putX, Z.tk_nil, Z.tk_v, Z.tk_r, Z.k_tv, Z.k_tr, Z.p_nil, Z.p_v0, Z.p_v1, Z.p_r, Z.r_nil, Z.r_in, Z.r_no, Z.k_bi, Z.pk_nil0, Z.pk_v, Z.pk_r, Z.some_bind, Z.b_lens, Z.b_lenl, Z.b_lent, Z.b_lenc, Z.b_inti, Z.b_str, Z.b_abs, Z.b_max, Z.b_min, Z.b_gcd, Z.b_all, Z.b_any, Z.k_isi, Z.k_isr, Z.k_mt, Z.k_mt2, Z.m_sw, Z.k_lc2, Z.k_a, Z.k_a2, Z.k_ar, Z.k_aref, Z.k_o, Z.k_f, Z.k_f2, Z.fm_s, Z.fm_i, Z.k_rng, Z.k_ov, Z.o_some, Z.x_nil, Z.x_cons, Z.k_sq, Z.k_sqr, Z.k_sqb, Z.k_sqc, Z.x_ex, Z.k_ex0, Z.x_set, Z.k_set, Z.x_mset, Z.k_ms, Z.k_ms2, Z.sm_nil, Z.sm_cons, Z.x_par, Z.k_par, Z.k_par2, Z.x_aug, Z.k_aug, Z.k_aug2a, Z.k_aug2s, Z.x_si, Z.k_si, Z.k_si1, Z.k_si2, Z.k_si3_0, Z.k_si3_1, Z.k_si3_2, Z.x_ret, Z.k_ret1, Z.x_retR, Z.k_retR, Z.x_retN, Z.x_if, Z.k_if1, Z.k_if0, Z.k_w0, Z.k_w1, Z.k_w2n, Z.k_w2c, Z.k_w2b, Z.k_w2r, Z.x_for, Z.fo_nil, Z.k_fon, Z.k_foc, Z.k_fob, Z.k_for2, Z.g_for, Z.g_lc, Z.x_brk, Z.x_cnt, Z.x_pas, Z.lk_0, Z.lk_S, Z.set_0, Z.set_S, Z.fz_i, Z.fz_s, Z.fz_b, Z.fz_n, Z.fz_t, Z.fz_l, Z.fz_c, Z.fl_nil, Z.fl_cons, Z.e_ret, Z.e_nx, ↓reduceIte, List.length_cons, List.length_nil, Nat.reduceAdd, Nat.reduceLeDiff, Nat.zero_le, List.mem_cons, List.not_mem_nil, or_false, or_true, false_or, true_or, Nat.reduceEqDiff, not_false_eq_true, reduceCtorEq, Option.map_some, List.cons.injEq, and_true, true_and, and_false, false_and, decide_true, decide_false, Bool.not_true, Bool.not_false, ne_eq, Nat.reduceMul, Nat.reduceSub, List.map_cons, List.map_nil, List.replicate, List.cons_append, List.nil_append, List.append_nil, List.length_append, Nat.zero_add, List.append_assoc, hf, ref_pl, h1, l1]
  | k + 1, .wgh x y p, ho, hs, hd => by
    have hl := Pt.len (p := p) ho.2
    have hw := wT_len ho.1
    unfold Pt.sz at hs
    unfold Pt.dp at hd
    have h1 := show_ok k p ho.2 (by omega) (by omega)
    have h2 := show_number_ok (k + 1) ho.1
    have hf := p.fz
    have l1 : (wT x y).length + 1 ≤ 16777216 := by omega
    have l2 : (wT x y).length + (p.T.length + 1) ≤ 16777216 := by omega
    have l3 : (wT x y).length + (p.T.length + 1) + 1 ≤ 16777216 := by omega
    have l4 : (wT x y).length + 1 + p.T.length ≤ 16777216 := by omega
    have l5 : (wT x y).length + 1 + p.T.length + 1 ≤ 16777216 := by omega
    rw [show Pt.D (.wgh x y p) = .tup [.str [119, 101, 105, 103, 104], .tup [.int x, .int y], p.D] from rfl, show Pt.T (.wgh x y p) = wT x y ++ 91 :: (p.T ++ [93]) from rfl, Z.run_S (fn := ⟨1, [], 3, b10⟩) rfl rfl]
    simp -implicitDefEqProofs only [b10, Out.bind_ok, Out.bind_exc, Z.s_con, Z.s_var, Z.k_var, Z.s_tup, Z.s_lst, Z.s_dct, Z.s_bin, Z.s_neg, Z.s_cmp, Z.s_isN, Z.s_nt, Z.s_an, Z.s_or, Z.s_ite, Z.s_ixV, Z.s_ixR, Z.s_sl, Z.s_call, Z.s_bi, Z.s_isiV, Z.s_isiR, Z.s_mt, Z.s_fs, Z.s_lc, Z.t_con, Z.t_var, Z.t_bin, Z.t_cmp, Z.t_isN, Z.t_nt, Z.t_an, Z.t_or, Z.t_ixV, Z.t_ixR, Z.t_call, Z.t_bi, Z.t_isiV, Z.t_isiR, Z.t_mt, Z.a_nil, Z.a_val, Z.a_ref, Z.o_non, Z.o_som, Z.f_nil, Z.f_cons, Z.i_rng, Z.i_ov, Z.k_tru_b, Z.k_tru_i, Z.k_bin, Z.k_add, Z.k_sub, Z.k_mul, Z.k_fdiv, Z.k_mod, Z.k_pow, Z.k_app, Z.k_lapp, Z.k_cmp, Z.c_lt, Z.c_le, Z.c_gt, Z.c_ge, Z.c_eqi, Z.c_nei, Z.c_eqs, Z.c_nes, Z.c_ins, Z.c_int, Z.k_neg, Z.k_isN, Z.nn_0t, Z.nn_1t, Z.nn_0i, Z.nn_1i, Z.nn_0s, Z.nn_1s, Z.nn_0b, Z.nn_1b, Z.nn_0l, Z.nn_1l, Z.nn_0n, Z.nn_1n, Z.k_nt, Z.k_ntT, Z.k_an1, Z.k_an0, Z.k_anT1, Z.k_anT0, Z.k_or1, Z.k_or0, Z.k_orT1, Z.k_orT0, Z.k_ite1, Z.k_ite0, Z.k_ix, Z.k_ix2, Z.k_ixR, Z.k_ixr, Z.k_ref, Z.k_ref_i, Z.k_ref_s, Z.k_ref_b, Z.k_ref_n, Z.k_ref_t, Z.i_lst, Z.i_tup, Z.i_scr, Z.i_str, Z.i_dcs, Z.i_dci, Z.l_hit, Z.at_0, Z.at_1, Z.at_2, Z.at_3, Z.k_sl, Z.k_sl2, Z.k_sl3, Z.k_tup, Z.k_tup2, Z.k_lst, Z.k_lst2, Z.k_dct, Z.k_dct2, Z.v_nil, Z.v_cons, Z.k_pv, Z.k_c1, Z.k_c2, Z.k_c2k, Z.k_cb, Z.k_tk, Z.k_ret, Z.k_retX, Z.k_put, Z.k_putX, Z.tk_nil, Z.tk_v, Z.tk_r, Z.k_tv, Z.k_tr, Z.p_nil, Z.p_v0, Z.p_v1, Z.p_r, Z.r_nil, Z.r_in, Z.r_no, Z.k_bi, Z.pk_nil0, Z.pk_v, Z.pk_r, Z.some_bind, Z.b_lens, Z.b_lenl, Z.b_lent, Z.b_lenc, Z.b_inti, Z.b_str, Z.b_abs, Z.b_max, Z.b_min, Z.b_gcd, Z.b_all, Z.b_any, Z.k_isi, Z.k_isr, Z.k_mt, Z.k_mt2, Z.m_sw, Z.k_lc2, Z.k_a, Z.k_a2, Z.k_ar, Z.k_aref, Z.k_o, Z.k_f, Z.k_f2, Z.fm_s, Z.fm_i, Z.k_rng, Z.k_ov, Z.o_some, Z.x_nil, Z.x_cons, Z.k_sq, Z.k_sqr, Z.k_sqb, Z.k_sqc, Z.x_ex, Z.k_ex0, Z.x_set, Z.k_set, Z.x_mset, Z.k_ms, Z.k_ms2, Z.sm_nil, Z.sm_cons, Z.x_par, Z.k_par, Z.k_par2, Z.x_aug, Z.k_aug, Z.k_aug2a, Z.k_aug2s, Z.x_si, Z.k_si, Z.k_si1, Z.k_si2, Z.k_si3_0, Z.k_si3_1, Z.k_si3_2, Z.x_ret, Z.k_ret1, Z.x_retR, Z.k_retR, Z.x_retN, Z.x_if, Z.k_if1, Z.k_if0, Z.k_w0, Z.k_w1, Z.k_w2n, Z.k_w2c, Z.k_w2b, Z.k_w2r, Z.x_for, Z.fo_nil, Z.k_fon, Z.k_foc, Z.k_fob, Z.k_for2, Z.g_for, Z.g_lc, Z.x_brk, Z.x_cnt, Z.x_pas, Z.lk_0, Z.lk_S, Z.set_0, Z.set_S, Z.fz_i, Z.fz_s, Z.fz_b, Z.fz_n, Z.fz_t, Z.fz_l, Z.fz_c, Z.fl_nil, Z.fl_cons, Z.e_ret, Z.e_nx, ↓reduceIte, List.length_cons, List.length_nil, Nat.reduceAdd, Nat.reduceLeDiff, Nat.zero_le, List.mem_cons, List.not_mem_nil, or_false, or_true, false_or, true_or, Nat.reduceEqDiff, not_false_eq_true, reduceCtorEq, Option.map_some, List.cons.injEq, and_true, true_and, and_false, false_and, decide_true, decide_false, Bool.not_true, Bool.not_false, ne_eq, Nat.reduceMul, Nat.reduceSub, List.map_cons, List.map_nil, List.replicate, List.cons_append, List.nil_append, List.append_nil, List.length_append, Nat.zero_add, List.append_assoc, hf, ref_pl, h1, h2, l1, l2, l3, l4, l5]
  | k + 1, .alt p q, ho, hs, hd => by
    have hl := Pt.len (p := p) ho.1
    have hl2 := Pt.len (p := q) ho.2
    unfold Pt.sz at hs
    unfold Pt.dp at hd
    have h1 := show_ok k p ho.1 (by omega) (by omega)
    have h2 := show_ok k q ho.2 (by omega) (by omega)
    have hf := p.fz
    have hf2 := q.fz
    have l1 : p.T.length + 1 ≤ 16777216 := by omega
    have l1' : 1 + p.T.length ≤ 16777216 := by omega
    have l2 : p.T.length + 1 + 3 ≤ 16777216 := by omega
    have l3 : p.T.length + 3 + 1 + q.T.length ≤ 16777216 := by omega
    have l4 : p.T.length + (q.T.length + 1 + 1 + 1) + 1 + 1 ≤ 16777216 := by omega
    rw [show Pt.D (.alt p q) = .tup [.str [111, 114], p.D, q.D] from rfl, show Pt.T (.alt p q) = 40 :: (p.T ++ 32 :: 43 :: 32 :: (q.T ++ [41])) from rfl, Z.run_S (fn := ⟨1, [], 3, b10⟩) rfl rfl]
    simp -implicitDefEqProofs only [b10, Out.bind_ok, Out.bind_exc, Z.s_con, Z.s_var, Z.k_var, Z.s_tup, Z.s_lst, Z.s_dct, Z.s_bin, Z.s_neg, Z.s_cmp, Z.s_isN, Z.s_nt, Z.s_an, Z.s_or, Z.s_ite, Z.s_ixV, Z.s_ixR, Z.s_sl, Z.s_call, Z.s_bi, Z.s_isiV, Z.s_isiR, Z.s_mt, Z.s_fs, Z.s_lc, Z.t_con, Z.t_var, Z.t_bin, Z.t_cmp, Z.t_isN, Z.t_nt, Z.t_an, Z.t_or, Z.t_ixV, Z.t_ixR, Z.t_call, Z.t_bi, Z.t_isiV, Z.t_isiR, Z.t_mt, Z.a_nil, Z.a_val, Z.a_ref, Z.o_non, Z.o_som, Z.f_nil, Z.f_cons, Z.i_rng, Z.i_ov, Z.k_tru_b, Z.k_tru_i, Z.k_bin, Z.k_add, Z.k_sub, Z.k_mul, Z.k_fdiv, Z.k_mod, Z.k_pow, Z.k_app, Z.k_lapp, Z.k_cmp, Z.c_lt, Z.c_le, Z.c_gt, Z.c_ge, Z.c_eqi, Z.c_nei, Z.c_eqs, Z.c_nes, Z.c_ins, Z.c_int, Z.k_neg, Z.k_isN, Z.nn_0t, Z.nn_1t, Z.nn_0i, Z.nn_1i, Z.nn_0s, Z.nn_1s, Z.nn_0b, Z.nn_1b, Z.nn_0l, Z.nn_1l, Z.nn_0n, Z.nn_1n, Z.k_nt, Z.k_ntT, Z.k_an1, Z.k_an0, Z.k_anT1, Z.k_anT0, Z.k_or1, Z.k_or0, Z.k_orT1, Z.k_orT0, Z.k_ite1, Z.k_ite0, Z.k_ix, Z.k_ix2, Z.k_ixR, Z.k_ixr, Z.k_ref, Z.k_ref_i, Z.k_ref_s, Z.k_ref_b, Z.k_ref_n, Z.k_ref_t, Z.i_lst, Z.i_tup, Z.i_scr, Z.i_str, Z.i_dcs, Z.i_dci, Z.l_hit, Z.at_0, Z.at_1, Z.at_2, Z.at_3, Z.k_sl, Z.k_sl2, Z.k_sl3, Z.k_tup, Z.k_tup2, Z.k_lst, Z.k_lst2, Z.k_dct, Z.k_dct2, Z.v_nil, Z.v_cons, Z.k_pv, Z.k_c1, Z.k_c2, Z.k_c2k, Z.k_cb, Z.k_tk, Z.k_ret, Z.k_retX, Z.k_put, Z.k_putX, Z.tk_nil, Z.tk_v, Z.tk_r, Z.k_tv, Z.k_tr, Z.p_nil, Z.p_v0, Z.p_v1, Z.p_r, Z.r_nil, Z.r_in, Z.r_no, Z.k_bi, Z.pk_nil0, Z.pk_v, Z.pk_r, Z.some_bind, Z.b_lens, Z.b_lenl, Z.b_lent, Z.b_lenc, Z.b_inti, Z.b_str, Z.b_abs, Z.b_max, Z.b_min, Z.b_gcd, Z.b_all, Z.b_any, Z.k_isi, Z.k_isr, Z.k_mt, Z.k_mt2, Z.m_sw, Z.k_lc2, Z.k_a, Z.k_a2, Z.k_ar, Z.k_aref, Z.k_o, Z.k_f, Z.k_f2, Z.fm_s, Z.fm_i, Z.k_rng, Z.k_ov, Z.o_some, Z.x_nil, Z.x_cons, Z.k_sq, Z.k_sqr, Z.k_sqb, Z.k_sqc, Z.x_ex, Z.k_ex0, Z.x_set, Z.k_set, Z.x_mset, Z.k_ms, Z.k_ms2, Z.sm_nil, Z.sm_cons, Z.x_par, Z.k_par, Z.k_par2, Z.x_aug, Z.k_aug, Z.k_aug2a, Z.k_aug2s, Z.x_si, Z.k_si, Z.k_si1, Z.k_si2, Z.k_si3_0, Z.k_si3_1, Z.k_si3_2, Z.x_ret, Z.k_ret1, Z.x_retR, Z.k_retR, Z.x_retN, Z.x_if, Z.k_if1, Z.k_if0, Z.k_w0, Z.k_w1, Z.k_w2n, Z.k_w2c, Z.k_w2b, Z.k_w2r, Z.x_for, Z.fo_nil, Z.k_fon, Z.k_foc, Z.k_fob, Z.k_for2, Z.g_for, Z.g_lc, Z.x_brk, Z.x_cnt, Z.x_pas, Z.lk_0, Z.lk_S, Z.set_0, Z.set_S, Z.fz_i, Z.fz_s, Z.fz_b, Z.fz_n, Z.fz_t, Z.fz_l, Z.fz_c, Z.fl_nil, Z.fl_cons, Z.e_ret, Z.e_nx, ↓reduceIte, List.length_cons, List.length_nil, Nat.reduceAdd, Nat.reduceLeDiff, Nat.zero_le, List.mem_cons, List.not_mem_nil, or_false, or_true, false_or, true_or, Nat.reduceEqDiff, not_false_eq_true, reduceCtorEq, Option.map_some, List.cons.injEq, and_true, true_and, and_false, false_and, decide_true, decide_false, Bool.not_true, Bool.not_false, ne_eq, Nat.reduceMul, Nat.reduceSub, List.map_cons, List.map_nil, List.replicate, List.cons_append, List.nil_append, List.append_nil, List.length_append, Nat.zero_add, List.append_assoc, hf, hf2, ref_pl, h1, h2, l1, l1', l2, l3, l4]
  | k + 1, .seq p q, ho, hs, hd => by
    have hl := Pt.len (p := p) ho.1
    have hl2 := Pt.len (p := q) ho.2
    unfold Pt.sz at hs
    unfold Pt.dp at hd
    have h1 := show_ok k p ho.1 (by omega) (by omega)
    have h2 := show_ok k q ho.2 (by omega) (by omega)
    have hf := p.fz
    have hf2 := q.fz
    have l1 : p.T.length + 1 ≤ 16777216 := by omega
    have l1' : 1 + p.T.length ≤ 16777216 := by omega
    have l2 : p.T.length + 1 + 1 ≤ 16777216 := by omega
    have l3 : p.T.length + 1 + 1 + q.T.length ≤ 16777216 := by omega
    have l4 : p.T.length + (q.T.length + 1) + 1 + 1 ≤ 16777216 := by omega
    rw [show Pt.D (.seq p q) = .tup [.str [116, 104, 101, 110], p.D, q.D] from rfl, show Pt.T (.seq p q) = 40 :: (p.T ++ 32 :: (q.T ++ [41])) from rfl, Z.run_S (fn := ⟨1, [], 3, b10⟩) rfl rfl]
    simp -implicitDefEqProofs only [b10, Out.bind_ok, Out.bind_exc, Z.s_con, Z.s_var, Z.k_var, Z.s_tup, Z.s_lst, Z.s_dct, Z.s_bin, Z.s_neg, Z.s_cmp, Z.s_isN, Z.s_nt, Z.s_an, Z.s_or, Z.s_ite, Z.s_ixV, Z.s_ixR, Z.s_sl, Z.s_call, Z.s_bi, Z.s_isiV, Z.s_isiR, Z.s_mt, Z.s_fs, Z.s_lc, Z.t_con, Z.t_var, Z.t_bin, Z.t_cmp, Z.t_isN, Z.t_nt, Z.t_an, Z.t_or, Z.t_ixV, Z.t_ixR, Z.t_call, Z.t_bi, Z.t_isiV, Z.t_isiR, Z.t_mt, Z.a_nil, Z.a_val, Z.a_ref, Z.o_non, Z.o_som, Z.f_nil, Z.f_cons, Z.i_rng, Z.i_ov, Z.k_tru_b, Z.k_tru_i, Z.k_bin, Z.k_add, Z.k_sub, Z.k_mul, Z.k_fdiv, Z.k_mod, Z.k_pow, Z.k_app, Z.k_lapp, Z.k_cmp, Z.c_lt, Z.c_le, Z.c_gt, Z.c_ge, Z.c_eqi, Z.c_nei, Z.c_eqs, Z.c_nes, Z.c_ins, Z.c_int, Z.k_neg, Z.k_isN, Z.nn_0t, Z.nn_1t, Z.nn_0i, Z.nn_1i, Z.nn_0s, Z.nn_1s, Z.nn_0b, Z.nn_1b, Z.nn_0l, Z.nn_1l, Z.nn_0n, Z.nn_1n, Z.k_nt, Z.k_ntT, Z.k_an1, Z.k_an0, Z.k_anT1, Z.k_anT0, Z.k_or1, Z.k_or0, Z.k_orT1, Z.k_orT0, Z.k_ite1, Z.k_ite0, Z.k_ix, Z.k_ix2, Z.k_ixR, Z.k_ixr, Z.k_ref, Z.k_ref_i, Z.k_ref_s, Z.k_ref_b, Z.k_ref_n, Z.k_ref_t, Z.i_lst, Z.i_tup, Z.i_scr, Z.i_str, Z.i_dcs, Z.i_dci, Z.l_hit, Z.at_0, Z.at_1, Z.at_2, Z.at_3, Z.k_sl, Z.k_sl2, Z.k_sl3, Z.k_tup, Z.k_tup2, Z.k_lst, Z.k_lst2, Z.k_dct, Z.k_dct2, Z.v_nil, Z.v_cons, Z.k_pv, Z.k_c1, Z.k_c2, Z.k_c2k, Z.k_cb, Z.k_tk, Z.k_ret, Z.k_retX, Z.k_put, Z.k_putX, Z.tk_nil, Z.tk_v, Z.tk_r, Z.k_tv, Z.k_tr, Z.p_nil, Z.p_v0, Z.p_v1, Z.p_r, Z.r_nil, Z.r_in, Z.r_no, Z.k_bi, Z.pk_nil0, Z.pk_v, Z.pk_r, Z.some_bind, Z.b_lens, Z.b_lenl, Z.b_lent, Z.b_lenc, Z.b_inti, Z.b_str, Z.b_abs, Z.b_max, Z.b_min, Z.b_gcd, Z.b_all, Z.b_any, Z.k_isi, Z.k_isr, Z.k_mt, Z.k_mt2, Z.m_sw, Z.k_lc2, Z.k_a, Z.k_a2, Z.k_ar, Z.k_aref, Z.k_o, Z.k_f, Z.k_f2, Z.fm_s, Z.fm_i, Z.k_rng, Z.k_ov, Z.o_some, Z.x_nil, Z.x_cons, Z.k_sq, Z.k_sqr, Z.k_sqb, Z.k_sqc, Z.x_ex, Z.k_ex0, Z.x_set, Z.k_set, Z.x_mset, Z.k_ms, Z.k_ms2, Z.sm_nil, Z.sm_cons, Z.x_par, Z.k_par, Z.k_par2, Z.x_aug, Z.k_aug, Z.k_aug2a, Z.k_aug2s, Z.x_si, Z.k_si, Z.k_si1, Z.k_si2, Z.k_si3_0, Z.k_si3_1, Z.k_si3_2, Z.x_ret, Z.k_ret1, Z.x_retR, Z.k_retR, Z.x_retN, Z.x_if, Z.k_if1, Z.k_if0, Z.k_w0, Z.k_w1, Z.k_w2n, Z.k_w2c, Z.k_w2b, Z.k_w2r, Z.x_for, Z.fo_nil, Z.k_fon, Z.k_foc, Z.k_fob, Z.k_for2, Z.g_for, Z.g_lc, Z.x_brk, Z.x_cnt, Z.x_pas, Z.lk_0, Z.lk_S, Z.set_0, Z.set_S, Z.fz_i, Z.fz_s, Z.fz_b, Z.fz_n, Z.fz_t, Z.fz_l, Z.fz_c, Z.fl_nil, Z.fl_cons, Z.e_ret, Z.e_nx, ↓reduceIte, List.length_cons, List.length_nil, Nat.reduceAdd, Nat.reduceLeDiff, Nat.zero_le, List.mem_cons, List.not_mem_nil, or_false, or_true, false_or, true_or, Nat.reduceEqDiff, not_false_eq_true, reduceCtorEq, Option.map_some, List.cons.injEq, and_true, true_and, and_false, false_and, decide_true, decide_false, Bool.not_true, Bool.not_false, ne_eq, Nat.reduceMul, Nat.reduceSub, List.map_cons, List.map_nil, List.replicate, List.cons_append, List.nil_append, List.append_nil, List.length_append, Nat.zero_add, List.append_assoc, hf, hf2, ref_pl, h1, h2, l1, l1', l2, l3, l4]
end K85

namespace K85
open PySem Ev
def kN : List D := [.str [97, 110, 121], .str [101, 109, 112, 116, 121], .str [110, 111, 110, 101]]
theorem in_kN {s : List Nat} : Z.kCmp2 .inn (.str s) (.tup [.str [97, 110, 121], .str [101, 109, 112, 116, 121], .str [110, 111, 110, 101]]) ρ = .ok (.bl (inD (.str s) kN)) ρ := Z.c_int rfl
theorem in_any : inD (.str [97, 110, 121]) kN = true := by decide
theorem in_emp : inD (.str [101, 109, 112, 116, 121]) kN = true := by decide
theorem in_non : inD (.str [110, 111, 110, 101]) kN = true := by decide
theorem in_many : inD (.str [109, 97, 110, 121]) kN = false := by decide
theorem in_wgh : inD (.str [119, 101, 105, 103, 104]) kN = false := by decide
theorem in_alt : inD (.str [111, 114]) kN = false := by decide
theorem in_seq : inD (.str [116, 104, 101, 110]) kN = false := by decide
theorem lk_any : lookF [.str [97, 110, 121], .str [101, 109, 112, 116, 121], .str [110, 111, 110, 101]] [.str [46], .str [49], .str [48]] (.str [97, 110, 121]) = some (.str [46]) := rfl
theorem lk_emp : lookF [.str [97, 110, 121], .str [101, 109, 112, 116, 121], .str [110, 111, 110, 101]] [.str [46], .str [49], .str [48]] (.str [101, 109, 112, 116, 121]) = some (.str [49]) := rfl
theorem lk_non : lookF [.str [97, 110, 121], .str [101, 109, 112, 116, 121], .str [110, 111, 110, 101]] [.str [46], .str [49], .str [48]] (.str [110, 111, 110, 101]) = some (.str [48]) := rfl
theorem lk_seq : lookF [.str [116, 104, 101, 110], .str [111, 114]] [.str [32], .str [32, 43, 32]] (.str [116, 104, 101, 110]) = some (.str [32]) := rfl
theorem lk_alt : lookF [.str [116, 104, 101, 110], .str [111, 114]] [.str [32], .str [32, 43, 32]] (.str [111, 114]) = some (.str [32, 43, 32]) := rfl
theorem words_ok : ∀ (k : Nat) (p : Pt), p.ok → 24 * p.sz ≤ 16777216 → p.dp ≤ k → call Φ (k + 2) 18 [p.D] = .ok (.str p.T) []
  | k, .any, _, _, _ => by
    rw [Z.run_S (fn := ⟨1, [], 2, b18⟩) rfl rfl]
    simp -implicitDefEqProofs only [b18, in_kN, in_any, in_emp, in_non, in_many, in_wgh, in_alt, in_seq, lk_any, lk_emp, lk_non, lk_seq, lk_alt, Pt.D, Pt.T, Out.bind_ok, Out.bind_exc, Z.s_con, Z.s_var, Z.k_var, Z.s_tup, Z.s_lst, Z.s_dct, Z.s_bin, Z.s_neg, Z.s_cmp, Z.s_isN, Z.s_nt, Z.s_an, Z.s_or, Z.s_ite, Z.s_ixV, Z.s_ixR, Z.s_sl, Z.s_call, Z.s_bi, Z.s_isiV, Z.s_isiR, Z.s_mt, Z.s_fs, Z.s_lc, Z.t_con, Z.t_var, Z.t_bin, Z.t_cmp, Z.t_isN, Z.t_nt, Z.t_an, Z.t_or, Z.t_ixV, Z.t_ixR, Z.t_call, Z.t_bi, Z.t_isiV, Z.t_isiR, Z.t_mt, Z.a_nil, Z.a_val, Z.a_ref, Z.o_non, Z.o_som, Z.f_nil, Z.f_cons, Z.i_rng, Z.i_ov, Z.k_tru_b, Z.k_tru_i, Z.k_bin, Z.k_add, Z.k_sub, Z.k_mul, Z.k_fdiv, Z.k_mod, Z.k_pow, Z.k_app, Z.k_lapp, Z.k_cmp, Z.c_lt, Z.c_le, Z.c_gt, Z.c_ge, Z.c_eqi, Z.c_nei, Z.c_eqs, Z.c_nes, Z.c_ins, Z.c_int, Z.k_neg, Z.k_isN, Z.nn_0t, Z.nn_1t, Z.nn_0i, Z.nn_1i, Z.nn_0s, Z.nn_1s, Z.nn_0b, Z.nn_1b, Z.nn_0l, Z.nn_1l, Z.nn_0n, Z.nn_1n, Z.k_nt, Z.k_ntT, Z.k_an1, Z.k_an0, Z.k_anT1, Z.k_anT0, Z.k_or1, Z.k_or0, Z.k_orT1, Z.k_orT0, Z.k_ite1, Z.k_ite0, Z.k_ix, Z.k_ix2, Z.k_ixR, Z.k_ixr, Z.k_ref, Z.k_ref_i, Z.k_ref_s, Z.k_ref_b, Z.k_ref_n, Z.k_ref_t, Z.i_lst, Z.i_tup, Z.i_scr, Z.i_str, Z.i_dcs, Z.i_dci, Z.l_hit, Z.at_0, Z.at_1, Z.at_2, Z.at_3, Z.k_sl, Z.k_sl2, Z.k_sl3, Z.k_tup, Z.k_tup2, Z.k_lst, Z.k_lst2, Z.k_dct, Z.k_dct2, Z.v_nil, Z.v_cons, Z.k_pv, Z.k_c1, Z.k_c2, Z.k_c2k, Z.k_cb, Z.k_tk, Z.k_ret, Z.k_retX, Z.k_put, Z.k_putX, Z.tk_nil, Z.tk_v, Z.tk_r, Z.k_tv, Z.k_tr, Z.p_nil, Z.p_v0, Z.p_v1, Z.p_r, Z.r_nil, Z.r_in, Z.r_no, Z.k_bi, Z.pk_nil0, Z.pk_v, Z.pk_r, Z.some_bind, Z.b_lens, Z.b_lenl, Z.b_lent, Z.b_lenc, Z.b_inti, Z.b_str, Z.b_abs, Z.b_max, Z.b_min, Z.b_gcd, Z.b_all, Z.b_any, Z.k_isi, Z.k_isr, Z.k_mt, Z.k_mt2, Z.m_sw, Z.k_lc2, Z.k_a, Z.k_a2, Z.k_ar, Z.k_aref, Z.k_o, Z.k_f, Z.k_f2, Z.fm_s, Z.fm_i, Z.k_rng, Z.k_ov, Z.o_some, Z.x_nil, Z.x_cons, Z.k_sq, Z.k_sqr, Z.k_sqb, Z.k_sqc, Z.x_ex, Z.k_ex0, Z.x_set, Z.k_set, Z.x_mset, Z.k_ms, Z.k_ms2, Z.sm_nil, Z.sm_cons, Z.x_par, Z.k_par, Z.k_par2, Z.x_aug, Z.k_aug, Z.k_aug2a, Z.k_aug2s, Z.x_si, Z.k_si, Z.k_si1, Z.k_si2, Z.k_si3_0, Z.k_si3_1, Z.k_si3_2, Z.x_ret, Z.k_ret1, Z.x_retR, Z.k_retR, Z.x_retN, Z.x_if, Z.k_if1, Z.k_if0, Z.k_w0, Z.k_w1, Z.k_w2n, Z.k_w2c, Z.k_w2b, Z.k_w2r, Z.x_for, Z.fo_nil, Z.k_fon, Z.k_foc, Z.k_fob, Z.k_for2, Z.g_for, Z.g_lc, Z.x_brk, Z.x_cnt, Z.x_pas, Z.lk_0, Z.lk_S, Z.set_0, Z.set_S, Z.fz_i, Z.fz_s, Z.fz_b, Z.fz_n, Z.fz_t, Z.fz_l, Z.fz_c, Z.fl_nil, Z.fl_cons, Z.e_ret, Z.e_nx, ↓reduceIte, List.length_cons, List.length_nil, Nat.reduceAdd, Nat.reduceLeDiff, Nat.zero_le, List.mem_cons, List.not_mem_nil, or_false, or_true, false_or, true_or, Nat.reduceEqDiff, not_false_eq_true, reduceCtorEq, Option.map_some, List.cons.injEq, and_true, true_and, and_false, false_and, decide_true, decide_false, Bool.not_true, Bool.not_false, ne_eq, Nat.reduceMul, Nat.reduceSub, List.map_cons, List.map_nil, List.replicate, List.cons_append, List.nil_append, List.append_nil, List.length_append, Nat.zero_add, List.append_assoc]
  | k, .emp, _, _, _ => by
    rw [Z.run_S (fn := ⟨1, [], 2, b18⟩) rfl rfl]
    simp -implicitDefEqProofs only [b18, in_kN, in_any, in_emp, in_non, in_many, in_wgh, in_alt, in_seq, lk_any, lk_emp, lk_non, lk_seq, lk_alt, Pt.D, Pt.T, Out.bind_ok, Out.bind_exc, Z.s_con, Z.s_var, Z.k_var, Z.s_tup, Z.s_lst, Z.s_dct, Z.s_bin, Z.s_neg, Z.s_cmp, Z.s_isN, Z.s_nt, Z.s_an, Z.s_or, Z.s_ite, Z.s_ixV, Z.s_ixR, Z.s_sl, Z.s_call, Z.s_bi, Z.s_isiV, Z.s_isiR, Z.s_mt, Z.s_fs, Z.s_lc, Z.t_con, Z.t_var, Z.t_bin, Z.t_cmp, Z.t_isN, Z.t_nt, Z.t_an, Z.t_or, Z.t_ixV, Z.t_ixR, Z.t_call, Z.t_bi, Z.t_isiV, Z.t_isiR, Z.t_mt, Z.a_nil, Z.a_val, Z.a_ref, Z.o_non, Z.o_som, Z.f_nil, Z.f_cons, Z.i_rng, Z.i_ov, Z.k_tru_b, Z.k_tru_i, Z.k_bin, Z.k_add, Z.k_sub, Z.k_mul, Z.k_fdiv, Z.k_mod, Z.k_pow, Z.k_app, Z.k_lapp, Z.k_cmp, Z.c_lt, Z.c_le, Z.c_gt, Z.c_ge, Z.c_eqi, Z.c_nei, Z.c_eqs, Z.c_nes, Z.c_ins, Z.c_int, Z.k_neg, Z.k_isN, Z.nn_0t, Z.nn_1t, Z.nn_0i, Z.nn_1i, Z.nn_0s, Z.nn_1s, Z.nn_0b, Z.nn_1b, Z.nn_0l, Z.nn_1l, Z.nn_0n, Z.nn_1n, Z.k_nt, Z.k_ntT, Z.k_an1, Z.k_an0, Z.k_anT1, Z.k_anT0, Z.k_or1, Z.k_or0, Z.k_orT1, Z.k_orT0, Z.k_ite1, Z.k_ite0, Z.k_ix, Z.k_ix2, Z.k_ixR, Z.k_ixr, Z.k_ref, Z.k_ref_i, Z.k_ref_s, Z.k_ref_b, Z.k_ref_n, Z.k_ref_t, Z.i_lst, Z.i_tup, Z.i_scr, Z.i_str, Z.i_dcs, Z.i_dci, Z.l_hit, Z.at_0, Z.at_1, Z.at_2, Z.at_3, Z.k_sl, Z.k_sl2, Z.k_sl3, Z.k_tup, Z.k_tup2, Z.k_lst, Z.k_lst2, Z.k_dct, Z.k_dct2, Z.v_nil, Z.v_cons, Z.k_pv, Z.k_c1, Z.k_c2, Z.k_c2k, Z.k_cb, Z.k_tk, Z.k_ret, Z.k_retX, Z.k_put, Z.k_putX, Z.tk_nil, Z.tk_v, Z.tk_r, Z.k_tv, Z.k_tr, Z.p_nil, Z.p_v0, Z.p_v1, Z.p_r, Z.r_nil, Z.r_in, Z.r_no, Z.k_bi, Z.pk_nil0, Z.pk_v, Z.pk_r, Z.some_bind, Z.b_lens, Z.b_lenl, Z.b_lent, Z.b_lenc, Z.b_inti, Z.b_str, Z.b_abs, Z.b_max, Z.b_min, Z.b_gcd, Z.b_all, Z.b_any, Z.k_isi, Z.k_isr, Z.k_mt, Z.k_mt2, Z.m_sw, Z.k_lc2, Z.k_a, Z.k_a2, Z.k_ar, Z.k_aref, Z.k_o, Z.k_f, Z.k_f2, Z.fm_s, Z.fm_i, Z.k_rng, Z.k_ov, Z.o_some, Z.x_nil, Z.x_cons, Z.k_sq, Z.k_sqr, Z.k_sqb, Z.k_sqc, Z.x_ex, Z.k_ex0, Z.x_set, Z.k_set, Z.x_mset, Z.k_ms, Z.k_ms2, Z.sm_nil, Z.sm_cons, Z.x_par, Z.k_par, Z.k_par2, Z.x_aug, Z.k_aug, Z.k_aug2a, Z.k_aug2s, Z.x_si, Z.k_si, Z.k_si1, Z.k_si2, Z.k_si3_0, Z.k_si3_1, Z.k_si3_2, Z.x_ret, Z.k_ret1, Z.x_retR, Z.k_retR, Z.x_retN, Z.x_if, Z.k_if1, Z.k_if0, Z.k_w0, Z.k_w1, Z.k_w2n, Z.k_w2c, Z.k_w2b, Z.k_w2r, Z.x_for, Z.fo_nil, Z.k_fon, Z.k_foc, Z.k_fob, Z.k_for2, Z.g_for, Z.g_lc, Z.x_brk, Z.x_cnt, Z.x_pas, Z.lk_0, Z.lk_S, Z.set_0, Z.set_S, Z.fz_i, Z.fz_s, Z.fz_b, Z.fz_n, Z.fz_t, Z.fz_l, Z.fz_c, Z.fl_nil, Z.fl_cons, Z.e_ret, Z.e_nx, ↓reduceIte, List.length_cons, List.length_nil, Nat.reduceAdd, Nat.reduceLeDiff, Nat.zero_le, List.mem_cons, List.not_mem_nil, or_false, or_true, false_or, true_or, Nat.reduceEqDiff, not_false_eq_true, reduceCtorEq, Option.map_some, List.cons.injEq, and_true, true_and, and_false, false_and, decide_true, decide_false, Bool.not_true, Bool.not_false, ne_eq, Nat.reduceMul, Nat.reduceSub, List.map_cons, List.map_nil, List.replicate, List.cons_append, List.nil_append, List.append_nil, List.length_append, Nat.zero_add, List.append_assoc]
  | k, .non, _, _, _ => by
    rw [Z.run_S (fn := ⟨1, [], 2, b18⟩) rfl rfl]
    simp -implicitDefEqProofs only [b18, in_kN, in_any, in_emp, in_non, in_many, in_wgh, in_alt, in_seq, lk_any, lk_emp, lk_non, lk_seq, lk_alt, Pt.D, Pt.T, Out.bind_ok, Out.bind_exc, Z.s_con, Z.s_var, Z.k_var, Z.s_tup, Z.s_lst, Z.s_dct, Z.s_bin, Z.s_neg, Z.s_cmp, Z.s_isN, Z.s_nt, Z.s_an, Z.s_or, Z.s_ite, Z.s_ixV, Z.s_ixR, Z.s_sl, Z.s_call, Z.s_bi, Z.s_isiV, Z.s_isiR, Z.s_mt, Z.s_fs, Z.s_lc, Z.t_con, Z.t_var, Z.t_bin, Z.t_cmp, Z.t_isN, Z.t_nt, Z.t_an, Z.t_or, Z.t_ixV, Z.t_ixR, Z.t_call, Z.t_bi, Z.t_isiV, Z.t_isiR, Z.t_mt, Z.a_nil, Z.a_val, Z.a_ref, Z.o_non, Z.o_som, Z.f_nil, Z.f_cons, Z.i_rng, Z.i_ov, Z.k_tru_b, Z.k_tru_i, Z.k_bin, Z.k_add, Z.k_sub, Z.k_mul, Z.k_fdiv, Z.k_mod, Z.k_pow, Z.k_app, Z.k_lapp, Z.k_cmp, Z.c_lt, Z.c_le, Z.c_gt, Z.c_ge, Z.c_eqi, Z.c_nei, Z.c_eqs, Z.c_nes, Z.c_ins, Z.c_int, Z.k_neg, Z.k_isN, Z.nn_0t, Z.nn_1t, Z.nn_0i, Z.nn_1i, Z.nn_0s, Z.nn_1s, Z.nn_0b, Z.nn_1b, Z.nn_0l, Z.nn_1l, Z.nn_0n, Z.nn_1n, Z.k_nt, Z.k_ntT, Z.k_an1, Z.k_an0, Z.k_anT1, Z.k_anT0, Z.k_or1, Z.k_or0, Z.k_orT1, Z.k_orT0, Z.k_ite1, Z.k_ite0, Z.k_ix, Z.k_ix2, Z.k_ixR, Z.k_ixr, Z.k_ref, Z.k_ref_i, Z.k_ref_s, Z.k_ref_b, Z.k_ref_n, Z.k_ref_t, Z.i_lst, Z.i_tup, Z.i_scr, Z.i_str, Z.i_dcs, Z.i_dci, Z.l_hit, Z.at_0, Z.at_1, Z.at_2, Z.at_3, Z.k_sl, Z.k_sl2, Z.k_sl3, Z.k_tup, Z.k_tup2, Z.k_lst, Z.k_lst2, Z.k_dct, Z.k_dct2, Z.v_nil, Z.v_cons, Z.k_pv, Z.k_c1, Z.k_c2, Z.k_c2k, Z.k_cb, Z.k_tk, Z.k_ret, Z.k_retX, Z.k_put, Z.k_putX, Z.tk_nil, Z.tk_v, Z.tk_r, Z.k_tv, Z.k_tr, Z.p_nil, Z.p_v0, Z.p_v1, Z.p_r, Z.r_nil, Z.r_in, Z.r_no, Z.k_bi, Z.pk_nil0, Z.pk_v, Z.pk_r, Z.some_bind, Z.b_lens, Z.b_lenl, Z.b_lent, Z.b_lenc, Z.b_inti, Z.b_str, Z.b_abs, Z.b_max, Z.b_min, Z.b_gcd, Z.b_all, Z.b_any, Z.k_isi, Z.k_isr, Z.k_mt, Z.k_mt2, Z.m_sw, Z.k_lc2, Z.k_a, Z.k_a2, Z.k_ar, Z.k_aref, Z.k_o, Z.k_f, Z.k_f2, Z.fm_s, Z.fm_i, Z.k_rng, Z.k_ov, Z.o_some, Z.x_nil, Z.x_cons, Z.k_sq, Z.k_sqr, Z.k_sqb, Z.k_sqc, Z.x_ex, Z.k_ex0, Z.x_set, Z.k_set, Z.x_mset, Z.k_ms, Z.k_ms2, Z.sm_nil, Z.sm_cons, Z.x_par, Z.k_par, Z.k_par2, Z.x_aug, Z.k_aug, Z.k_aug2a, Z.k_aug2s, Z.x_si, Z.k_si, Z.k_si1, Z.k_si2, Z.k_si3_0, Z.k_si3_1, Z.k_si3_2, Z.x_ret, Z.k_ret1, Z.x_retR, Z.k_retR, Z.x_retN, Z.x_if, Z.k_if1, Z.k_if0, Z.k_w0, Z.k_w1, Z.k_w2n, Z.k_w2c, Z.k_w2b, Z.k_w2r, Z.x_for, Z.fo_nil, Z.k_fon, Z.k_foc, Z.k_fob, Z.k_for2, Z.g_for, Z.g_lc, Z.x_brk, Z.x_cnt, Z.x_pas, Z.lk_0, Z.lk_S, Z.set_0, Z.set_S, Z.fz_i, Z.fz_s, Z.fz_b, Z.fz_n, Z.fz_t, Z.fz_l, Z.fz_c, Z.fl_nil, Z.fl_cons, Z.e_ret, Z.e_nx, ↓reduceIte, List.length_cons, List.length_nil, Nat.reduceAdd, Nat.reduceLeDiff, Nat.zero_le, List.mem_cons, List.not_mem_nil, or_false, or_true, false_or, true_or, Nat.reduceEqDiff, not_false_eq_true, reduceCtorEq, Option.map_some, List.cons.injEq, and_true, true_and, and_false, false_and, decide_true, decide_false, Bool.not_true, Bool.not_false, ne_eq, Nat.reduceMul, Nat.reduceSub, List.map_cons, List.map_nil, List.replicate, List.cons_append, List.nil_append, List.append_nil, List.length_append, Nat.zero_add, List.append_assoc]
  | k, .sig c, _, _, _ => by
    rw [Z.run_S (fn := ⟨1, [], 2, b18⟩) rfl rfl]
    simp -implicitDefEqProofs only [b18, in_kN, in_any, in_emp, in_non, in_many, in_wgh, in_alt, in_seq, lk_any, lk_emp, lk_non, lk_seq, lk_alt, Pt.D, Pt.T, Out.bind_ok, Out.bind_exc, Z.s_con, Z.s_var, Z.k_var, Z.s_tup, Z.s_lst, Z.s_dct, Z.s_bin, Z.s_neg, Z.s_cmp, Z.s_isN, Z.s_nt, Z.s_an, Z.s_or, Z.s_ite, Z.s_ixV, Z.s_ixR, Z.s_sl, Z.s_call, Z.s_bi, Z.s_isiV, Z.s_isiR, Z.s_mt, Z.s_fs, Z.s_lc, Z.t_con, Z.t_var, Z.t_bin, Z.t_cmp, Z.t_isN, Z.t_nt, Z.t_an, Z.t_or, Z.t_ixV, Z.t_ixR, Z.t_call, Z.t_bi, Z.t_isiV, Z.t_isiR, Z.t_mt, Z.a_nil, Z.a_val, Z.a_ref, Z.o_non, Z.o_som, Z.f_nil, Z.f_cons, Z.i_rng, Z.i_ov, Z.k_tru_b, Z.k_tru_i, Z.k_bin, Z.k_add, Z.k_sub, Z.k_mul, Z.k_fdiv, Z.k_mod, Z.k_pow, Z.k_app, Z.k_lapp, Z.k_cmp, Z.c_lt, Z.c_le, Z.c_gt, Z.c_ge, Z.c_eqi, Z.c_nei, Z.c_eqs, Z.c_nes, Z.c_ins, Z.c_int, Z.k_neg, Z.k_isN, Z.nn_0t, Z.nn_1t, Z.nn_0i, Z.nn_1i, Z.nn_0s, Z.nn_1s, Z.nn_0b, Z.nn_1b, Z.nn_0l, Z.nn_1l, Z.nn_0n, Z.nn_1n, Z.k_nt, Z.k_ntT, Z.k_an1, Z.k_an0, Z.k_anT1, Z.k_anT0, Z.k_or1, Z.k_or0, Z.k_orT1, Z.k_orT0, Z.k_ite1, Z.k_ite0, Z.k_ix, Z.k_ix2, Z.k_ixR, Z.k_ixr, Z.k_ref, Z.k_ref_i, Z.k_ref_s, Z.k_ref_b, Z.k_ref_n, Z.k_ref_t, Z.i_lst, Z.i_tup, Z.i_scr, Z.i_str, Z.i_dcs, Z.i_dci, Z.l_hit, Z.at_0, Z.at_1, Z.at_2, Z.at_3, Z.k_sl, Z.k_sl2, Z.k_sl3, Z.k_tup, Z.k_tup2, Z.k_lst, Z.k_lst2, Z.k_dct, Z.k_dct2, Z.v_nil, Z.v_cons, Z.k_pv, Z.k_c1, Z.k_c2, Z.k_c2k, Z.k_cb, Z.k_tk, Z.k_ret, Z.k_retX, Z.k_put, Z.k_putX, Z.tk_nil, Z.tk_v, Z.tk_r, Z.k_tv, Z.k_tr, Z.p_nil, Z.p_v0, Z.p_v1, Z.p_r, Z.r_nil, Z.r_in, Z.r_no, Z.k_bi, Z.pk_nil0, Z.pk_v, Z.pk_r, Z.some_bind, Z.b_lens, Z.b_lenl, Z.b_lent, Z.b_lenc, Z.b_inti, Z.b_str, Z.b_abs, Z.b_max, Z.b_min, Z.b_gcd, Z.b_all, Z.b_any, Z.k_isi, Z.k_isr, Z.k_mt, Z.k_mt2, Z.m_sw, Z.k_lc2, Z.k_a, Z.k_a2, Z.k_ar, Z.k_aref, Z.k_o, Z.k_f, Z.k_f2, Z.fm_s, Z.fm_i, Z.k_rng, Z.k_ov, Z.o_some, Z.x_nil, Z.x_cons, Z.k_sq, Z.k_sqr, Z.k_sqb, Z.k_sqc, Z.x_ex, Z.k_ex0, Z.x_set, Z.k_set, Z.x_mset, Z.k_ms, Z.k_ms2, Z.sm_nil, Z.sm_cons, Z.x_par, Z.k_par, Z.k_par2, Z.x_aug, Z.k_aug, Z.k_aug2a, Z.k_aug2s, Z.x_si, Z.k_si, Z.k_si1, Z.k_si2, Z.k_si3_0, Z.k_si3_1, Z.k_si3_2, Z.x_ret, Z.k_ret1, Z.x_retR, Z.k_retR, Z.x_retN, Z.x_if, Z.k_if1, Z.k_if0, Z.k_w0, Z.k_w1, Z.k_w2n, Z.k_w2c, Z.k_w2b, Z.k_w2r, Z.x_for, Z.fo_nil, Z.k_fon, Z.k_foc, Z.k_fob, Z.k_for2, Z.g_for, Z.g_lc, Z.x_brk, Z.x_cnt, Z.x_pas, Z.lk_0, Z.lk_S, Z.set_0, Z.set_S, Z.fz_i, Z.fz_s, Z.fz_b, Z.fz_n, Z.fz_t, Z.fz_l, Z.fz_c, Z.fl_nil, Z.fl_cons, Z.e_ret, Z.e_nx, ↓reduceIte, List.length_cons, List.length_nil, Nat.reduceAdd, Nat.reduceLeDiff, Nat.zero_le, List.mem_cons, List.not_mem_nil, or_false, or_true, false_or, true_or, Nat.reduceEqDiff, not_false_eq_true, reduceCtorEq, Option.map_some, List.cons.injEq, and_true, true_and, and_false, false_and, decide_true, decide_false, Bool.not_true, Bool.not_false, ne_eq, Nat.reduceMul, Nat.reduceSub, List.map_cons, List.map_nil, List.replicate, List.cons_append, List.nil_append, List.append_nil, List.length_append, Nat.zero_add, List.append_assoc]
  | 0, .many p, _, _, h => by unfold Pt.dp at h; omega
  | 0, .wgh x y p, _, _, h => by unfold Pt.dp at h; omega
  | 0, .alt p q, _, _, h => by unfold Pt.dp at h; omega
  | 0, .seq p q, _, _, h => by unfold Pt.dp at h; omega
  | k + 1, .many p, ho, hs, hd => by
    have hl := Pt.len (p := p) ho
    unfold Pt.sz at hs
    unfold Pt.dp at hd
    have h1 := words_ok k p ho (by omega) (by omega)
    have hf := p.fz
    have l1 : p.T.length + 1 ≤ 16777216 := by omega
    rw [show Pt.D (.many p) = .tup [.str [109, 97, 110, 121], p.D] from rfl, show Pt.T (.many p) = p.T ++ [42] from rfl, Z.run_S (fn := ⟨1, [], 2, b18⟩) rfl rfl]
    simp -implicitDefEqProofs only [b18, in_kN, in_any, in_emp, in_non, in_many, in_wgh, in_alt, in_seq, lk_any, lk_emp, lk_non, lk_seq, lk_alt, Out.bind_ok, Out.bind_exc, Z.s_con, Z.s_var, Z.k_var, Z.s_tup, Z.s_lst, Z.s_dct, Z.s_bin, Z.s_neg, Z.s_cmp, Z.s_isN, Z.s_nt, Z.s_an, Z.s_or, Z.s_ite, Z.s_ixV, Z.s_ixR, Z.s_sl, Z.s_call, Z.s_bi, Z.s_isiV, Z.s_isiR, Z.s_mt, Z.s_fs, Z.s_lc, Z.t_con, Z.t_var, Z.t_bin, Z.t_cmp, Z.t_isN, Z.t_nt, Z.t_an, Z.t_or, Z.t_ixV, Z.t_ixR, Z.t_call, Z.t_bi, Z.t_isiV, Z.t_isiR, Z.t_mt, Z.a_nil, Z.a_val, Z.a_ref, Z.o_non, Z.o_som, Z.f_nil, Z.f_cons, Z.i_rng, Z.i_ov, Z.k_tru_b, Z.k_tru_i, Z.k_bin, Z.k_add, Z.k_sub, Z.k_mul, Z.k_fdiv, Z.k_mod, Z.k_pow, Z.k_app, Z.k_lapp, Z.k_cmp, Z.c_lt, Z.c_le, Z.c_gt, Z.c_ge, Z.c_eqi, Z.c_nei, Z.c_eqs, Z.c_nes, Z.c_ins, Z.c_int, Z.k_neg, Z.k_isN, Z.nn_0t, Z.nn_1t, Z.nn_0i, Z.nn_1i, Z.nn_0s, Z.nn_1s, Z.nn_0b, Z.nn_1b, Z.nn_0l, Z.nn_1l, Z.nn_0n, Z.nn_1n, Z.k_nt, Z.k_ntT, Z.k_an1, Z.k_an0, Z.k_anT1, Z.k_anT0, Z.k_or1, Z.k_or0, Z.k_orT1, Z.k_orT0, Z.k_ite1, Z.k_ite0, Z.k_ix, Z.k_ix2, Z.k_ixR, Z.k_ixr, Z.k_ref, Z.k_ref_i, Z.k_ref_s, Z.k_ref_b, Z.k_ref_n, Z.k_ref_t, Z.i_lst, Z.i_tup, Z.i_scr, Z.i_str, Z.i_dcs, Z.i_dci, Z.l_hit, Z.at_0, Z.at_1, Z.at_2, Z.at_3, Z.k_sl, Z.k_sl2, Z.k_sl3, Z.k_tup, Z.k_tup2, Z.k_lst, Z.k_lst2, Z.k_dct, Z.k_dct2, Z.v_nil, Z.v_cons, Z.k_pv, Z.k_c1, Z.k_c2, Z.k_c2k, Z.k_cb, Z.k_tk, Z.k_ret, Z.k_retX, Z.k_put, Z.k_putX, Z.tk_nil, Z.tk_v, Z.tk_r, Z.k_tv, Z.k_tr, Z.p_nil, Z.p_v0, Z.p_v1, Z.p_r, Z.r_nil, Z.r_in, Z.r_no, Z.k_bi, Z.pk_nil0, Z.pk_v, Z.pk_r, Z.some_bind, Z.b_lens, Z.b_lenl, Z.b_lent, Z.b_lenc, Z.b_inti, Z.b_str, Z.b_abs, Z.b_max, Z.b_min, Z.b_gcd, Z.b_all, Z.b_any, Z.k_isi, Z.k_isr, Z.k_mt, Z.k_mt2, Z.m_sw, Z.k_lc2, Z.k_a, Z.k_a2, Z.k_ar, Z.k_aref, Z.k_o, Z.k_f, Z.k_f2, Z.fm_s, Z.fm_i, Z.k_rng, Z.k_ov, Z.o_some, Z.x_nil, Z.x_cons, Z.k_sq, Z.k_sqr, Z.k_sqb, Z.k_sqc, Z.x_ex, Z.k_ex0, Z.x_set, Z.k_set, Z.x_mset, Z.k_ms, Z.k_ms2, Z.sm_nil, Z.sm_cons, Z.x_par, Z.k_par, Z.k_par2, Z.x_aug, Z.k_aug, Z.k_aug2a, Z.k_aug2s, Z.x_si, Z.k_si, Z.k_si1, Z.k_si2, Z.k_si3_0, Z.k_si3_1, Z.k_si3_2, Z.x_ret, Z.k_ret1, Z.x_retR, Z.k_retR, Z.x_retN, Z.x_if, Z.k_if1, Z.k_if0, Z.k_w0, Z.k_w1, Z.k_w2n, Z.k_w2c, Z.k_w2b, Z.k_w2r, Z.x_for, Z.fo_nil, Z.k_fon, Z.k_foc, Z.k_fob, Z.k_for2, Z.g_for, Z.g_lc, Z.x_brk, Z.x_cnt, Z.x_pas, Z.lk_0, Z.lk_S, Z.set_0, Z.set_S, Z.fz_i, Z.fz_s, Z.fz_b, Z.fz_n, Z.fz_t, Z.fz_l, Z.fz_c, Z.fl_nil, Z.fl_cons, Z.e_ret, Z.e_nx, ↓reduceIte, List.length_cons, List.length_nil, Nat.reduceAdd, Nat.reduceLeDiff, Nat.zero_le, List.mem_cons, List.not_mem_nil, or_false, or_true, false_or, true_or, Nat.reduceEqDiff, not_false_eq_true, reduceCtorEq, Option.map_some, List.cons.injEq, and_true, true_and, and_false, false_and, decide_true, decide_false, Bool.not_true, Bool.not_false, ne_eq, Nat.reduceMul, Nat.reduceSub, List.map_cons, List.map_nil, List.replicate, List.cons_append, List.nil_append, List.append_nil, List.length_append, Nat.zero_add, List.append_assoc, hf, ref_pl, h1, l1]
  | k + 1, .wgh x y p, ho, hs, hd => by
    have hl := Pt.len (p := p) ho.2
    have hw := wT_len ho.1
    unfold Pt.sz at hs
    unfold Pt.dp at hd
    have h1 := words_ok k p ho.2 (by omega) (by omega)
    have h2 := said_ok (k + 1) ho.1
    have hf := p.fz
    have l1 : (wT x y).length + 1 ≤ 16777216 := by omega
    have l2 : (wT x y).length + (p.T.length + 1) ≤ 16777216 := by omega
    have l3 : (wT x y).length + (p.T.length + 1) + 1 ≤ 16777216 := by omega
    have l4 : (wT x y).length + 1 + p.T.length ≤ 16777216 := by omega
    have l5 : (wT x y).length + 1 + p.T.length + 1 ≤ 16777216 := by omega
    rw [show Pt.D (.wgh x y p) = .tup [.str [119, 101, 105, 103, 104], .tup [.int x, .int y], p.D] from rfl, show Pt.T (.wgh x y p) = wT x y ++ 91 :: (p.T ++ [93]) from rfl, Z.run_S (fn := ⟨1, [], 2, b18⟩) rfl rfl]
    simp -implicitDefEqProofs only [b18, in_kN, in_any, in_emp, in_non, in_many, in_wgh, in_alt, in_seq, lk_any, lk_emp, lk_non, lk_seq, lk_alt, Out.bind_ok, Out.bind_exc, Z.s_con, Z.s_var, Z.k_var, Z.s_tup, Z.s_lst, Z.s_dct, Z.s_bin, Z.s_neg, Z.s_cmp, Z.s_isN, Z.s_nt, Z.s_an, Z.s_or, Z.s_ite, Z.s_ixV, Z.s_ixR, Z.s_sl, Z.s_call, Z.s_bi, Z.s_isiV, Z.s_isiR, Z.s_mt, Z.s_fs, Z.s_lc, Z.t_con, Z.t_var, Z.t_bin, Z.t_cmp, Z.t_isN, Z.t_nt, Z.t_an, Z.t_or, Z.t_ixV, Z.t_ixR, Z.t_call, Z.t_bi, Z.t_isiV, Z.t_isiR, Z.t_mt, Z.a_nil, Z.a_val, Z.a_ref, Z.o_non, Z.o_som, Z.f_nil, Z.f_cons, Z.i_rng, Z.i_ov, Z.k_tru_b, Z.k_tru_i, Z.k_bin, Z.k_add, Z.k_sub, Z.k_mul, Z.k_fdiv, Z.k_mod, Z.k_pow, Z.k_app, Z.k_lapp, Z.k_cmp, Z.c_lt, Z.c_le, Z.c_gt, Z.c_ge, Z.c_eqi, Z.c_nei, Z.c_eqs, Z.c_nes, Z.c_ins, Z.c_int, Z.k_neg, Z.k_isN, Z.nn_0t, Z.nn_1t, Z.nn_0i, Z.nn_1i, Z.nn_0s, Z.nn_1s, Z.nn_0b, Z.nn_1b, Z.nn_0l, Z.nn_1l, Z.nn_0n, Z.nn_1n, Z.k_nt, Z.k_ntT, Z.k_an1, Z.k_an0, Z.k_anT1, Z.k_anT0, Z.k_or1, Z.k_or0, Z.k_orT1, Z.k_orT0, Z.k_ite1, Z.k_ite0, Z.k_ix, Z.k_ix2, Z.k_ixR, Z.k_ixr, Z.k_ref, Z.k_ref_i, Z.k_ref_s, Z.k_ref_b, Z.k_ref_n, Z.k_ref_t, Z.i_lst, Z.i_tup, Z.i_scr, Z.i_str, Z.i_dcs, Z.i_dci, Z.l_hit, Z.at_0, Z.at_1, Z.at_2, Z.at_3, Z.k_sl, Z.k_sl2, Z.k_sl3, Z.k_tup, Z.k_tup2, Z.k_lst, Z.k_lst2, Z.k_dct, Z.k_dct2, Z.v_nil, Z.v_cons, Z.k_pv, Z.k_c1, Z.k_c2, Z.k_c2k, Z.k_cb, Z.k_tk, Z.k_ret, Z.k_retX, Z.k_put, Z.k_putX, Z.tk_nil, Z.tk_v, Z.tk_r, Z.k_tv, Z.k_tr, Z.p_nil, Z.p_v0, Z.p_v1, Z.p_r, Z.r_nil, Z.r_in, Z.r_no, Z.k_bi, Z.pk_nil0, Z.pk_v, Z.pk_r, Z.some_bind, Z.b_lens, Z.b_lenl, Z.b_lent, Z.b_lenc, Z.b_inti, Z.b_str, Z.b_abs, Z.b_max, Z.b_min, Z.b_gcd, Z.b_all, Z.b_any, Z.k_isi, Z.k_isr, Z.k_mt, Z.k_mt2, Z.m_sw, Z.k_lc2, Z.k_a, Z.k_a2, Z.k_ar, Z.k_aref, Z.k_o, Z.k_f, Z.k_f2, Z.fm_s, Z.fm_i, Z.k_rng, Z.k_ov, Z.o_some, Z.x_nil, Z.x_cons, Z.k_sq, Z.k_sqr, Z.k_sqb, Z.k_sqc, Z.x_ex, Z.k_ex0, Z.x_set, Z.k_set, Z.x_mset, Z.k_ms, Z.k_ms2, Z.sm_nil, Z.sm_cons, Z.x_par, Z.k_par, Z.k_par2, Z.x_aug, Z.k_aug, Z.k_aug2a, Z.k_aug2s, Z.x_si, Z.k_si, Z.k_si1, Z.k_si2, Z.k_si3_0, Z.k_si3_1, Z.k_si3_2, Z.x_ret, Z.k_ret1, Z.x_retR, Z.k_retR, Z.x_retN, Z.x_if, Z.k_if1, Z.k_if0, Z.k_w0, Z.k_w1, Z.k_w2n, Z.k_w2c, Z.k_w2b, Z.k_w2r, Z.x_for, Z.fo_nil, Z.k_fon, Z.k_foc, Z.k_fob, Z.k_for2, Z.g_for, Z.g_lc, Z.x_brk, Z.x_cnt, Z.x_pas, Z.lk_0, Z.lk_S, Z.set_0, Z.set_S, Z.fz_i, Z.fz_s, Z.fz_b, Z.fz_n, Z.fz_t, Z.fz_l, Z.fz_c, Z.fl_nil, Z.fl_cons, Z.e_ret, Z.e_nx, ↓reduceIte, List.length_cons, List.length_nil, Nat.reduceAdd, Nat.reduceLeDiff, Nat.zero_le, List.mem_cons, List.not_mem_nil, or_false, or_true, false_or, true_or, Nat.reduceEqDiff, not_false_eq_true, reduceCtorEq, Option.map_some, List.cons.injEq, and_true, true_and, and_false, false_and, decide_true, decide_false, Bool.not_true, Bool.not_false, ne_eq, Nat.reduceMul, Nat.reduceSub, List.map_cons, List.map_nil, List.replicate, List.cons_append, List.nil_append, List.append_nil, List.length_append, Nat.zero_add, List.append_assoc, hf, ref_pl, h1, h2, l1, l2, l3, l4, l5]
  | k + 1, .alt p q, ho, hs, hd => by
    have hl := Pt.len (p := p) ho.1
    have hl2 := Pt.len (p := q) ho.2
    unfold Pt.sz at hs
    unfold Pt.dp at hd
    have h1 := words_ok k p ho.1 (by omega) (by omega)
    have h2 := words_ok k q ho.2 (by omega) (by omega)
    have hf := p.fz
    have hf2 := q.fz
    have l1 : p.T.length + 1 ≤ 16777216 := by omega
    have l1' : 1 + p.T.length ≤ 16777216 := by omega
    have l2 : p.T.length + 1 + 3 ≤ 16777216 := by omega
    have l3 : p.T.length + 3 + 1 + q.T.length ≤ 16777216 := by omega
    have l4 : p.T.length + (q.T.length + 1 + 1 + 1) + 1 + 1 ≤ 16777216 := by omega
    rw [show Pt.D (.alt p q) = .tup [.str [111, 114], p.D, q.D] from rfl, show Pt.T (.alt p q) = 40 :: (p.T ++ 32 :: 43 :: 32 :: (q.T ++ [41])) from rfl, Z.run_S (fn := ⟨1, [], 2, b18⟩) rfl rfl]
    simp -implicitDefEqProofs only [b18, in_kN, in_any, in_emp, in_non, in_many, in_wgh, in_alt, in_seq, lk_any, lk_emp, lk_non, lk_seq, lk_alt, Out.bind_ok, Out.bind_exc, Z.s_con, Z.s_var, Z.k_var, Z.s_tup, Z.s_lst, Z.s_dct, Z.s_bin, Z.s_neg, Z.s_cmp, Z.s_isN, Z.s_nt, Z.s_an, Z.s_or, Z.s_ite, Z.s_ixV, Z.s_ixR, Z.s_sl, Z.s_call, Z.s_bi, Z.s_isiV, Z.s_isiR, Z.s_mt, Z.s_fs, Z.s_lc, Z.t_con, Z.t_var, Z.t_bin, Z.t_cmp, Z.t_isN, Z.t_nt, Z.t_an, Z.t_or, Z.t_ixV, Z.t_ixR, Z.t_call, Z.t_bi, Z.t_isiV, Z.t_isiR, Z.t_mt, Z.a_nil, Z.a_val, Z.a_ref, Z.o_non, Z.o_som, Z.f_nil, Z.f_cons, Z.i_rng, Z.i_ov, Z.k_tru_b, Z.k_tru_i, Z.k_bin, Z.k_add, Z.k_sub, Z.k_mul, Z.k_fdiv, Z.k_mod, Z.k_pow, Z.k_app, Z.k_lapp, Z.k_cmp, Z.c_lt, Z.c_le, Z.c_gt, Z.c_ge, Z.c_eqi, Z.c_nei, Z.c_eqs, Z.c_nes, Z.c_ins, Z.c_int, Z.k_neg, Z.k_isN, Z.nn_0t, Z.nn_1t, Z.nn_0i, Z.nn_1i, Z.nn_0s, Z.nn_1s, Z.nn_0b, Z.nn_1b, Z.nn_0l, Z.nn_1l, Z.nn_0n, Z.nn_1n, Z.k_nt, Z.k_ntT, Z.k_an1, Z.k_an0, Z.k_anT1, Z.k_anT0, Z.k_or1, Z.k_or0, Z.k_orT1, Z.k_orT0, Z.k_ite1, Z.k_ite0, Z.k_ix, Z.k_ix2, Z.k_ixR, Z.k_ixr, Z.k_ref, Z.k_ref_i, Z.k_ref_s, Z.k_ref_b, Z.k_ref_n, Z.k_ref_t, Z.i_lst, Z.i_tup, Z.i_scr, Z.i_str, Z.i_dcs, Z.i_dci, Z.l_hit, Z.at_0, Z.at_1, Z.at_2, Z.at_3, Z.k_sl, Z.k_sl2, Z.k_sl3, Z.k_tup, Z.k_tup2, Z.k_lst, Z.k_lst2, Z.k_dct, Z.k_dct2, Z.v_nil, Z.v_cons, Z.k_pv, Z.k_c1, Z.k_c2, Z.k_c2k, Z.k_cb, Z.k_tk, Z.k_ret, Z.k_retX, Z.k_put, Z.k_putX, Z.tk_nil, Z.tk_v, Z.tk_r, Z.k_tv, Z.k_tr, Z.p_nil, Z.p_v0, Z.p_v1, Z.p_r, Z.r_nil, Z.r_in, Z.r_no, Z.k_bi, Z.pk_nil0, Z.pk_v, Z.pk_r, Z.some_bind, Z.b_lens, Z.b_lenl, Z.b_lent, Z.b_lenc, Z.b_inti, Z.b_str, Z.b_abs, Z.b_max, Z.b_min, Z.b_gcd, Z.b_all, Z.b_any, Z.k_isi, Z.k_isr, Z.k_mt, Z.k_mt2, Z.m_sw, Z.k_lc2, Z.k_a, Z.k_a2, Z.k_ar, Z.k_aref, Z.k_o, Z.k_f, Z.k_f2, Z.fm_s, Z.fm_i, Z.k_rng, Z.k_ov, Z.o_some, Z.x_nil, Z.x_cons, Z.k_sq, Z.k_sqr, Z.k_sqb, Z.k_sqc, Z.x_ex, Z.k_ex0, Z.x_set, Z.k_set, Z.x_mset, Z.k_ms, Z.k_ms2, Z.sm_nil, Z.sm_cons, Z.x_par, Z.k_par, Z.k_par2, Z.x_aug, Z.k_aug, Z.k_aug2a, Z.k_aug2s, Z.x_si, Z.k_si, Z.k_si1, Z.k_si2, Z.k_si3_0, Z.k_si3_1, Z.k_si3_2, Z.x_ret, Z.k_ret1, Z.x_retR, Z.k_retR, Z.x_retN, Z.x_if, Z.k_if1, Z.k_if0, Z.k_w0, Z.k_w1, Z.k_w2n, Z.k_w2c, Z.k_w2b, Z.k_w2r, Z.x_for, Z.fo_nil, Z.k_fon, Z.k_foc, Z.k_fob, Z.k_for2, Z.g_for, Z.g_lc, Z.x_brk, Z.x_cnt, Z.x_pas, Z.lk_0, Z.lk_S, Z.set_0, Z.set_S, Z.fz_i, Z.fz_s, Z.fz_b, Z.fz_n, Z.fz_t, Z.fz_l, Z.fz_c, Z.fl_nil, Z.fl_cons, Z.e_ret, Z.e_nx, ↓reduceIte, List.length_cons, List.length_nil, Nat.reduceAdd, Nat.reduceLeDiff, Nat.zero_le, List.mem_cons, List.not_mem_nil, or_false, or_true, false_or, true_or, Nat.reduceEqDiff, not_false_eq_true, reduceCtorEq, Option.map_some, List.cons.injEq, and_true, true_and, and_false, false_and, decide_true, decide_false, Bool.not_true, Bool.not_false, ne_eq, Nat.reduceMul, Nat.reduceSub, List.map_cons, List.map_nil, List.replicate, List.cons_append, List.nil_append, List.append_nil, List.length_append, Nat.zero_add, List.append_assoc, hf, hf2, ref_pl, h1, h2, l1, l1', l2, l3, l4]
  | k + 1, .seq p q, ho, hs, hd => by
    have hl := Pt.len (p := p) ho.1
    have hl2 := Pt.len (p := q) ho.2
    unfold Pt.sz at hs
    unfold Pt.dp at hd
    have h1 := words_ok k p ho.1 (by omega) (by omega)
    have h2 := words_ok k q ho.2 (by omega) (by omega)
    have hf := p.fz
    have hf2 := q.fz
    have l1 : p.T.length + 1 ≤ 16777216 := by omega
    have l1' : 1 + p.T.length ≤ 16777216 := by omega
    have l2 : p.T.length + 1 + 1 ≤ 16777216 := by omega
    have l3 : p.T.length + 1 + 1 + q.T.length ≤ 16777216 := by omega
    have l4 : p.T.length + (q.T.length + 1) + 1 + 1 ≤ 16777216 := by omega
    rw [show Pt.D (.seq p q) = .tup [.str [116, 104, 101, 110], p.D, q.D] from rfl, show Pt.T (.seq p q) = 40 :: (p.T ++ 32 :: (q.T ++ [41])) from rfl, Z.run_S (fn := ⟨1, [], 2, b18⟩) rfl rfl]
    simp -implicitDefEqProofs only [b18, in_kN, in_any, in_emp, in_non, in_many, in_wgh, in_alt, in_seq, lk_any, lk_emp, lk_non, lk_seq, lk_alt, Out.bind_ok, Out.bind_exc, Z.s_con, Z.s_var, Z.k_var, Z.s_tup, Z.s_lst, Z.s_dct, Z.s_bin, Z.s_neg, Z.s_cmp, Z.s_isN, Z.s_nt, Z.s_an, Z.s_or, Z.s_ite, Z.s_ixV, Z.s_ixR, Z.s_sl, Z.s_call, Z.s_bi, Z.s_isiV, Z.s_isiR, Z.s_mt, Z.s_fs, Z.s_lc, Z.t_con, Z.t_var, Z.t_bin, Z.t_cmp, Z.t_isN, Z.t_nt, Z.t_an, Z.t_or, Z.t_ixV, Z.t_ixR, Z.t_call, Z.t_bi, Z.t_isiV, Z.t_isiR, Z.t_mt, Z.a_nil, Z.a_val, Z.a_ref, Z.o_non, Z.o_som, Z.f_nil, Z.f_cons, Z.i_rng, Z.i_ov, Z.k_tru_b, Z.k_tru_i, Z.k_bin, Z.k_add, Z.k_sub, Z.k_mul, Z.k_fdiv, Z.k_mod, Z.k_pow, Z.k_app, Z.k_lapp, Z.k_cmp, Z.c_lt, Z.c_le, Z.c_gt, Z.c_ge, Z.c_eqi, Z.c_nei, Z.c_eqs, Z.c_nes, Z.c_ins, Z.c_int, Z.k_neg, Z.k_isN, Z.nn_0t, Z.nn_1t, Z.nn_0i, Z.nn_1i, Z.nn_0s, Z.nn_1s, Z.nn_0b, Z.nn_1b, Z.nn_0l, Z.nn_1l, Z.nn_0n, Z.nn_1n, Z.k_nt, Z.k_ntT, Z.k_an1, Z.k_an0, Z.k_anT1, Z.k_anT0, Z.k_or1, Z.k_or0, Z.k_orT1, Z.k_orT0, Z.k_ite1, Z.k_ite0, Z.k_ix, Z.k_ix2, Z.k_ixR, Z.k_ixr, Z.k_ref, Z.k_ref_i, Z.k_ref_s, Z.k_ref_b, Z.k_ref_n, Z.k_ref_t, Z.i_lst, Z.i_tup, Z.i_scr, Z.i_str, Z.i_dcs, Z.i_dci, Z.l_hit, Z.at_0, Z.at_1, Z.at_2, Z.at_3, Z.k_sl, Z.k_sl2, Z.k_sl3, Z.k_tup, Z.k_tup2, Z.k_lst, Z.k_lst2, Z.k_dct, Z.k_dct2, Z.v_nil, Z.v_cons, Z.k_pv, Z.k_c1, Z.k_c2, Z.k_c2k, Z.k_cb, Z.k_tk, Z.k_ret, Z.k_retX, Z.k_put, Z.k_putX, Z.tk_nil, Z.tk_v, Z.tk_r, Z.k_tv, Z.k_tr, Z.p_nil, Z.p_v0, Z.p_v1, Z.p_r, Z.r_nil, Z.r_in, Z.r_no, Z.k_bi, Z.pk_nil0, Z.pk_v, Z.pk_r, Z.some_bind, Z.b_lens, Z.b_lenl, Z.b_lent, Z.b_lenc, Z.b_inti, Z.b_str, Z.b_abs, Z.b_max, Z.b_min, Z.b_gcd, Z.b_all, Z.b_any, Z.k_isi, Z.k_isr, Z.k_mt, Z.k_mt2, Z.m_sw, Z.k_lc2, Z.k_a, Z.k_a2, Z.k_ar, Z.k_aref, Z.k_o, Z.k_f, Z.k_f2, Z.fm_s, Z.fm_i, Z.k_rng, Z.k_ov, Z.o_some, Z.x_nil, Z.x_cons, Z.k_sq, Z.k_sqr, Z.k_sqb, Z.k_sqc, Z.x_ex, Z.k_ex0, Z.x_set, Z.k_set, Z.x_mset, Z.k_ms, Z.k_ms2, Z.sm_nil, Z.sm_cons, Z.x_par, Z.k_par, Z.k_par2, Z.x_aug, Z.k_aug, Z.k_aug2a, Z.k_aug2s, Z.x_si, Z.k_si, Z.k_si1, Z.k_si2, Z.k_si3_0, Z.k_si3_1, Z.k_si3_2, Z.x_ret, Z.k_ret1, Z.x_retR, Z.k_retR, Z.x_retN, Z.x_if, Z.k_if1, Z.k_if0, Z.k_w0, Z.k_w1, Z.k_w2n, Z.k_w2c, Z.k_w2b, Z.k_w2r, Z.x_for, Z.fo_nil, Z.k_fon, Z.k_foc, Z.k_fob, Z.k_for2, Z.g_for, Z.g_lc, Z.x_brk, Z.x_cnt, Z.x_pas, Z.lk_0, Z.lk_S, Z.set_0, Z.set_S, Z.fz_i, Z.fz_s, Z.fz_b, Z.fz_n, Z.fz_t, Z.fz_l, Z.fz_c, Z.fl_nil, Z.fl_cons, Z.e_ret, Z.e_nx, ↓reduceIte, List.length_cons, List.length_nil, Nat.reduceAdd, Nat.reduceLeDiff, Nat.zero_le, List.mem_cons, List.not_mem_nil, or_false, or_true, false_or, true_or, Nat.reduceEqDiff, not_false_eq_true, reduceCtorEq, Option.map_some, List.cons.injEq, and_true, true_and, and_false, false_and, decide_true, decide_false, Bool.not_true, Bool.not_false, ne_eq, Nat.reduceMul, Nat.reduceSub, List.map_cons, List.map_nil, List.replicate, List.cons_append, List.nil_append, List.append_nil, List.length_append, Nat.zero_add, List.append_assoc, hf, hf2, ref_pl, h1, h2, l1, l1', l2, l3, l4]
/-! the law's leaves -/
theorem seqor {r : Int} (h0 : 0 ≤ r) (h : r < 2) : L2.atI [D.str [116, 104, 101, 110], .str [111, 114]] r = some (.str (if r = 0 then [116, 104, 101, 110] else [111, 114])) := by
  have : r = 0 ∨ r = 1 := by omega
  rcases this with rfl | rfl
  · rw [if_pos rfl]; exact Z.at_0
  · rw [if_neg (by decide)]; exact Z.at_1
theorem letter {r : Int} (h0 : 0 ≤ r) (h : r < 26) : ∃ c, L2.atI [97, 98, 99, 100, 101, 102, 103, 104, 105, 106, 107, 108, 109, 110, 111, 112, 113, 114, 115, 116, 117, 118, 119, 120, 121, 122] r = some c ∧ 97 ≤ c ∧ c ≤ 122 := by
  obtain ⟨n, rfl⟩ := Int.eq_ofNat_of_zero_le h0
  have hn : n < 26 := by omega
  have hl : n < [97, 98, 99, 100, 101, 102, 103, 104, 105, 106, 107, 108, 109, 110, 111, 112, 113, 114, 115, 116, 117, 118, 119, 120, 121, 122].length := hn
  refine ⟨_, L2.atI_nat (List.getElem?_eq_getElem hl), ?_⟩
  have := List.getElem_mem hl
  simp only [List.mem_cons, List.not_mem_nil, or_false] at this
  omega
def Pt.leaf : Pt → Prop
  | .any => True
  | .emp => True
  | .non => True
  | .sig c => 97 ≤ c ∧ c ≤ 122
  | _ => False
theorem Pt.leaf_ok {p : Pt} (h : p.leaf) : p.ok ∧ p.dp = 0 ∧ p.sz = 1 := by
  cases p <;> first | exact ⟨trivial, rfl, rfl⟩ | exact ⟨h, rfl, rfl⟩ | exact h.elim
theorem leaf_ok (k : Nat) {n : Nat} {w : D} (h : Wl n w) (hn : n < 2 ^ 38) : ∃ (p : Pt) (w' : D), call Φ (k + 2) 16 [w] = .ok p.D [w'] ∧ p.leaf ∧ Wl (n + 2) w' := by
  rw [Z.run_S (fn := ⟨1, [0], 2, b16⟩) rfl rfl]
  obtain ⟨r, w1, d1, a1, a2, a3⟩ := dip_ok k h (by omega) (m := 6) (by decide) (by decide)
  obtain ⟨r2, w2, d2, b1, b2, b3⟩ := dip_ok k a3 (by omega) (m := 26) (by decide) (by decide)
  by_cases h3 : r < 3
  · have hr : r = 0 ∨ r = 1 ∨ r = 2 := by omega
    have l0 : (0 : Int) < 3 := by decide
    have l1 : (1 : Int) < 3 := by decide
    have l2 : (2 : Int) < 3 := by decide
    rcases hr with rfl | rfl | rfl
    · refine ⟨.any, w1, ?_, trivial, a3.mono (by omega)⟩
      simp -implicitDefEqProofs only [b16, Out.bind_ok, Out.bind_exc, Z.s_con, Z.s_var, Z.k_var, Z.s_tup, Z.s_lst, Z.s_dct, Z.s_bin, Z.s_neg, Z.s_cmp, Z.s_isN, Z.s_nt, Z.s_an, Z.s_or, Z.s_ite, Z.s_ixV, Z.s_ixR, Z.s_sl, Z.s_call, Z.s_bi, Z.s_isiV, Z.s_isiR, Z.s_mt, Z.s_fs, Z.s_lc, Z.t_con, Z.t_var, Z.t_bin, Z.t_cmp, Z.t_isN, Z.t_nt, Z.t_an, Z.t_or, Z.t_ixV, Z.t_ixR, Z.t_call, Z.t_bi, Z.t_isiV, Z.t_isiR, Z.t_mt, Z.a_nil, Z.a_val, Z.a_ref, Z.o_non, Z.o_som, Z.f_nil, Z.f_cons, Z.i_rng, Z.i_ov, Z.k_tru_b, Z.k_tru_i, Z.k_bin, Z.k_add, Z.k_sub, Z.k_mul, Z.k_fdiv, Z.k_mod, Z.k_pow, Z.k_app, Z.k_lapp, Z.k_cmp, Z.c_lt, Z.c_le, Z.c_gt, Z.c_ge, Z.c_eqi, Z.c_nei, Z.c_eqs, Z.c_nes, Z.c_ins, Z.c_int, Z.k_neg, Z.k_isN, Z.nn_0t, Z.nn_1t, Z.nn_0i, Z.nn_1i, Z.nn_0s, Z.nn_1s, Z.nn_0b, Z.nn_1b, Z.nn_0l, Z.nn_1l, Z.nn_0n, Z.nn_1n, Z.k_nt, Z.k_ntT, Z.k_an1, Z.k_an0, Z.k_anT1, Z.k_anT0, Z.k_or1, Z.k_or0, Z.k_orT1, Z.k_orT0, Z.k_ite1, Z.k_ite0, Z.k_ix, Z.k_ix2, Z.k_ixR, Z.k_ixr, Z.k_ref, Z.k_ref_i, Z.k_ref_s, Z.k_ref_b, Z.k_ref_n, Z.k_ref_t, Z.i_lst, Z.i_tup, Z.i_scr, Z.i_str, Z.i_dcs, Z.i_dci, Z.l_hit, Z.at_0, Z.at_1, Z.at_2, Z.at_3, Z.k_sl, Z.k_sl2, Z.k_sl3, Z.k_tup, Z.k_tup2, Z.k_lst, Z.k_lst2, Z.k_dct, Z.k_dct2, Z.v_nil, Z.v_cons, Z.k_pv, Z.k_c1, Z.k_c2, Z.k_c2k, Z.k_cb, Z.k_tk, Z.k_ret, Z.k_retX, Z.k_put, Z.k_putX, Z.tk_nil, Z.tk_v, Z.tk_r, Z.k_tv, Z.k_tr, Z.p_nil, Z.p_v0, Z.p_v1, Z.p_r, Z.r_nil, Z.r_in, Z.r_no, Z.k_bi, Z.pk_nil0, Z.pk_v, Z.pk_r, Z.some_bind, Z.b_lens, Z.b_lenl, Z.b_lent, Z.b_lenc, Z.b_inti, Z.b_str, Z.b_abs, Z.b_max, Z.b_min, Z.b_gcd, Z.b_all, Z.b_any, Z.k_isi, Z.k_isr, Z.k_mt, Z.k_mt2, Z.m_sw, Z.k_lc2, Z.k_a, Z.k_a2, Z.k_ar, Z.k_aref, Z.k_o, Z.k_f, Z.k_f2, Z.fm_s, Z.fm_i, Z.k_rng, Z.k_ov, Z.o_some, Z.x_nil, Z.x_cons, Z.k_sq, Z.k_sqr, Z.k_sqb, Z.k_sqc, Z.x_ex, Z.k_ex0, Z.x_set, Z.k_set, Z.x_mset, Z.k_ms, Z.k_ms2, Z.sm_nil, Z.sm_cons, Z.x_par, Z.k_par, Z.k_par2, Z.x_aug, Z.k_aug, Z.k_aug2a, Z.k_aug2s, Z.x_si, Z.k_si, Z.k_si1, Z.k_si2, Z.k_si3_0, Z.k_si3_1, Z.k_si3_2, Z.x_ret, Z.k_ret1, Z.x_retR, Z.k_retR, Z.x_retN, Z.x_if, Z.k_if1, Z.k_if0, Z.k_w0, Z.k_w1, Z.k_w2n, Z.k_w2c, Z.k_w2b, Z.k_w2r, Z.x_for, Z.fo_nil, Z.k_fon, Z.k_foc, Z.k_fob, Z.k_for2, Z.g_for, Z.g_lc, Z.x_brk, Z.x_cnt, Z.x_pas, Z.lk_0, Z.lk_S, Z.set_0, Z.set_S, Z.fz_i, Z.fz_s, Z.fz_b, Z.fz_n, Z.fz_t, Z.fz_l, Z.fz_c, Z.fl_nil, Z.fl_cons, Z.e_ret, Z.e_nx, ↓reduceIte, List.length_cons, List.length_nil, Nat.reduceAdd, Nat.reduceLeDiff, Nat.zero_le, List.mem_cons, List.not_mem_nil, or_false, or_true, false_or, true_or, Nat.reduceEqDiff, not_false_eq_true, reduceCtorEq, Option.map_some, List.cons.injEq, and_true, true_and, and_false, false_and, decide_true, decide_false, Bool.not_true, Bool.not_false, ne_eq, Nat.reduceMul, Nat.reduceSub, List.map_cons, List.map_nil, List.replicate, List.cons_append, List.nil_append, List.append_nil, List.length_append, Nat.zero_add, List.append_assoc, d1, l0]
      rw [Z.e_ret1 rfl]
      rfl
    · refine ⟨.emp, w1, ?_, trivial, a3.mono (by omega)⟩
      simp -implicitDefEqProofs only [b16, Out.bind_ok, Out.bind_exc, Z.s_con, Z.s_var, Z.k_var, Z.s_tup, Z.s_lst, Z.s_dct, Z.s_bin, Z.s_neg, Z.s_cmp, Z.s_isN, Z.s_nt, Z.s_an, Z.s_or, Z.s_ite, Z.s_ixV, Z.s_ixR, Z.s_sl, Z.s_call, Z.s_bi, Z.s_isiV, Z.s_isiR, Z.s_mt, Z.s_fs, Z.s_lc, Z.t_con, Z.t_var, Z.t_bin, Z.t_cmp, Z.t_isN, Z.t_nt, Z.t_an, Z.t_or, Z.t_ixV, Z.t_ixR, Z.t_call, Z.t_bi, Z.t_isiV, Z.t_isiR, Z.t_mt, Z.a_nil, Z.a_val, Z.a_ref, Z.o_non, Z.o_som, Z.f_nil, Z.f_cons, Z.i_rng, Z.i_ov, Z.k_tru_b, Z.k_tru_i, Z.k_bin, Z.k_add, Z.k_sub, Z.k_mul, Z.k_fdiv, Z.k_mod, Z.k_pow, Z.k_app, Z.k_lapp, Z.k_cmp, Z.c_lt, Z.c_le, Z.c_gt, Z.c_ge, Z.c_eqi, Z.c_nei, Z.c_eqs, Z.c_nes, Z.c_ins, Z.c_int, Z.k_neg, Z.k_isN, Z.nn_0t, Z.nn_1t, Z.nn_0i, Z.nn_1i, Z.nn_0s, Z.nn_1s, Z.nn_0b, Z.nn_1b, Z.nn_0l, Z.nn_1l, Z.nn_0n, Z.nn_1n, Z.k_nt, Z.k_ntT, Z.k_an1, Z.k_an0, Z.k_anT1, Z.k_anT0, Z.k_or1, Z.k_or0, Z.k_orT1, Z.k_orT0, Z.k_ite1, Z.k_ite0, Z.k_ix, Z.k_ix2, Z.k_ixR, Z.k_ixr, Z.k_ref, Z.k_ref_i, Z.k_ref_s, Z.k_ref_b, Z.k_ref_n, Z.k_ref_t, Z.i_lst, Z.i_tup, Z.i_scr, Z.i_str, Z.i_dcs, Z.i_dci, Z.l_hit, Z.at_0, Z.at_1, Z.at_2, Z.at_3, Z.k_sl, Z.k_sl2, Z.k_sl3, Z.k_tup, Z.k_tup2, Z.k_lst, Z.k_lst2, Z.k_dct, Z.k_dct2, Z.v_nil, Z.v_cons, Z.k_pv, Z.k_c1, Z.k_c2, Z.k_c2k, Z.k_cb, Z.k_tk, Z.k_ret, Z.k_retX, Z.k_put, Z.k_putX, Z.tk_nil, Z.tk_v, Z.tk_r, Z.k_tv, Z.k_tr, Z.p_nil, Z.p_v0, Z.p_v1, Z.p_r, Z.r_nil, Z.r_in, Z.r_no, Z.k_bi, Z.pk_nil0, Z.pk_v, Z.pk_r, Z.some_bind, Z.b_lens, Z.b_lenl, Z.b_lent, Z.b_lenc, Z.b_inti, Z.b_str, Z.b_abs, Z.b_max, Z.b_min, Z.b_gcd, Z.b_all, Z.b_any, Z.k_isi, Z.k_isr, Z.k_mt, Z.k_mt2, Z.m_sw, Z.k_lc2, Z.k_a, Z.k_a2, Z.k_ar, Z.k_aref, Z.k_o, Z.k_f, Z.k_f2, Z.fm_s, Z.fm_i, Z.k_rng, Z.k_ov, Z.o_some, Z.x_nil, Z.x_cons, Z.k_sq, Z.k_sqr, Z.k_sqb, Z.k_sqc, Z.x_ex, Z.k_ex0, Z.x_set, Z.k_set, Z.x_mset, Z.k_ms, Z.k_ms2, Z.sm_nil, Z.sm_cons, Z.x_par, Z.k_par, Z.k_par2, Z.x_aug, Z.k_aug, Z.k_aug2a, Z.k_aug2s, Z.x_si, Z.k_si, Z.k_si1, Z.k_si2, Z.k_si3_0, Z.k_si3_1, Z.k_si3_2, Z.x_ret, Z.k_ret1, Z.x_retR, Z.k_retR, Z.x_retN, Z.x_if, Z.k_if1, Z.k_if0, Z.k_w0, Z.k_w1, Z.k_w2n, Z.k_w2c, Z.k_w2b, Z.k_w2r, Z.x_for, Z.fo_nil, Z.k_fon, Z.k_foc, Z.k_fob, Z.k_for2, Z.g_for, Z.g_lc, Z.x_brk, Z.x_cnt, Z.x_pas, Z.lk_0, Z.lk_S, Z.set_0, Z.set_S, Z.fz_i, Z.fz_s, Z.fz_b, Z.fz_n, Z.fz_t, Z.fz_l, Z.fz_c, Z.fl_nil, Z.fl_cons, Z.e_ret, Z.e_nx, ↓reduceIte, List.length_cons, List.length_nil, Nat.reduceAdd, Nat.reduceLeDiff, Nat.zero_le, List.mem_cons, List.not_mem_nil, or_false, or_true, false_or, true_or, Nat.reduceEqDiff, not_false_eq_true, reduceCtorEq, Option.map_some, List.cons.injEq, and_true, true_and, and_false, false_and, decide_true, decide_false, Bool.not_true, Bool.not_false, ne_eq, Nat.reduceMul, Nat.reduceSub, List.map_cons, List.map_nil, List.replicate, List.cons_append, List.nil_append, List.append_nil, List.length_append, Nat.zero_add, List.append_assoc, d1, l1]
      rw [Z.e_ret1 rfl]
      rfl
    · refine ⟨.non, w1, ?_, trivial, a3.mono (by omega)⟩
      simp -implicitDefEqProofs only [b16, Out.bind_ok, Out.bind_exc, Z.s_con, Z.s_var, Z.k_var, Z.s_tup, Z.s_lst, Z.s_dct, Z.s_bin, Z.s_neg, Z.s_cmp, Z.s_isN, Z.s_nt, Z.s_an, Z.s_or, Z.s_ite, Z.s_ixV, Z.s_ixR, Z.s_sl, Z.s_call, Z.s_bi, Z.s_isiV, Z.s_isiR, Z.s_mt, Z.s_fs, Z.s_lc, Z.t_con, Z.t_var, Z.t_bin, Z.t_cmp, Z.t_isN, Z.t_nt, Z.t_an, Z.t_or, Z.t_ixV, Z.t_ixR, Z.t_call, Z.t_bi, Z.t_isiV, Z.t_isiR, Z.t_mt, Z.a_nil, Z.a_val, Z.a_ref, Z.o_non, Z.o_som, Z.f_nil, Z.f_cons, Z.i_rng, Z.i_ov, Z.k_tru_b, Z.k_tru_i, Z.k_bin, Z.k_add, Z.k_sub, Z.k_mul, Z.k_fdiv, Z.k_mod, Z.k_pow, Z.k_app, Z.k_lapp, Z.k_cmp, Z.c_lt, Z.c_le, Z.c_gt, Z.c_ge, Z.c_eqi, Z.c_nei, Z.c_eqs, Z.c_nes, Z.c_ins, Z.c_int, Z.k_neg, Z.k_isN, Z.nn_0t, Z.nn_1t, Z.nn_0i, Z.nn_1i, Z.nn_0s, Z.nn_1s, Z.nn_0b, Z.nn_1b, Z.nn_0l, Z.nn_1l, Z.nn_0n, Z.nn_1n, Z.k_nt, Z.k_ntT, Z.k_an1, Z.k_an0, Z.k_anT1, Z.k_anT0, Z.k_or1, Z.k_or0, Z.k_orT1, Z.k_orT0, Z.k_ite1, Z.k_ite0, Z.k_ix, Z.k_ix2, Z.k_ixR, Z.k_ixr, Z.k_ref, Z.k_ref_i, Z.k_ref_s, Z.k_ref_b, Z.k_ref_n, Z.k_ref_t, Z.i_lst, Z.i_tup, Z.i_scr, Z.i_str, Z.i_dcs, Z.i_dci, Z.l_hit, Z.at_0, Z.at_1, Z.at_2, Z.at_3, Z.k_sl, Z.k_sl2, Z.k_sl3, Z.k_tup, Z.k_tup2, Z.k_lst, Z.k_lst2, Z.k_dct, Z.k_dct2, Z.v_nil, Z.v_cons, Z.k_pv, Z.k_c1, Z.k_c2, Z.k_c2k, Z.k_cb, Z.k_tk, Z.k_ret, Z.k_retX, Z.k_put, Z.k_putX, Z.tk_nil, Z.tk_v, Z.tk_r, Z.k_tv, Z.k_tr, Z.p_nil, Z.p_v0, Z.p_v1, Z.p_r, Z.r_nil, Z.r_in, Z.r_no, Z.k_bi, Z.pk_nil0, Z.pk_v, Z.pk_r, Z.some_bind, Z.b_lens, Z.b_lenl, Z.b_lent, Z.b_lenc, Z.b_inti, Z.b_str, Z.b_abs, Z.b_max, Z.b_min, Z.b_gcd, Z.b_all, Z.b_any, Z.k_isi, Z.k_isr, Z.k_mt, Z.k_mt2, Z.m_sw, Z.k_lc2, Z.k_a, Z.k_a2, Z.k_ar, Z.k_aref, Z.k_o, Z.k_f, Z.k_f2, Z.fm_s, Z.fm_i, Z.k_rng, Z.k_ov, Z.o_some, Z.x_nil, Z.x_cons, Z.k_sq, Z.k_sqr, Z.k_sqb, Z.k_sqc, Z.x_ex, Z.k_ex0, Z.x_set, Z.k_set, Z.x_mset, Z.k_ms, Z.k_ms2, Z.sm_nil, Z.sm_cons, Z.x_par, Z.k_par, Z.k_par2, Z.x_aug, Z.k_aug, Z.k_aug2a, Z.k_aug2s, Z.x_si, Z.k_si, Z.k_si1, Z.k_si2, Z.k_si3_0, Z.k_si3_1, Z.k_si3_2, Z.x_ret, Z.k_ret1, Z.x_retR, Z.k_retR, Z.x_retN, Z.x_if, Z.k_if1, Z.k_if0, Z.k_w0, Z.k_w1, Z.k_w2n, Z.k_w2c, Z.k_w2b, Z.k_w2r, Z.x_for, Z.fo_nil, Z.k_fon, Z.k_foc, Z.k_fob, Z.k_for2, Z.g_for, Z.g_lc, Z.x_brk, Z.x_cnt, Z.x_pas, Z.lk_0, Z.lk_S, Z.set_0, Z.set_S, Z.fz_i, Z.fz_s, Z.fz_b, Z.fz_n, Z.fz_t, Z.fz_l, Z.fz_c, Z.fl_nil, Z.fl_cons, Z.e_ret, Z.e_nx, ↓reduceIte, List.length_cons, List.length_nil, Nat.reduceAdd, Nat.reduceLeDiff, Nat.zero_le, List.mem_cons, List.not_mem_nil, or_false, or_true, false_or, true_or, Nat.reduceEqDiff, not_false_eq_true, reduceCtorEq, Option.map_some, List.cons.injEq, and_true, true_and, and_false, false_and, decide_true, decide_false, Bool.not_true, Bool.not_false, ne_eq, Nat.reduceMul, Nat.reduceSub, List.map_cons, List.map_nil, List.replicate, List.cons_append, List.nil_append, List.append_nil, List.length_append, Nat.zero_add, List.append_assoc, d1, l2]
      rw [Z.e_ret1 rfl]
      rfl
  · obtain ⟨c, hc, c1, c2⟩ := letter b1 b2
    refine ⟨.sig c, w2, ?_, ⟨c1, c2⟩, b3.mono (by omega)⟩
    simp -implicitDefEqProofs only [b16, Out.bind_ok, Out.bind_exc, Z.s_con, Z.s_var, Z.k_var, Z.s_tup, Z.s_lst, Z.s_dct, Z.s_bin, Z.s_neg, Z.s_cmp, Z.s_isN, Z.s_nt, Z.s_an, Z.s_or, Z.s_ite, Z.s_ixV, Z.s_ixR, Z.s_sl, Z.s_call, Z.s_bi, Z.s_isiV, Z.s_isiR, Z.s_mt, Z.s_fs, Z.s_lc, Z.t_con, Z.t_var, Z.t_bin, Z.t_cmp, Z.t_isN, Z.t_nt, Z.t_an, Z.t_or, Z.t_ixV, Z.t_ixR, Z.t_call, Z.t_bi, Z.t_isiV, Z.t_isiR, Z.t_mt, Z.a_nil, Z.a_val, Z.a_ref, Z.o_non, Z.o_som, Z.f_nil, Z.f_cons, Z.i_rng, Z.i_ov, Z.k_tru_b, Z.k_tru_i, Z.k_bin, Z.k_add, Z.k_sub, Z.k_mul, Z.k_fdiv, Z.k_mod, Z.k_pow, Z.k_app, Z.k_lapp, Z.k_cmp, Z.c_lt, Z.c_le, Z.c_gt, Z.c_ge, Z.c_eqi, Z.c_nei, Z.c_eqs, Z.c_nes, Z.c_ins, Z.c_int, Z.k_neg, Z.k_isN, Z.nn_0t, Z.nn_1t, Z.nn_0i, Z.nn_1i, Z.nn_0s, Z.nn_1s, Z.nn_0b, Z.nn_1b, Z.nn_0l, Z.nn_1l, Z.nn_0n, Z.nn_1n, Z.k_nt, Z.k_ntT, Z.k_an1, Z.k_an0, Z.k_anT1, Z.k_anT0, Z.k_or1, Z.k_or0, Z.k_orT1, Z.k_orT0, Z.k_ite1, Z.k_ite0, Z.k_ix, Z.k_ix2, Z.k_ixR, Z.k_ixr, Z.k_ref, Z.k_ref_i, Z.k_ref_s, Z.k_ref_b, Z.k_ref_n, Z.k_ref_t, Z.i_lst, Z.i_tup, Z.i_scr, Z.i_str, Z.i_dcs, Z.i_dci, Z.l_hit, Z.at_0, Z.at_1, Z.at_2, Z.at_3, Z.k_sl, Z.k_sl2, Z.k_sl3, Z.k_tup, Z.k_tup2, Z.k_lst, Z.k_lst2, Z.k_dct, Z.k_dct2, Z.v_nil, Z.v_cons, Z.k_pv, Z.k_c1, Z.k_c2, Z.k_c2k, Z.k_cb, Z.k_tk, Z.k_ret, Z.k_retX, Z.k_put, Z.k_putX, Z.tk_nil, Z.tk_v, Z.tk_r, Z.k_tv, Z.k_tr, Z.p_nil, Z.p_v0, Z.p_v1, Z.p_r, Z.r_nil, Z.r_in, Z.r_no, Z.k_bi, Z.pk_nil0, Z.pk_v, Z.pk_r, Z.some_bind, Z.b_lens, Z.b_lenl, Z.b_lent, Z.b_lenc, Z.b_inti, Z.b_str, Z.b_abs, Z.b_max, Z.b_min, Z.b_gcd, Z.b_all, Z.b_any, Z.k_isi, Z.k_isr, Z.k_mt, Z.k_mt2, Z.m_sw, Z.k_lc2, Z.k_a, Z.k_a2, Z.k_ar, Z.k_aref, Z.k_o, Z.k_f, Z.k_f2, Z.fm_s, Z.fm_i, Z.k_rng, Z.k_ov, Z.o_some, Z.x_nil, Z.x_cons, Z.k_sq, Z.k_sqr, Z.k_sqb, Z.k_sqc, Z.x_ex, Z.k_ex0, Z.x_set, Z.k_set, Z.x_mset, Z.k_ms, Z.k_ms2, Z.sm_nil, Z.sm_cons, Z.x_par, Z.k_par, Z.k_par2, Z.x_aug, Z.k_aug, Z.k_aug2a, Z.k_aug2s, Z.x_si, Z.k_si, Z.k_si1, Z.k_si2, Z.k_si3_0, Z.k_si3_1, Z.k_si3_2, Z.x_ret, Z.k_ret1, Z.x_retR, Z.k_retR, Z.x_retN, Z.x_if, Z.k_if1, Z.k_if0, Z.k_w0, Z.k_w1, Z.k_w2n, Z.k_w2c, Z.k_w2b, Z.k_w2r, Z.x_for, Z.fo_nil, Z.k_fon, Z.k_foc, Z.k_fob, Z.k_for2, Z.g_for, Z.g_lc, Z.x_brk, Z.x_cnt, Z.x_pas, Z.lk_0, Z.lk_S, Z.set_0, Z.set_S, Z.fz_i, Z.fz_s, Z.fz_b, Z.fz_n, Z.fz_t, Z.fz_l, Z.fz_c, Z.fl_nil, Z.fl_cons, Z.e_ret, Z.e_nx, ↓reduceIte, List.length_cons, List.length_nil, Nat.reduceAdd, Nat.reduceLeDiff, Nat.zero_le, List.mem_cons, List.not_mem_nil, or_false, or_true, false_or, true_or, Nat.reduceEqDiff, not_false_eq_true, reduceCtorEq, Option.map_some, List.cons.injEq, and_true, true_and, and_false, false_and, decide_true, decide_false, Bool.not_true, Bool.not_false, ne_eq, Nat.reduceMul, Nat.reduceSub, List.map_cons, List.map_nil, List.replicate, List.cons_append, List.nil_append, List.append_nil, List.length_append, Nat.zero_add, List.append_assoc, d1, h3, d2, hc]
    rw [Z.e_ret1 rfl]
    rfl
end K85

namespace K85
open PySem Ev
/-! the law's trees -/
def nD (e : Nat) : Nat := 8 * 2 ^ e - 1
def nS (e : Nat) : Nat := 2 ^ (e + 1) - 1
theorem nD_S (e : Nat) : nD (e + 1) = 2 * nD e + 1 ∧ 7 ≤ nD e := by
  unfold nD
  have : 1 ≤ 2 ^ e := Nat.one_le_two_pow
  rw [Nat.pow_succ]
  omega
theorem nS_S (e : Nat) : nS (e + 1) = 2 * nS e + 1 ∧ 1 ≤ nS e := by
  unfold nS
  have : 1 ≤ 2 ^ (e + 1) := Nat.one_le_two_pow
  have : 2 ^ (e + 1) = 2 * 2 ^ e := by rw [Nat.pow_succ, Nat.mul_comm]
  have : 1 ≤ 2 ^ e := Nat.one_le_two_pow
  have h : 2 ^ (e + 1 + 1) = 2 * 2 ^ (e + 1) := by rw [Nat.pow_succ, Nat.mul_comm]
  rw [h]
  omega
theorem tree_ok : ∀ (e k n : Nat) (w : D) (r dd : Int), Wl n w → n + nD e < 2 ^ 37 → dd = (e : Int) + 1 →
    ∃ (p : Pt) (w' : D) (r' : Int), call Φ (k + e + 3) 17 [w, .lst true [.int r], .int dd] = .ok p.D [w', .lst true [.int r']] ∧ p.ok ∧ p.dp ≤ e ∧ p.sz ≤ nS e ∧ Wl (n + nD e) w'
  | 0, k, n, w, r, dd, h, hn, he => by
    have hN : 7 ≤ nD 0 := by decide
    have hS : nS 0 = 1 := by decide
    obtain ⟨m, w1, d1, a1, a2, a3⟩ := dip_ok (k + 1) h (by omega) (m := 9) (by decide) (by decide)
    obtain ⟨p, w2, d2, b1, b2⟩ := leaf_ok k a3 (by omega)
    obtain ⟨b3, b4, b5⟩ := Pt.leaf_ok b1
    have hd : ¬ (1 : Int) < dd := by omega
    refine ⟨p, w2, r - 1, ?_, b3, by omega, by omega, b2.mono (by omega)⟩
    rw [Z.run_S (fn := ⟨3, [0, 1], 5, b17⟩) rfl rfl]
    simp -implicitDefEqProofs only [b17, Out.bind_ok, Out.bind_exc, Z.s_con, Z.s_var, Z.k_var, Z.s_tup, Z.s_lst, Z.s_dct, Z.s_bin, Z.s_neg, Z.s_cmp, Z.s_isN, Z.s_nt, Z.s_an, Z.s_or, Z.s_ite, Z.s_ixV, Z.s_ixR, Z.s_sl, Z.s_call, Z.s_bi, Z.s_isiV, Z.s_isiR, Z.s_mt, Z.s_fs, Z.s_lc, Z.t_con, Z.t_var, Z.t_bin, Z.t_cmp, Z.t_isN, Z.t_nt, Z.t_an, Z.t_or, Z.t_ixV, Z.t_ixR, Z.t_call, Z.t_bi, Z.t_isiV, Z.t_isiR, Z.t_mt, Z.a_nil, Z.a_val, Z.a_ref, Z.o_non, Z.o_som, Z.f_nil, Z.f_cons, Z.i_rng, Z.i_ov, Z.k_tru_b, Z.k_tru_i, Z.k_bin, Z.k_add, Z.k_sub, Z.k_mul, Z.k_fdiv, Z.k_mod, Z.k_pow, Z.k_app, Z.k_lapp, Z.k_cmp, Z.c_lt, Z.c_le, Z.c_gt, Z.c_ge, Z.c_eqi, Z.c_nei, Z.c_eqs, Z.c_nes, Z.c_ins, Z.c_int, Z.k_neg, Z.k_isN, Z.nn_0t, Z.nn_1t, Z.nn_0i, Z.nn_1i, Z.nn_0s, Z.nn_1s, Z.nn_0b, Z.nn_1b, Z.nn_0l, Z.nn_1l, Z.nn_0n, Z.nn_1n, Z.k_nt, Z.k_ntT, Z.k_an1, Z.k_an0, Z.k_anT1, Z.k_anT0, Z.k_or1, Z.k_or0, Z.k_orT1, Z.k_orT0, Z.k_ite1, Z.k_ite0, Z.k_ix, Z.k_ix2, Z.k_ixR, Z.k_ixr, Z.k_ref, Z.k_ref_i, Z.k_ref_s, Z.k_ref_b, Z.k_ref_n, Z.k_ref_t, Z.i_lst, Z.i_tup, Z.i_scr, Z.i_str, Z.i_dcs, Z.i_dci, Z.l_hit, Z.at_0, Z.at_1, Z.at_2, Z.at_3, Z.k_sl, Z.k_sl2, Z.k_sl3, Z.k_tup, Z.k_tup2, Z.k_lst, Z.k_lst2, Z.k_dct, Z.k_dct2, Z.v_nil, Z.v_cons, Z.k_pv, Z.k_c1, Z.k_c2, Z.k_c2k, Z.k_cb, Z.k_tk, Z.k_ret, Z.k_retX, Z.k_put, Z.k_putX, Z.tk_nil, Z.tk_v, Z.tk_r, Z.k_tv, Z.k_tr, Z.p_nil, Z.p_v0, Z.p_v1, Z.p_r, Z.r_nil, Z.r_in, Z.r_no, Z.k_bi, Z.pk_nil0, Z.pk_v, Z.pk_r, Z.some_bind, Z.b_lens, Z.b_lenl, Z.b_lent, Z.b_lenc, Z.b_inti, Z.b_str, Z.b_abs, Z.b_max, Z.b_min, Z.b_gcd, Z.b_all, Z.b_any, Z.k_isi, Z.k_isr, Z.k_mt, Z.k_mt2, Z.m_sw, Z.k_lc2, Z.k_a, Z.k_a2, Z.k_ar, Z.k_aref, Z.k_o, Z.k_f, Z.k_f2, Z.fm_s, Z.fm_i, Z.k_rng, Z.k_ov, Z.o_some, Z.x_nil, Z.x_cons, Z.k_sq, Z.k_sqr, Z.k_sqb, Z.k_sqc, Z.x_ex, Z.k_ex0, Z.x_set, Z.k_set, Z.x_mset, Z.k_ms, Z.k_ms2, Z.sm_nil, Z.sm_cons, Z.x_par, Z.k_par, Z.k_par2, Z.x_aug, Z.k_aug, Z.k_aug2a, Z.k_aug2s, Z.x_si, Z.k_si, Z.k_si1, Z.k_si2, Z.k_si3_0, Z.k_si3_1, Z.k_si3_2, Z.x_ret, Z.k_ret1, Z.x_retR, Z.k_retR, Z.x_retN, Z.x_if, Z.k_if1, Z.k_if0, Z.k_w0, Z.k_w1, Z.k_w2n, Z.k_w2c, Z.k_w2b, Z.k_w2r, Z.x_for, Z.fo_nil, Z.k_fon, Z.k_foc, Z.k_fob, Z.k_for2, Z.g_for, Z.g_lc, Z.x_brk, Z.x_cnt, Z.x_pas, Z.lk_0, Z.lk_S, Z.set_0, Z.set_S, Z.fz_i, Z.fz_s, Z.fz_b, Z.fz_n, Z.fz_t, Z.fz_l, Z.fz_c, Z.fl_nil, Z.fl_cons, Z.e_ret, Z.e_nx, ↓reduceIte, List.length_cons, List.length_nil, Nat.reduceAdd, Nat.reduceLeDiff, Nat.zero_le, List.mem_cons, List.not_mem_nil, or_false, or_true, false_or, true_or, Nat.reduceEqDiff, not_false_eq_true, reduceCtorEq, Option.map_some, List.cons.injEq, and_true, true_and, and_false, false_and, decide_true, decide_false, Bool.not_true, Bool.not_false, ne_eq, Nat.reduceMul, Nat.reduceSub, List.map_cons, List.map_nil, List.replicate, List.cons_append, List.nil_append, List.append_nil, List.length_append, Nat.zero_add, List.append_assoc, d1, hd, d2]
    rw [Z.e_ret2 rfl rfl]
  | e + 1, k, n, w, r, dd, h, hn, he => by
    obtain ⟨hN, hN2⟩ := nD_S e
    obtain ⟨hS, hS2⟩ := nS_S e
    have hd : (1 : Int) < dd := by omega
    rw [show k + (e + 1) + 3 = (k + e + 3) + 1 by omega, Z.run_S (fn := ⟨3, [0, 1], 5, b17⟩) rfl rfl]
    obtain ⟨m, w1, d1, a1, a2, a3⟩ := dip_ok (k + e + 2) h (by omega) (m := 9) (by decide) (by decide)
    have d1 : call Φ (k + e + 3) 12 [w, .int 9] = .ok (.int m) [w1] := d1
    by_cases c1 : 2 ≤ r - 1 ∧ m < 5
    · obtain ⟨p1, w2, r2, d2, b1, b2, b3, b4⟩ := tree_ok e k (n + 1) w1 (r - 1 - 1) (dd - 1) a3 (by omega) (by omega)
      obtain ⟨p2, w3, r3, d3, e1, e2, e3, e4⟩ := tree_ok e k (n + 1 + nD e) w2 (r2 + 1) (dd - 1) b4 (by omega) (by omega)
      have hm0 : 0 ≤ m % 2 := Int.emod_nonneg _ (by decide)
      have hm1 : m % 2 < 2 := Int.emod_lt_of_pos _ (by decide)
      have hs := seqor hm0 hm1
      have z2 : (0 : Int) < 2 := by decide
      have hf := p1.fz
      by_cases hm : m % 2 = 0
      · rw [if_pos hm] at hs
        refine ⟨.seq p1 p2, w3, r3, ?_, ⟨b1, e1⟩, ?_, ?_, e4.mono (by omega)⟩
        · simp -implicitDefEqProofs only [b17, Out.bind_ok, Out.bind_exc, Z.s_con, Z.s_var, Z.k_var, Z.s_tup, Z.s_lst, Z.s_dct, Z.s_bin, Z.s_neg, Z.s_cmp, Z.s_isN, Z.s_nt, Z.s_an, Z.s_or, Z.s_ite, Z.s_ixV, Z.s_ixR, Z.s_sl, Z.s_call, Z.s_bi, Z.s_isiV, Z.s_isiR, Z.s_mt, Z.s_fs, Z.s_lc, Z.t_con, Z.t_var, Z.t_bin, Z.t_cmp, Z.t_isN, Z.t_nt, Z.t_an, Z.t_or, Z.t_ixV, Z.t_ixR, Z.t_call, Z.t_bi, Z.t_isiV, Z.t_isiR, Z.t_mt, Z.a_nil, Z.a_val, Z.a_ref, Z.o_non, Z.o_som, Z.f_nil, Z.f_cons, Z.i_rng, Z.i_ov, Z.k_tru_b, Z.k_tru_i, Z.k_bin, Z.k_add, Z.k_sub, Z.k_mul, Z.k_fdiv, Z.k_mod, Z.k_pow, Z.k_app, Z.k_lapp, Z.k_cmp, Z.c_lt, Z.c_le, Z.c_gt, Z.c_ge, Z.c_eqi, Z.c_nei, Z.c_eqs, Z.c_nes, Z.c_ins, Z.c_int, Z.k_neg, Z.k_isN, Z.nn_0t, Z.nn_1t, Z.nn_0i, Z.nn_1i, Z.nn_0s, Z.nn_1s, Z.nn_0b, Z.nn_1b, Z.nn_0l, Z.nn_1l, Z.nn_0n, Z.nn_1n, Z.k_nt, Z.k_ntT, Z.k_an1, Z.k_an0, Z.k_anT1, Z.k_anT0, Z.k_or1, Z.k_or0, Z.k_orT1, Z.k_orT0, Z.k_ite1, Z.k_ite0, Z.k_ix, Z.k_ix2, Z.k_ixR, Z.k_ixr, Z.k_ref, Z.k_ref_i, Z.k_ref_s, Z.k_ref_b, Z.k_ref_n, Z.k_ref_t, Z.i_lst, Z.i_tup, Z.i_scr, Z.i_str, Z.i_dcs, Z.i_dci, Z.l_hit, Z.at_0, Z.at_1, Z.at_2, Z.at_3, Z.k_sl, Z.k_sl2, Z.k_sl3, Z.k_tup, Z.k_tup2, Z.k_lst, Z.k_lst2, Z.k_dct, Z.k_dct2, Z.v_nil, Z.v_cons, Z.k_pv, Z.k_c1, Z.k_c2, Z.k_c2k, Z.k_cb, Z.k_tk, Z.k_ret, Z.k_retX, Z.k_put, Z.k_putX, Z.tk_nil, Z.tk_v, Z.tk_r, Z.k_tv, Z.k_tr, Z.p_nil, Z.p_v0, Z.p_v1, Z.p_r, Z.r_nil, Z.r_in, Z.r_no, Z.k_bi, Z.pk_nil0, Z.pk_v, Z.pk_r, Z.some_bind, Z.b_lens, Z.b_lenl, Z.b_lent, Z.b_lenc, Z.b_inti, Z.b_str, Z.b_abs, Z.b_max, Z.b_min, Z.b_gcd, Z.b_all, Z.b_any, Z.k_isi, Z.k_isr, Z.k_mt, Z.k_mt2, Z.m_sw, Z.k_lc2, Z.k_a, Z.k_a2, Z.k_ar, Z.k_aref, Z.k_o, Z.k_f, Z.k_f2, Z.fm_s, Z.fm_i, Z.k_rng, Z.k_ov, Z.o_some, Z.x_nil, Z.x_cons, Z.k_sq, Z.k_sqr, Z.k_sqb, Z.k_sqc, Z.x_ex, Z.k_ex0, Z.x_set, Z.k_set, Z.x_mset, Z.k_ms, Z.k_ms2, Z.sm_nil, Z.sm_cons, Z.x_par, Z.k_par, Z.k_par2, Z.x_aug, Z.k_aug, Z.k_aug2a, Z.k_aug2s, Z.x_si, Z.k_si, Z.k_si1, Z.k_si2, Z.k_si3_0, Z.k_si3_1, Z.k_si3_2, Z.x_ret, Z.k_ret1, Z.x_retR, Z.k_retR, Z.x_retN, Z.x_if, Z.k_if1, Z.k_if0, Z.k_w0, Z.k_w1, Z.k_w2n, Z.k_w2c, Z.k_w2b, Z.k_w2r, Z.x_for, Z.fo_nil, Z.k_fon, Z.k_foc, Z.k_fob, Z.k_for2, Z.g_for, Z.g_lc, Z.x_brk, Z.x_cnt, Z.x_pas, Z.lk_0, Z.lk_S, Z.set_0, Z.set_S, Z.fz_i, Z.fz_s, Z.fz_b, Z.fz_n, Z.fz_t, Z.fz_l, Z.fz_c, Z.fl_nil, Z.fl_cons, Z.e_ret, Z.e_nx, ↓reduceIte, List.length_cons, List.length_nil, Nat.reduceAdd, Nat.reduceLeDiff, Nat.zero_le, List.mem_cons, List.not_mem_nil, or_false, or_true, false_or, true_or, Nat.reduceEqDiff, not_false_eq_true, reduceCtorEq, Option.map_some, List.cons.injEq, and_true, true_and, and_false, false_and, decide_true, decide_false, Bool.not_true, Bool.not_false, ne_eq, Nat.reduceMul, Nat.reduceSub, List.map_cons, List.map_nil, List.replicate, List.cons_append, List.nil_append, List.append_nil, List.length_append, Nat.zero_add, List.append_assoc, d1, hd, c1.1, c1.2, d2, d3, hf, hs, z2]
          rw [Z.e_ret2 rfl rfl]
          rfl
        · show max p1.dp p2.dp + 1 ≤ _; omega
        · show p1.sz + p2.sz + 1 ≤ _; omega
      · rw [if_neg hm] at hs
        refine ⟨.alt p1 p2, w3, r3, ?_, ⟨b1, e1⟩, ?_, ?_, e4.mono (by omega)⟩
        · simp -implicitDefEqProofs only [b17, Out.bind_ok, Out.bind_exc, Z.s_con, Z.s_var, Z.k_var, Z.s_tup, Z.s_lst, Z.s_dct, Z.s_bin, Z.s_neg, Z.s_cmp, Z.s_isN, Z.s_nt, Z.s_an, Z.s_or, Z.s_ite, Z.s_ixV, Z.s_ixR, Z.s_sl, Z.s_call, Z.s_bi, Z.s_isiV, Z.s_isiR, Z.s_mt, Z.s_fs, Z.s_lc, Z.t_con, Z.t_var, Z.t_bin, Z.t_cmp, Z.t_isN, Z.t_nt, Z.t_an, Z.t_or, Z.t_ixV, Z.t_ixR, Z.t_call, Z.t_bi, Z.t_isiV, Z.t_isiR, Z.t_mt, Z.a_nil, Z.a_val, Z.a_ref, Z.o_non, Z.o_som, Z.f_nil, Z.f_cons, Z.i_rng, Z.i_ov, Z.k_tru_b, Z.k_tru_i, Z.k_bin, Z.k_add, Z.k_sub, Z.k_mul, Z.k_fdiv, Z.k_mod, Z.k_pow, Z.k_app, Z.k_lapp, Z.k_cmp, Z.c_lt, Z.c_le, Z.c_gt, Z.c_ge, Z.c_eqi, Z.c_nei, Z.c_eqs, Z.c_nes, Z.c_ins, Z.c_int, Z.k_neg, Z.k_isN, Z.nn_0t, Z.nn_1t, Z.nn_0i, Z.nn_1i, Z.nn_0s, Z.nn_1s, Z.nn_0b, Z.nn_1b, Z.nn_0l, Z.nn_1l, Z.nn_0n, Z.nn_1n, Z.k_nt, Z.k_ntT, Z.k_an1, Z.k_an0, Z.k_anT1, Z.k_anT0, Z.k_or1, Z.k_or0, Z.k_orT1, Z.k_orT0, Z.k_ite1, Z.k_ite0, Z.k_ix, Z.k_ix2, Z.k_ixR, Z.k_ixr, Z.k_ref, Z.k_ref_i, Z.k_ref_s, Z.k_ref_b, Z.k_ref_n, Z.k_ref_t, Z.i_lst, Z.i_tup, Z.i_scr, Z.i_str, Z.i_dcs, Z.i_dci, Z.l_hit, Z.at_0, Z.at_1, Z.at_2, Z.at_3, Z.k_sl, Z.k_sl2, Z.k_sl3, Z.k_tup, Z.k_tup2, Z.k_lst, Z.k_lst2, Z.k_dct, Z.k_dct2, Z.v_nil, Z.v_cons, Z.k_pv, Z.k_c1, Z.k_c2, Z.k_c2k, Z.k_cb, Z.k_tk, Z.k_ret, Z.k_retX, Z.k_put, Z.k_putX, Z.tk_nil, Z.tk_v, Z.tk_r, Z.k_tv, Z.k_tr, Z.p_nil, Z.p_v0, Z.p_v1, Z.p_r, Z.r_nil, Z.r_in, Z.r_no, Z.k_bi, Z.pk_nil0, Z.pk_v, Z.pk_r, Z.some_bind, Z.b_lens, Z.b_lenl, Z.b_lent, Z.b_lenc, Z.b_inti, Z.b_str, Z.b_abs, Z.b_max, Z.b_min, Z.b_gcd, Z.b_all, Z.b_any, Z.k_isi, Z.k_isr, Z.k_mt, Z.k_mt2, Z.m_sw, Z.k_lc2, Z.k_a, Z.k_a2, Z.k_ar, Z.k_aref, Z.k_o, Z.k_f, Z.k_f2, Z.fm_s, Z.fm_i, Z.k_rng, Z.k_ov, Z.o_some, Z.x_nil, Z.x_cons, Z.k_sq, Z.k_sqr, Z.k_sqb, Z.k_sqc, Z.x_ex, Z.k_ex0, Z.x_set, Z.k_set, Z.x_mset, Z.k_ms, Z.k_ms2, Z.sm_nil, Z.sm_cons, Z.x_par, Z.k_par, Z.k_par2, Z.x_aug, Z.k_aug, Z.k_aug2a, Z.k_aug2s, Z.x_si, Z.k_si, Z.k_si1, Z.k_si2, Z.k_si3_0, Z.k_si3_1, Z.k_si3_2, Z.x_ret, Z.k_ret1, Z.x_retR, Z.k_retR, Z.x_retN, Z.x_if, Z.k_if1, Z.k_if0, Z.k_w0, Z.k_w1, Z.k_w2n, Z.k_w2c, Z.k_w2b, Z.k_w2r, Z.x_for, Z.fo_nil, Z.k_fon, Z.k_foc, Z.k_fob, Z.k_for2, Z.g_for, Z.g_lc, Z.x_brk, Z.x_cnt, Z.x_pas, Z.lk_0, Z.lk_S, Z.set_0, Z.set_S, Z.fz_i, Z.fz_s, Z.fz_b, Z.fz_n, Z.fz_t, Z.fz_l, Z.fz_c, Z.fl_nil, Z.fl_cons, Z.e_ret, Z.e_nx, ↓reduceIte, List.length_cons, List.length_nil, Nat.reduceAdd, Nat.reduceLeDiff, Nat.zero_le, List.mem_cons, List.not_mem_nil, or_false, or_true, false_or, true_or, Nat.reduceEqDiff, not_false_eq_true, reduceCtorEq, Option.map_some, List.cons.injEq, and_true, true_and, and_false, false_and, decide_true, decide_false, Bool.not_true, Bool.not_false, ne_eq, Nat.reduceMul, Nat.reduceSub, List.map_cons, List.map_nil, List.replicate, List.cons_append, List.nil_append, List.append_nil, List.length_append, Nat.zero_add, List.append_assoc, d1, hd, c1.1, c1.2, d2, d3, hf, hs, z2]
          rw [Z.e_ret2 rfl rfl]
          rfl
        · show max p1.dp p2.dp + 1 ≤ _; omega
        · show p1.sz + p2.sz + 1 ≤ _; omega
    · have t1 : evT (call Φ (k + e + 3)) (.an (.cmp .gt (.var 2) (.con (.int 1))) (.an (.cmp .ge (.ix .ref (.var 1) (.con (.int 0))) (.con (.int 2))) (.cmp .lt (.var 3) (.con (.int 5))))) [some w1, some (.lst true [.int (r - 1)]), some (.int dd), some (.int m), none] = .ok false [some w1, some (.lst true [.int (r - 1)]), some (.int dd), some (.int m), none] := by
        by_cases q : 2 ≤ r - 1
        · have q2 : ¬ m < 5 := fun z => c1 ⟨q, z⟩
          simp -implicitDefEqProofs only [Out.bind_ok, Out.bind_exc, Z.s_con, Z.s_var, Z.k_var, Z.s_tup, Z.s_lst, Z.s_dct, Z.s_bin, Z.s_neg, Z.s_cmp, Z.s_isN, Z.s_nt, Z.s_an, Z.s_or, Z.s_ite, Z.s_ixV, Z.s_ixR, Z.s_sl, Z.s_call, Z.s_bi, Z.s_isiV, Z.s_isiR, Z.s_mt, Z.s_fs, Z.s_lc, Z.t_con, Z.t_var, Z.t_bin, Z.t_cmp, Z.t_isN, Z.t_nt, Z.t_an, Z.t_or, Z.t_ixV, Z.t_ixR, Z.t_call, Z.t_bi, Z.t_isiV, Z.t_isiR, Z.t_mt, Z.a_nil, Z.a_val, Z.a_ref, Z.o_non, Z.o_som, Z.f_nil, Z.f_cons, Z.i_rng, Z.i_ov, Z.k_tru_b, Z.k_tru_i, Z.k_bin, Z.k_add, Z.k_sub, Z.k_mul, Z.k_fdiv, Z.k_mod, Z.k_pow, Z.k_app, Z.k_lapp, Z.k_cmp, Z.c_lt, Z.c_le, Z.c_gt, Z.c_ge, Z.c_eqi, Z.c_nei, Z.c_eqs, Z.c_nes, Z.c_ins, Z.c_int, Z.k_neg, Z.k_isN, Z.nn_0t, Z.nn_1t, Z.nn_0i, Z.nn_1i, Z.nn_0s, Z.nn_1s, Z.nn_0b, Z.nn_1b, Z.nn_0l, Z.nn_1l, Z.nn_0n, Z.nn_1n, Z.k_nt, Z.k_ntT, Z.k_an1, Z.k_an0, Z.k_anT1, Z.k_anT0, Z.k_or1, Z.k_or0, Z.k_orT1, Z.k_orT0, Z.k_ite1, Z.k_ite0, Z.k_ix, Z.k_ix2, Z.k_ixR, Z.k_ixr, Z.k_ref, Z.k_ref_i, Z.k_ref_s, Z.k_ref_b, Z.k_ref_n, Z.k_ref_t, Z.i_lst, Z.i_tup, Z.i_scr, Z.i_str, Z.i_dcs, Z.i_dci, Z.l_hit, Z.at_0, Z.at_1, Z.at_2, Z.at_3, Z.k_sl, Z.k_sl2, Z.k_sl3, Z.k_tup, Z.k_tup2, Z.k_lst, Z.k_lst2, Z.k_dct, Z.k_dct2, Z.v_nil, Z.v_cons, Z.k_pv, Z.k_c1, Z.k_c2, Z.k_c2k, Z.k_cb, Z.k_tk, Z.k_ret, Z.k_retX, Z.k_put, Z.k_putX, Z.tk_nil, Z.tk_v, Z.tk_r, Z.k_tv, Z.k_tr, Z.p_nil, Z.p_v0, Z.p_v1, Z.p_r, Z.r_nil, Z.r_in, Z.r_no, Z.k_bi, Z.pk_nil0, Z.pk_v, Z.pk_r, Z.some_bind, Z.b_lens, Z.b_lenl, Z.b_lent, Z.b_lenc, Z.b_inti, Z.b_str, Z.b_abs, Z.b_max, Z.b_min, Z.b_gcd, Z.b_all, Z.b_any, Z.k_isi, Z.k_isr, Z.k_mt, Z.k_mt2, Z.m_sw, Z.k_lc2, Z.k_a, Z.k_a2, Z.k_ar, Z.k_aref, Z.k_o, Z.k_f, Z.k_f2, Z.fm_s, Z.fm_i, Z.k_rng, Z.k_ov, Z.o_some, Z.x_nil, Z.x_cons, Z.k_sq, Z.k_sqr, Z.k_sqb, Z.k_sqc, Z.x_ex, Z.k_ex0, Z.x_set, Z.k_set, Z.x_mset, Z.k_ms, Z.k_ms2, Z.sm_nil, Z.sm_cons, Z.x_par, Z.k_par, Z.k_par2, Z.x_aug, Z.k_aug, Z.k_aug2a, Z.k_aug2s, Z.x_si, Z.k_si, Z.k_si1, Z.k_si2, Z.k_si3_0, Z.k_si3_1, Z.k_si3_2, Z.x_ret, Z.k_ret1, Z.x_retR, Z.k_retR, Z.x_retN, Z.x_if, Z.k_if1, Z.k_if0, Z.k_w0, Z.k_w1, Z.k_w2n, Z.k_w2c, Z.k_w2b, Z.k_w2r, Z.x_for, Z.fo_nil, Z.k_fon, Z.k_foc, Z.k_fob, Z.k_for2, Z.g_for, Z.g_lc, Z.x_brk, Z.x_cnt, Z.x_pas, Z.lk_0, Z.lk_S, Z.set_0, Z.set_S, Z.fz_i, Z.fz_s, Z.fz_b, Z.fz_n, Z.fz_t, Z.fz_l, Z.fz_c, Z.fl_nil, Z.fl_cons, Z.e_ret, Z.e_nx, ↓reduceIte, List.length_cons, List.length_nil, Nat.reduceAdd, Nat.reduceLeDiff, Nat.zero_le, List.mem_cons, List.not_mem_nil, or_false, or_true, false_or, true_or, Nat.reduceEqDiff, not_false_eq_true, reduceCtorEq, Option.map_some, List.cons.injEq, and_true, true_and, and_false, false_and, decide_true, decide_false, Bool.not_true, Bool.not_false, ne_eq, Nat.reduceMul, Nat.reduceSub, List.map_cons, List.map_nil, List.replicate, List.cons_append, List.nil_append, List.append_nil, List.length_append, Nat.zero_add, List.append_assoc, hd, q, q2]
        · simp -implicitDefEqProofs only [Out.bind_ok, Out.bind_exc, Z.s_con, Z.s_var, Z.k_var, Z.s_tup, Z.s_lst, Z.s_dct, Z.s_bin, Z.s_neg, Z.s_cmp, Z.s_isN, Z.s_nt, Z.s_an, Z.s_or, Z.s_ite, Z.s_ixV, Z.s_ixR, Z.s_sl, Z.s_call, Z.s_bi, Z.s_isiV, Z.s_isiR, Z.s_mt, Z.s_fs, Z.s_lc, Z.t_con, Z.t_var, Z.t_bin, Z.t_cmp, Z.t_isN, Z.t_nt, Z.t_an, Z.t_or, Z.t_ixV, Z.t_ixR, Z.t_call, Z.t_bi, Z.t_isiV, Z.t_isiR, Z.t_mt, Z.a_nil, Z.a_val, Z.a_ref, Z.o_non, Z.o_som, Z.f_nil, Z.f_cons, Z.i_rng, Z.i_ov, Z.k_tru_b, Z.k_tru_i, Z.k_bin, Z.k_add, Z.k_sub, Z.k_mul, Z.k_fdiv, Z.k_mod, Z.k_pow, Z.k_app, Z.k_lapp, Z.k_cmp, Z.c_lt, Z.c_le, Z.c_gt, Z.c_ge, Z.c_eqi, Z.c_nei, Z.c_eqs, Z.c_nes, Z.c_ins, Z.c_int, Z.k_neg, Z.k_isN, Z.nn_0t, Z.nn_1t, Z.nn_0i, Z.nn_1i, Z.nn_0s, Z.nn_1s, Z.nn_0b, Z.nn_1b, Z.nn_0l, Z.nn_1l, Z.nn_0n, Z.nn_1n, Z.k_nt, Z.k_ntT, Z.k_an1, Z.k_an0, Z.k_anT1, Z.k_anT0, Z.k_or1, Z.k_or0, Z.k_orT1, Z.k_orT0, Z.k_ite1, Z.k_ite0, Z.k_ix, Z.k_ix2, Z.k_ixR, Z.k_ixr, Z.k_ref, Z.k_ref_i, Z.k_ref_s, Z.k_ref_b, Z.k_ref_n, Z.k_ref_t, Z.i_lst, Z.i_tup, Z.i_scr, Z.i_str, Z.i_dcs, Z.i_dci, Z.l_hit, Z.at_0, Z.at_1, Z.at_2, Z.at_3, Z.k_sl, Z.k_sl2, Z.k_sl3, Z.k_tup, Z.k_tup2, Z.k_lst, Z.k_lst2, Z.k_dct, Z.k_dct2, Z.v_nil, Z.v_cons, Z.k_pv, Z.k_c1, Z.k_c2, Z.k_c2k, Z.k_cb, Z.k_tk, Z.k_ret, Z.k_retX, Z.k_put, Z.k_putX, Z.tk_nil, Z.tk_v, Z.tk_r, Z.k_tv, Z.k_tr, Z.p_nil, Z.p_v0, Z.p_v1, Z.p_r, Z.r_nil, Z.r_in, Z.r_no, Z.k_bi, Z.pk_nil0, Z.pk_v, Z.pk_r, Z.some_bind, Z.b_lens, Z.b_lenl, Z.b_lent, Z.b_lenc, Z.b_inti, Z.b_str, Z.b_abs, Z.b_max, Z.b_min, Z.b_gcd, Z.b_all, Z.b_any, Z.k_isi, Z.k_isr, Z.k_mt, Z.k_mt2, Z.m_sw, Z.k_lc2, Z.k_a, Z.k_a2, Z.k_ar, Z.k_aref, Z.k_o, Z.k_f, Z.k_f2, Z.fm_s, Z.fm_i, Z.k_rng, Z.k_ov, Z.o_some, Z.x_nil, Z.x_cons, Z.k_sq, Z.k_sqr, Z.k_sqb, Z.k_sqc, Z.x_ex, Z.k_ex0, Z.x_set, Z.k_set, Z.x_mset, Z.k_ms, Z.k_ms2, Z.sm_nil, Z.sm_cons, Z.x_par, Z.k_par, Z.k_par2, Z.x_aug, Z.k_aug, Z.k_aug2a, Z.k_aug2s, Z.x_si, Z.k_si, Z.k_si1, Z.k_si2, Z.k_si3_0, Z.k_si3_1, Z.k_si3_2, Z.x_ret, Z.k_ret1, Z.x_retR, Z.k_retR, Z.x_retN, Z.x_if, Z.k_if1, Z.k_if0, Z.k_w0, Z.k_w1, Z.k_w2n, Z.k_w2c, Z.k_w2b, Z.k_w2r, Z.x_for, Z.fo_nil, Z.k_fon, Z.k_foc, Z.k_fob, Z.k_for2, Z.g_for, Z.g_lc, Z.x_brk, Z.x_cnt, Z.x_pas, Z.lk_0, Z.lk_S, Z.set_0, Z.set_S, Z.fz_i, Z.fz_s, Z.fz_b, Z.fz_n, Z.fz_t, Z.fz_l, Z.fz_c, Z.fl_nil, Z.fl_cons, Z.e_ret, Z.e_nx, ↓reduceIte, List.length_cons, List.length_nil, Nat.reduceAdd, Nat.reduceLeDiff, Nat.zero_le, List.mem_cons, List.not_mem_nil, or_false, or_true, false_or, true_or, Nat.reduceEqDiff, not_false_eq_true, reduceCtorEq, Option.map_some, List.cons.injEq, and_true, true_and, and_false, false_and, decide_true, decide_false, Bool.not_true, Bool.not_false, ne_eq, Nat.reduceMul, Nat.reduceSub, List.map_cons, List.map_nil, List.replicate, List.cons_append, List.nil_append, List.append_nil, List.length_append, Nat.zero_add, List.append_assoc, hd, q]
      by_cases c2 : 1 ≤ r - 1 ∧ m < 7
      · obtain ⟨p1, w2, r2, d2, b1, b2, b3, b4⟩ := tree_ok e k (n + 1) w1 (r - 1) (dd - 1) a3 (by omega) (by omega)
        refine ⟨.many p1, w2, r2, ?_, b1, by show p1.dp + 1 ≤ _; omega, by show p1.sz + 1 ≤ _; omega, b4.mono (by omega)⟩
        simp -implicitDefEqProofs only [b17, Z.x_if, t1, Out.bind_ok, Out.bind_exc, Z.s_con, Z.s_var, Z.k_var, Z.s_tup, Z.s_lst, Z.s_dct, Z.s_bin, Z.s_neg, Z.s_cmp, Z.s_isN, Z.s_nt, Z.s_an, Z.s_or, Z.s_ite, Z.s_ixV, Z.s_ixR, Z.s_sl, Z.s_call, Z.s_bi, Z.s_isiV, Z.s_isiR, Z.s_mt, Z.s_fs, Z.s_lc, Z.t_con, Z.t_var, Z.t_bin, Z.t_cmp, Z.t_isN, Z.t_nt, Z.t_an, Z.t_or, Z.t_ixV, Z.t_ixR, Z.t_call, Z.t_bi, Z.t_isiV, Z.t_isiR, Z.t_mt, Z.a_nil, Z.a_val, Z.a_ref, Z.o_non, Z.o_som, Z.f_nil, Z.f_cons, Z.i_rng, Z.i_ov, Z.k_tru_b, Z.k_tru_i, Z.k_bin, Z.k_add, Z.k_sub, Z.k_mul, Z.k_fdiv, Z.k_mod, Z.k_pow, Z.k_app, Z.k_lapp, Z.k_cmp, Z.c_lt, Z.c_le, Z.c_gt, Z.c_ge, Z.c_eqi, Z.c_nei, Z.c_eqs, Z.c_nes, Z.c_ins, Z.c_int, Z.k_neg, Z.k_isN, Z.nn_0t, Z.nn_1t, Z.nn_0i, Z.nn_1i, Z.nn_0s, Z.nn_1s, Z.nn_0b, Z.nn_1b, Z.nn_0l, Z.nn_1l, Z.nn_0n, Z.nn_1n, Z.k_nt, Z.k_ntT, Z.k_an1, Z.k_an0, Z.k_anT1, Z.k_anT0, Z.k_or1, Z.k_or0, Z.k_orT1, Z.k_orT0, Z.k_ite1, Z.k_ite0, Z.k_ix, Z.k_ix2, Z.k_ixR, Z.k_ixr, Z.k_ref, Z.k_ref_i, Z.k_ref_s, Z.k_ref_b, Z.k_ref_n, Z.k_ref_t, Z.i_lst, Z.i_tup, Z.i_scr, Z.i_str, Z.i_dcs, Z.i_dci, Z.l_hit, Z.at_0, Z.at_1, Z.at_2, Z.at_3, Z.k_sl, Z.k_sl2, Z.k_sl3, Z.k_tup, Z.k_tup2, Z.k_lst, Z.k_lst2, Z.k_dct, Z.k_dct2, Z.v_nil, Z.v_cons, Z.k_pv, Z.k_c1, Z.k_c2, Z.k_c2k, Z.k_cb, Z.k_tk, Z.k_ret, Z.k_retX, Z.k_put, Z.k_putX, Z.tk_nil, Z.tk_v, Z.tk_r, Z.k_tv, Z.k_tr, Z.p_nil, Z.p_v0, Z.p_v1, Z.p_r, Z.r_nil, Z.r_in, Z.r_no, Z.k_bi, Z.pk_nil0, Z.pk_v, Z.pk_r, Z.some_bind, Z.b_lens, Z.b_lenl, Z.b_lent, Z.b_lenc, Z.b_inti, Z.b_str, Z.b_abs, Z.b_max, Z.b_min, Z.b_gcd, Z.b_all, Z.b_any, Z.k_isi, Z.k_isr, Z.k_mt, Z.k_mt2, Z.m_sw, Z.k_lc2, Z.k_a, Z.k_a2, Z.k_ar, Z.k_aref, Z.k_o, Z.k_f, Z.k_f2, Z.fm_s, Z.fm_i, Z.k_rng, Z.k_ov, Z.o_some, Z.x_nil, Z.x_cons, Z.k_sq, Z.k_sqr, Z.k_sqb, Z.k_sqc, Z.x_ex, Z.k_ex0, Z.x_set, Z.k_set, Z.x_mset, Z.k_ms, Z.k_ms2, Z.sm_nil, Z.sm_cons, Z.x_par, Z.k_par, Z.k_par2, Z.x_aug, Z.k_aug, Z.k_aug2a, Z.k_aug2s, Z.x_si, Z.k_si, Z.k_si1, Z.k_si2, Z.k_si3_0, Z.k_si3_1, Z.k_si3_2, Z.x_ret, Z.k_ret1, Z.x_retR, Z.k_retR, Z.x_retN, Z.x_if, Z.k_if1, Z.k_if0, Z.k_w0, Z.k_w1, Z.k_w2n, Z.k_w2c, Z.k_w2b, Z.k_w2r, Z.x_for, Z.fo_nil, Z.k_fon, Z.k_foc, Z.k_fob, Z.k_for2, Z.g_for, Z.g_lc, Z.x_brk, Z.x_cnt, Z.x_pas, Z.lk_0, Z.lk_S, Z.set_0, Z.set_S, Z.fz_i, Z.fz_s, Z.fz_b, Z.fz_n, Z.fz_t, Z.fz_l, Z.fz_c, Z.fl_nil, Z.fl_cons, Z.e_ret, Z.e_nx, ↓reduceIte, List.length_cons, List.length_nil, Nat.reduceAdd, Nat.reduceLeDiff, Nat.zero_le, List.mem_cons, List.not_mem_nil, or_false, or_true, false_or, true_or, Nat.reduceEqDiff, not_false_eq_true, reduceCtorEq, Option.map_some, List.cons.injEq, and_true, true_and, and_false, false_and, decide_true, decide_false, Bool.not_true, Bool.not_false, ne_eq, Nat.reduceMul, Nat.reduceSub, List.map_cons, List.map_nil, List.replicate, List.cons_append, List.nil_append, List.append_nil, List.length_append, Nat.zero_add, List.append_assoc, d1, hd, c2.1, c2.2, d2]
        rw [Z.e_ret2 rfl rfl]
        rfl
      · have t2 : evT (call Φ (k + e + 3)) (.an (.cmp .gt (.var 2) (.con (.int 1))) (.an (.cmp .ge (.ix .ref (.var 1) (.con (.int 0))) (.con (.int 1))) (.cmp .lt (.var 3) (.con (.int 7))))) [some w1, some (.lst true [.int (r - 1)]), some (.int dd), some (.int m), none] = .ok false [some w1, some (.lst true [.int (r - 1)]), some (.int dd), some (.int m), none] := by
          by_cases q : 1 ≤ r - 1
          · have q2 : ¬ m < 7 := fun z => c2 ⟨q, z⟩
            simp -implicitDefEqProofs only [Out.bind_ok, Out.bind_exc, Z.s_con, Z.s_var, Z.k_var, Z.s_tup, Z.s_lst, Z.s_dct, Z.s_bin, Z.s_neg, Z.s_cmp, Z.s_isN, Z.s_nt, Z.s_an, Z.s_or, Z.s_ite, Z.s_ixV, Z.s_ixR, Z.s_sl, Z.s_call, Z.s_bi, Z.s_isiV, Z.s_isiR, Z.s_mt, Z.s_fs, Z.s_lc, Z.t_con, Z.t_var, Z.t_bin, Z.t_cmp, Z.t_isN, Z.t_nt, Z.t_an, Z.t_or, Z.t_ixV, Z.t_ixR, Z.t_call, Z.t_bi, Z.t_isiV, Z.t_isiR, Z.t_mt, Z.a_nil, Z.a_val, Z.a_ref, Z.o_non, Z.o_som, Z.f_nil, Z.f_cons, Z.i_rng, Z.i_ov, Z.k_tru_b, Z.k_tru_i, Z.k_bin, Z.k_add, Z.k_sub, Z.k_mul, Z.k_fdiv, Z.k_mod, Z.k_pow, Z.k_app, Z.k_lapp, Z.k_cmp, Z.c_lt, Z.c_le, Z.c_gt, Z.c_ge, Z.c_eqi, Z.c_nei, Z.c_eqs, Z.c_nes, Z.c_ins, Z.c_int, Z.k_neg, Z.k_isN, Z.nn_0t, Z.nn_1t, Z.nn_0i, Z.nn_1i, Z.nn_0s, Z.nn_1s, Z.nn_0b, Z.nn_1b, Z.nn_0l, Z.nn_1l, Z.nn_0n, Z.nn_1n, Z.k_nt, Z.k_ntT, Z.k_an1, Z.k_an0, Z.k_anT1, Z.k_anT0, Z.k_or1, Z.k_or0, Z.k_orT1, Z.k_orT0, Z.k_ite1, Z.k_ite0, Z.k_ix, Z.k_ix2, Z.k_ixR, Z.k_ixr, Z.k_ref, Z.k_ref_i, Z.k_ref_s, Z.k_ref_b, Z.k_ref_n, Z.k_ref_t, Z.i_lst, Z.i_tup, Z.i_scr, Z.i_str, Z.i_dcs, Z.i_dci, Z.l_hit, Z.at_0, Z.at_1, Z.at_2, Z.at_3, Z.k_sl, Z.k_sl2, Z.k_sl3, Z.k_tup, Z.k_tup2, Z.k_lst, Z.k_lst2, Z.k_dct, Z.k_dct2, Z.v_nil, Z.v_cons, Z.k_pv, Z.k_c1, Z.k_c2, Z.k_c2k, Z.k_cb, Z.k_tk, Z.k_ret, Z.k_retX, Z.k_put, Z.k_putX, Z.tk_nil, Z.tk_v, Z.tk_r, Z.k_tv, Z.k_tr, Z.p_nil, Z.p_v0, Z.p_v1, Z.p_r, Z.r_nil, Z.r_in, Z.r_no, Z.k_bi, Z.pk_nil0, Z.pk_v, Z.pk_r, Z.some_bind, Z.b_lens, Z.b_lenl, Z.b_lent, Z.b_lenc, Z.b_inti, Z.b_str, Z.b_abs, Z.b_max, Z.b_min, Z.b_gcd, Z.b_all, Z.b_any, Z.k_isi, Z.k_isr, Z.k_mt, Z.k_mt2, Z.m_sw, Z.k_lc2, Z.k_a, Z.k_a2, Z.k_ar, Z.k_aref, Z.k_o, Z.k_f, Z.k_f2, Z.fm_s, Z.fm_i, Z.k_rng, Z.k_ov, Z.o_some, Z.x_nil, Z.x_cons, Z.k_sq, Z.k_sqr, Z.k_sqb, Z.k_sqc, Z.x_ex, Z.k_ex0, Z.x_set, Z.k_set, Z.x_mset, Z.k_ms, Z.k_ms2, Z.sm_nil, Z.sm_cons, Z.x_par, Z.k_par, Z.k_par2, Z.x_aug, Z.k_aug, Z.k_aug2a, Z.k_aug2s, Z.x_si, Z.k_si, Z.k_si1, Z.k_si2, Z.k_si3_0, Z.k_si3_1, Z.k_si3_2, Z.x_ret, Z.k_ret1, Z.x_retR, Z.k_retR, Z.x_retN, Z.x_if, Z.k_if1, Z.k_if0, Z.k_w0, Z.k_w1, Z.k_w2n, Z.k_w2c, Z.k_w2b, Z.k_w2r, Z.x_for, Z.fo_nil, Z.k_fon, Z.k_foc, Z.k_fob, Z.k_for2, Z.g_for, Z.g_lc, Z.x_brk, Z.x_cnt, Z.x_pas, Z.lk_0, Z.lk_S, Z.set_0, Z.set_S, Z.fz_i, Z.fz_s, Z.fz_b, Z.fz_n, Z.fz_t, Z.fz_l, Z.fz_c, Z.fl_nil, Z.fl_cons, Z.e_ret, Z.e_nx, ↓reduceIte, List.length_cons, List.length_nil, Nat.reduceAdd, Nat.reduceLeDiff, Nat.zero_le, List.mem_cons, List.not_mem_nil, or_false, or_true, false_or, true_or, Nat.reduceEqDiff, not_false_eq_true, reduceCtorEq, Option.map_some, List.cons.injEq, and_true, true_and, and_false, false_and, decide_true, decide_false, Bool.not_true, Bool.not_false, ne_eq, Nat.reduceMul, Nat.reduceSub, List.map_cons, List.map_nil, List.replicate, List.cons_append, List.nil_append, List.append_nil, List.length_append, Nat.zero_add, List.append_assoc, hd, q, q2]
          · simp -implicitDefEqProofs only [Out.bind_ok, Out.bind_exc, Z.s_con, Z.s_var, Z.k_var, Z.s_tup, Z.s_lst, Z.s_dct, Z.s_bin, Z.s_neg, Z.s_cmp, Z.s_isN, Z.s_nt, Z.s_an, Z.s_or, Z.s_ite, Z.s_ixV, Z.s_ixR, Z.s_sl, Z.s_call, Z.s_bi, Z.s_isiV, Z.s_isiR, Z.s_mt, Z.s_fs, Z.s_lc, Z.t_con, Z.t_var, Z.t_bin, Z.t_cmp, Z.t_isN, Z.t_nt, Z.t_an, Z.t_or, Z.t_ixV, Z.t_ixR, Z.t_call, Z.t_bi, Z.t_isiV, Z.t_isiR, Z.t_mt, Z.a_nil, Z.a_val, Z.a_ref, Z.o_non, Z.o_som, Z.f_nil, Z.f_cons, Z.i_rng, Z.i_ov, Z.k_tru_b, Z.k_tru_i, Z.k_bin, Z.k_add, Z.k_sub, Z.k_mul, Z.k_fdiv, Z.k_mod, Z.k_pow, Z.k_app, Z.k_lapp, Z.k_cmp, Z.c_lt, Z.c_le, Z.c_gt, Z.c_ge, Z.c_eqi, Z.c_nei, Z.c_eqs, Z.c_nes, Z.c_ins, Z.c_int, Z.k_neg, Z.k_isN, Z.nn_0t, Z.nn_1t, Z.nn_0i, Z.nn_1i, Z.nn_0s, Z.nn_1s, Z.nn_0b, Z.nn_1b, Z.nn_0l, Z.nn_1l, Z.nn_0n, Z.nn_1n, Z.k_nt, Z.k_ntT, Z.k_an1, Z.k_an0, Z.k_anT1, Z.k_anT0, Z.k_or1, Z.k_or0, Z.k_orT1, Z.k_orT0, Z.k_ite1, Z.k_ite0, Z.k_ix, Z.k_ix2, Z.k_ixR, Z.k_ixr, Z.k_ref, Z.k_ref_i, Z.k_ref_s, Z.k_ref_b, Z.k_ref_n, Z.k_ref_t, Z.i_lst, Z.i_tup, Z.i_scr, Z.i_str, Z.i_dcs, Z.i_dci, Z.l_hit, Z.at_0, Z.at_1, Z.at_2, Z.at_3, Z.k_sl, Z.k_sl2, Z.k_sl3, Z.k_tup, Z.k_tup2, Z.k_lst, Z.k_lst2, Z.k_dct, Z.k_dct2, Z.v_nil, Z.v_cons, Z.k_pv, Z.k_c1, Z.k_c2, Z.k_c2k, Z.k_cb, Z.k_tk, Z.k_ret, Z.k_retX, Z.k_put, Z.k_putX, Z.tk_nil, Z.tk_v, Z.tk_r, Z.k_tv, Z.k_tr, Z.p_nil, Z.p_v0, Z.p_v1, Z.p_r, Z.r_nil, Z.r_in, Z.r_no, Z.k_bi, Z.pk_nil0, Z.pk_v, Z.pk_r, Z.some_bind, Z.b_lens, Z.b_lenl, Z.b_lent, Z.b_lenc, Z.b_inti, Z.b_str, Z.b_abs, Z.b_max, Z.b_min, Z.b_gcd, Z.b_all, Z.b_any, Z.k_isi, Z.k_isr, Z.k_mt, Z.k_mt2, Z.m_sw, Z.k_lc2, Z.k_a, Z.k_a2, Z.k_ar, Z.k_aref, Z.k_o, Z.k_f, Z.k_f2, Z.fm_s, Z.fm_i, Z.k_rng, Z.k_ov, Z.o_some, Z.x_nil, Z.x_cons, Z.k_sq, Z.k_sqr, Z.k_sqb, Z.k_sqc, Z.x_ex, Z.k_ex0, Z.x_set, Z.k_set, Z.x_mset, Z.k_ms, Z.k_ms2, Z.sm_nil, Z.sm_cons, Z.x_par, Z.k_par, Z.k_par2, Z.x_aug, Z.k_aug, Z.k_aug2a, Z.k_aug2s, Z.x_si, Z.k_si, Z.k_si1, Z.k_si2, Z.k_si3_0, Z.k_si3_1, Z.k_si3_2, Z.x_ret, Z.k_ret1, Z.x_retR, Z.k_retR, Z.x_retN, Z.x_if, Z.k_if1, Z.k_if0, Z.k_w0, Z.k_w1, Z.k_w2n, Z.k_w2c, Z.k_w2b, Z.k_w2r, Z.x_for, Z.fo_nil, Z.k_fon, Z.k_foc, Z.k_fob, Z.k_for2, Z.g_for, Z.g_lc, Z.x_brk, Z.x_cnt, Z.x_pas, Z.lk_0, Z.lk_S, Z.set_0, Z.set_S, Z.fz_i, Z.fz_s, Z.fz_b, Z.fz_n, Z.fz_t, Z.fz_l, Z.fz_c, Z.fl_nil, Z.fl_cons, Z.e_ret, Z.e_nx, ↓reduceIte, List.length_cons, List.length_nil, Nat.reduceAdd, Nat.reduceLeDiff, Nat.zero_le, List.mem_cons, List.not_mem_nil, or_false, or_true, false_or, true_or, Nat.reduceEqDiff, not_false_eq_true, reduceCtorEq, Option.map_some, List.cons.injEq, and_true, true_and, and_false, false_and, decide_true, decide_false, Bool.not_true, Bool.not_false, ne_eq, Nat.reduceMul, Nat.reduceSub, List.map_cons, List.map_nil, List.replicate, List.cons_append, List.nil_append, List.append_nil, List.length_append, Nat.zero_add, List.append_assoc, hd, q]
        by_cases c3 : 2 ≤ r - 1 ∧ m = 7
        · obtain ⟨x, y, w2, d2, b1, b2⟩ := pair_ok (k + e + 1) a3 (by omega)
          have d2 : call Φ (k + e + 3) 14 [w1] = .ok (.tup [.int x, .int y]) [w2] := d2
          obtain ⟨p1, w3, r2, d3, e1, e2, e3, e4⟩ := tree_ok e k (n + 1 + 6) w2 (r - 1 - 1) (dd - 1) b2 (by omega) (by omega)
          refine ⟨.wgh x y p1, w3, r2, ?_, ⟨b1, e1⟩, by show p1.dp + 1 ≤ _; omega, by show p1.sz + 1 ≤ _; omega, e4.mono (by omega)⟩
          simp -implicitDefEqProofs only [b17, Z.x_if, t1, t2, Out.bind_ok, Out.bind_exc, Z.s_con, Z.s_var, Z.k_var, Z.s_tup, Z.s_lst, Z.s_dct, Z.s_bin, Z.s_neg, Z.s_cmp, Z.s_isN, Z.s_nt, Z.s_an, Z.s_or, Z.s_ite, Z.s_ixV, Z.s_ixR, Z.s_sl, Z.s_call, Z.s_bi, Z.s_isiV, Z.s_isiR, Z.s_mt, Z.s_fs, Z.s_lc, Z.t_con, Z.t_var, Z.t_bin, Z.t_cmp, Z.t_isN, Z.t_nt, Z.t_an, Z.t_or, Z.t_ixV, Z.t_ixR, Z.t_call, Z.t_bi, Z.t_isiV, Z.t_isiR, Z.t_mt, Z.a_nil, Z.a_val, Z.a_ref, Z.o_non, Z.o_som, Z.f_nil, Z.f_cons, Z.i_rng, Z.i_ov, Z.k_tru_b, Z.k_tru_i, Z.k_bin, Z.k_add, Z.k_sub, Z.k_mul, Z.k_fdiv, Z.k_mod, Z.k_pow, Z.k_app, Z.k_lapp, Z.k_cmp, Z.c_lt, Z.c_le, Z.c_gt, Z.c_ge, Z.c_eqi, Z.c_nei, Z.c_eqs, Z.c_nes, Z.c_ins, Z.c_int, Z.k_neg, Z.k_isN, Z.nn_0t, Z.nn_1t, Z.nn_0i, Z.nn_1i, Z.nn_0s, Z.nn_1s, Z.nn_0b, Z.nn_1b, Z.nn_0l, Z.nn_1l, Z.nn_0n, Z.nn_1n, Z.k_nt, Z.k_ntT, Z.k_an1, Z.k_an0, Z.k_anT1, Z.k_anT0, Z.k_or1, Z.k_or0, Z.k_orT1, Z.k_orT0, Z.k_ite1, Z.k_ite0, Z.k_ix, Z.k_ix2, Z.k_ixR, Z.k_ixr, Z.k_ref, Z.k_ref_i, Z.k_ref_s, Z.k_ref_b, Z.k_ref_n, Z.k_ref_t, Z.i_lst, Z.i_tup, Z.i_scr, Z.i_str, Z.i_dcs, Z.i_dci, Z.l_hit, Z.at_0, Z.at_1, Z.at_2, Z.at_3, Z.k_sl, Z.k_sl2, Z.k_sl3, Z.k_tup, Z.k_tup2, Z.k_lst, Z.k_lst2, Z.k_dct, Z.k_dct2, Z.v_nil, Z.v_cons, Z.k_pv, Z.k_c1, Z.k_c2, Z.k_c2k, Z.k_cb, Z.k_tk, Z.k_ret, Z.k_retX, Z.k_put, Z.k_putX, Z.tk_nil, Z.tk_v, Z.tk_r, Z.k_tv, Z.k_tr, Z.p_nil, Z.p_v0, Z.p_v1, Z.p_r, Z.r_nil, Z.r_in, Z.r_no, Z.k_bi, Z.pk_nil0, Z.pk_v, Z.pk_r, Z.some_bind, Z.b_lens, Z.b_lenl, Z.b_lent, Z.b_lenc, Z.b_inti, Z.b_str, Z.b_abs, Z.b_max, Z.b_min, Z.b_gcd, Z.b_all, Z.b_any, Z.k_isi, Z.k_isr, Z.k_mt, Z.k_mt2, Z.m_sw, Z.k_lc2, Z.k_a, Z.k_a2, Z.k_ar, Z.k_aref, Z.k_o, Z.k_f, Z.k_f2, Z.fm_s, Z.fm_i, Z.k_rng, Z.k_ov, Z.o_some, Z.x_nil, Z.x_cons, Z.k_sq, Z.k_sqr, Z.k_sqb, Z.k_sqc, Z.x_ex, Z.k_ex0, Z.x_set, Z.k_set, Z.x_mset, Z.k_ms, Z.k_ms2, Z.sm_nil, Z.sm_cons, Z.x_par, Z.k_par, Z.k_par2, Z.x_aug, Z.k_aug, Z.k_aug2a, Z.k_aug2s, Z.x_si, Z.k_si, Z.k_si1, Z.k_si2, Z.k_si3_0, Z.k_si3_1, Z.k_si3_2, Z.x_ret, Z.k_ret1, Z.x_retR, Z.k_retR, Z.x_retN, Z.x_if, Z.k_if1, Z.k_if0, Z.k_w0, Z.k_w1, Z.k_w2n, Z.k_w2c, Z.k_w2b, Z.k_w2r, Z.x_for, Z.fo_nil, Z.k_fon, Z.k_foc, Z.k_fob, Z.k_for2, Z.g_for, Z.g_lc, Z.x_brk, Z.x_cnt, Z.x_pas, Z.lk_0, Z.lk_S, Z.set_0, Z.set_S, Z.fz_i, Z.fz_s, Z.fz_b, Z.fz_n, Z.fz_t, Z.fz_l, Z.fz_c, Z.fl_nil, Z.fl_cons, Z.e_ret, Z.e_nx, ↓reduceIte, List.length_cons, List.length_nil, Nat.reduceAdd, Nat.reduceLeDiff, Nat.zero_le, List.mem_cons, List.not_mem_nil, or_false, or_true, false_or, true_or, Nat.reduceEqDiff, not_false_eq_true, reduceCtorEq, Option.map_some, List.cons.injEq, and_true, true_and, and_false, false_and, decide_true, decide_false, Bool.not_true, Bool.not_false, ne_eq, Nat.reduceMul, Nat.reduceSub, List.map_cons, List.map_nil, List.replicate, List.cons_append, List.nil_append, List.append_nil, List.length_append, Nat.zero_add, List.append_assoc, d1, hd, c3.1, eq_true c3.2, d2, d3]
          rw [Z.e_ret2 rfl rfl]
          rfl
        · have t3 : evT (call Φ (k + e + 3)) (.an (.cmp .gt (.var 2) (.con (.int 1))) (.an (.cmp .ge (.ix .ref (.var 1) (.con (.int 0))) (.con (.int 2))) (.cmp .eq (.var 3) (.con (.int 7))))) [some w1, some (.lst true [.int (r - 1)]), some (.int dd), some (.int m), none] = .ok false [some w1, some (.lst true [.int (r - 1)]), some (.int dd), some (.int m), none] := by
            by_cases q : 2 ≤ r - 1
            · have q2 : ¬ m = 7 := fun z => c3 ⟨q, z⟩
              simp -implicitDefEqProofs only [Out.bind_ok, Out.bind_exc, Z.s_con, Z.s_var, Z.k_var, Z.s_tup, Z.s_lst, Z.s_dct, Z.s_bin, Z.s_neg, Z.s_cmp, Z.s_isN, Z.s_nt, Z.s_an, Z.s_or, Z.s_ite, Z.s_ixV, Z.s_ixR, Z.s_sl, Z.s_call, Z.s_bi, Z.s_isiV, Z.s_isiR, Z.s_mt, Z.s_fs, Z.s_lc, Z.t_con, Z.t_var, Z.t_bin, Z.t_cmp, Z.t_isN, Z.t_nt, Z.t_an, Z.t_or, Z.t_ixV, Z.t_ixR, Z.t_call, Z.t_bi, Z.t_isiV, Z.t_isiR, Z.t_mt, Z.a_nil, Z.a_val, Z.a_ref, Z.o_non, Z.o_som, Z.f_nil, Z.f_cons, Z.i_rng, Z.i_ov, Z.k_tru_b, Z.k_tru_i, Z.k_bin, Z.k_add, Z.k_sub, Z.k_mul, Z.k_fdiv, Z.k_mod, Z.k_pow, Z.k_app, Z.k_lapp, Z.k_cmp, Z.c_lt, Z.c_le, Z.c_gt, Z.c_ge, Z.c_eqi, Z.c_nei, Z.c_eqs, Z.c_nes, Z.c_ins, Z.c_int, Z.k_neg, Z.k_isN, Z.nn_0t, Z.nn_1t, Z.nn_0i, Z.nn_1i, Z.nn_0s, Z.nn_1s, Z.nn_0b, Z.nn_1b, Z.nn_0l, Z.nn_1l, Z.nn_0n, Z.nn_1n, Z.k_nt, Z.k_ntT, Z.k_an1, Z.k_an0, Z.k_anT1, Z.k_anT0, Z.k_or1, Z.k_or0, Z.k_orT1, Z.k_orT0, Z.k_ite1, Z.k_ite0, Z.k_ix, Z.k_ix2, Z.k_ixR, Z.k_ixr, Z.k_ref, Z.k_ref_i, Z.k_ref_s, Z.k_ref_b, Z.k_ref_n, Z.k_ref_t, Z.i_lst, Z.i_tup, Z.i_scr, Z.i_str, Z.i_dcs, Z.i_dci, Z.l_hit, Z.at_0, Z.at_1, Z.at_2, Z.at_3, Z.k_sl, Z.k_sl2, Z.k_sl3, Z.k_tup, Z.k_tup2, Z.k_lst, Z.k_lst2, Z.k_dct, Z.k_dct2, Z.v_nil, Z.v_cons, Z.k_pv, Z.k_c1, Z.k_c2, Z.k_c2k, Z.k_cb, Z.k_tk, Z.k_ret, Z.k_retX, Z.k_put, Z.k_putX, Z.tk_nil, Z.tk_v, Z.tk_r, Z.k_tv, Z.k_tr, Z.p_nil, Z.p_v0, Z.p_v1, Z.p_r, Z.r_nil, Z.r_in, Z.r_no, Z.k_bi, Z.pk_nil0, Z.pk_v, Z.pk_r, Z.some_bind, Z.b_lens, Z.b_lenl, Z.b_lent, Z.b_lenc, Z.b_inti, Z.b_str, Z.b_abs, Z.b_max, Z.b_min, Z.b_gcd, Z.b_all, Z.b_any, Z.k_isi, Z.k_isr, Z.k_mt, Z.k_mt2, Z.m_sw, Z.k_lc2, Z.k_a, Z.k_a2, Z.k_ar, Z.k_aref, Z.k_o, Z.k_f, Z.k_f2, Z.fm_s, Z.fm_i, Z.k_rng, Z.k_ov, Z.o_some, Z.x_nil, Z.x_cons, Z.k_sq, Z.k_sqr, Z.k_sqb, Z.k_sqc, Z.x_ex, Z.k_ex0, Z.x_set, Z.k_set, Z.x_mset, Z.k_ms, Z.k_ms2, Z.sm_nil, Z.sm_cons, Z.x_par, Z.k_par, Z.k_par2, Z.x_aug, Z.k_aug, Z.k_aug2a, Z.k_aug2s, Z.x_si, Z.k_si, Z.k_si1, Z.k_si2, Z.k_si3_0, Z.k_si3_1, Z.k_si3_2, Z.x_ret, Z.k_ret1, Z.x_retR, Z.k_retR, Z.x_retN, Z.x_if, Z.k_if1, Z.k_if0, Z.k_w0, Z.k_w1, Z.k_w2n, Z.k_w2c, Z.k_w2b, Z.k_w2r, Z.x_for, Z.fo_nil, Z.k_fon, Z.k_foc, Z.k_fob, Z.k_for2, Z.g_for, Z.g_lc, Z.x_brk, Z.x_cnt, Z.x_pas, Z.lk_0, Z.lk_S, Z.set_0, Z.set_S, Z.fz_i, Z.fz_s, Z.fz_b, Z.fz_n, Z.fz_t, Z.fz_l, Z.fz_c, Z.fl_nil, Z.fl_cons, Z.e_ret, Z.e_nx, ↓reduceIte, List.length_cons, List.length_nil, Nat.reduceAdd, Nat.reduceLeDiff, Nat.zero_le, List.mem_cons, List.not_mem_nil, or_false, or_true, false_or, true_or, Nat.reduceEqDiff, not_false_eq_true, reduceCtorEq, Option.map_some, List.cons.injEq, and_true, true_and, and_false, false_and, decide_true, decide_false, Bool.not_true, Bool.not_false, ne_eq, Nat.reduceMul, Nat.reduceSub, List.map_cons, List.map_nil, List.replicate, List.cons_append, List.nil_append, List.append_nil, List.length_append, Nat.zero_add, List.append_assoc, hd, q, q2]
            · simp -implicitDefEqProofs only [Out.bind_ok, Out.bind_exc, Z.s_con, Z.s_var, Z.k_var, Z.s_tup, Z.s_lst, Z.s_dct, Z.s_bin, Z.s_neg, Z.s_cmp, Z.s_isN, Z.s_nt, Z.s_an, Z.s_or, Z.s_ite, Z.s_ixV, Z.s_ixR, Z.s_sl, Z.s_call, Z.s_bi, Z.s_isiV, Z.s_isiR, Z.s_mt, Z.s_fs, Z.s_lc, Z.t_con, Z.t_var, Z.t_bin, Z.t_cmp, Z.t_isN, Z.t_nt, Z.t_an, Z.t_or, Z.t_ixV, Z.t_ixR, Z.t_call, Z.t_bi, Z.t_isiV, Z.t_isiR, Z.t_mt, Z.a_nil, Z.a_val, Z.a_ref, Z.o_non, Z.o_som, Z.f_nil, Z.f_cons, Z.i_rng, Z.i_ov, Z.k_tru_b, Z.k_tru_i, Z.k_bin, Z.k_add, Z.k_sub, Z.k_mul, Z.k_fdiv, Z.k_mod, Z.k_pow, Z.k_app, Z.k_lapp, Z.k_cmp, Z.c_lt, Z.c_le, Z.c_gt, Z.c_ge, Z.c_eqi, Z.c_nei, Z.c_eqs, Z.c_nes, Z.c_ins, Z.c_int, Z.k_neg, Z.k_isN, Z.nn_0t, Z.nn_1t, Z.nn_0i, Z.nn_1i, Z.nn_0s, Z.nn_1s, Z.nn_0b, Z.nn_1b, Z.nn_0l, Z.nn_1l, Z.nn_0n, Z.nn_1n, Z.k_nt, Z.k_ntT, Z.k_an1, Z.k_an0, Z.k_anT1, Z.k_anT0, Z.k_or1, Z.k_or0, Z.k_orT1, Z.k_orT0, Z.k_ite1, Z.k_ite0, Z.k_ix, Z.k_ix2, Z.k_ixR, Z.k_ixr, Z.k_ref, Z.k_ref_i, Z.k_ref_s, Z.k_ref_b, Z.k_ref_n, Z.k_ref_t, Z.i_lst, Z.i_tup, Z.i_scr, Z.i_str, Z.i_dcs, Z.i_dci, Z.l_hit, Z.at_0, Z.at_1, Z.at_2, Z.at_3, Z.k_sl, Z.k_sl2, Z.k_sl3, Z.k_tup, Z.k_tup2, Z.k_lst, Z.k_lst2, Z.k_dct, Z.k_dct2, Z.v_nil, Z.v_cons, Z.k_pv, Z.k_c1, Z.k_c2, Z.k_c2k, Z.k_cb, Z.k_tk, Z.k_ret, Z.k_retX, Z.k_put, Z.k_putX, Z.tk_nil, Z.tk_v, Z.tk_r, Z.k_tv, Z.k_tr, Z.p_nil, Z.p_v0, Z.p_v1, Z.p_r, Z.r_nil, Z.r_in, Z.r_no, Z.k_bi, Z.pk_nil0, Z.pk_v, Z.pk_r, Z.some_bind, Z.b_lens, Z.b_lenl, Z.b_lent, Z.b_lenc, Z.b_inti, Z.b_str, Z.b_abs, Z.b_max, Z.b_min, Z.b_gcd, Z.b_all, Z.b_any, Z.k_isi, Z.k_isr, Z.k_mt, Z.k_mt2, Z.m_sw, Z.k_lc2, Z.k_a, Z.k_a2, Z.k_ar, Z.k_aref, Z.k_o, Z.k_f, Z.k_f2, Z.fm_s, Z.fm_i, Z.k_rng, Z.k_ov, Z.o_some, Z.x_nil, Z.x_cons, Z.k_sq, Z.k_sqr, Z.k_sqb, Z.k_sqc, Z.x_ex, Z.k_ex0, Z.x_set, Z.k_set, Z.x_mset, Z.k_ms, Z.k_ms2, Z.sm_nil, Z.sm_cons, Z.x_par, Z.k_par, Z.k_par2, Z.x_aug, Z.k_aug, Z.k_aug2a, Z.k_aug2s, Z.x_si, Z.k_si, Z.k_si1, Z.k_si2, Z.k_si3_0, Z.k_si3_1, Z.k_si3_2, Z.x_ret, Z.k_ret1, Z.x_retR, Z.k_retR, Z.x_retN, Z.x_if, Z.k_if1, Z.k_if0, Z.k_w0, Z.k_w1, Z.k_w2n, Z.k_w2c, Z.k_w2b, Z.k_w2r, Z.x_for, Z.fo_nil, Z.k_fon, Z.k_foc, Z.k_fob, Z.k_for2, Z.g_for, Z.g_lc, Z.x_brk, Z.x_cnt, Z.x_pas, Z.lk_0, Z.lk_S, Z.set_0, Z.set_S, Z.fz_i, Z.fz_s, Z.fz_b, Z.fz_n, Z.fz_t, Z.fz_l, Z.fz_c, Z.fl_nil, Z.fl_cons, Z.e_ret, Z.e_nx, ↓reduceIte, List.length_cons, List.length_nil, Nat.reduceAdd, Nat.reduceLeDiff, Nat.zero_le, List.mem_cons, List.not_mem_nil, or_false, or_true, false_or, true_or, Nat.reduceEqDiff, not_false_eq_true, reduceCtorEq, Option.map_some, List.cons.injEq, and_true, true_and, and_false, false_and, decide_true, decide_false, Bool.not_true, Bool.not_false, ne_eq, Nat.reduceMul, Nat.reduceSub, List.map_cons, List.map_nil, List.replicate, List.cons_append, List.nil_append, List.append_nil, List.length_append, Nat.zero_add, List.append_assoc, hd, q]
          obtain ⟨p, w2, d2, b1, b2⟩ := leaf_ok (k + e + 1) a3 (by omega)
          have d2 : call Φ (k + e + 3) 16 [w1] = .ok p.D [w2] := d2
          obtain ⟨b3, b4, b5⟩ := Pt.leaf_ok b1
          refine ⟨p, w2, r - 1, ?_, b3, by omega, by omega, b2.mono (by omega)⟩
          simp -implicitDefEqProofs only [b17, Z.x_if, t1, t2, t3, Out.bind_ok, Out.bind_exc, Z.s_con, Z.s_var, Z.k_var, Z.s_tup, Z.s_lst, Z.s_dct, Z.s_bin, Z.s_neg, Z.s_cmp, Z.s_isN, Z.s_nt, Z.s_an, Z.s_or, Z.s_ite, Z.s_ixV, Z.s_ixR, Z.s_sl, Z.s_call, Z.s_bi, Z.s_isiV, Z.s_isiR, Z.s_mt, Z.s_fs, Z.s_lc, Z.t_con, Z.t_var, Z.t_bin, Z.t_cmp, Z.t_isN, Z.t_nt, Z.t_an, Z.t_or, Z.t_ixV, Z.t_ixR, Z.t_call, Z.t_bi, Z.t_isiV, Z.t_isiR, Z.t_mt, Z.a_nil, Z.a_val, Z.a_ref, Z.o_non, Z.o_som, Z.f_nil, Z.f_cons, Z.i_rng, Z.i_ov, Z.k_tru_b, Z.k_tru_i, Z.k_bin, Z.k_add, Z.k_sub, Z.k_mul, Z.k_fdiv, Z.k_mod, Z.k_pow, Z.k_app, Z.k_lapp, Z.k_cmp, Z.c_lt, Z.c_le, Z.c_gt, Z.c_ge, Z.c_eqi, Z.c_nei, Z.c_eqs, Z.c_nes, Z.c_ins, Z.c_int, Z.k_neg, Z.k_isN, Z.nn_0t, Z.nn_1t, Z.nn_0i, Z.nn_1i, Z.nn_0s, Z.nn_1s, Z.nn_0b, Z.nn_1b, Z.nn_0l, Z.nn_1l, Z.nn_0n, Z.nn_1n, Z.k_nt, Z.k_ntT, Z.k_an1, Z.k_an0, Z.k_anT1, Z.k_anT0, Z.k_or1, Z.k_or0, Z.k_orT1, Z.k_orT0, Z.k_ite1, Z.k_ite0, Z.k_ix, Z.k_ix2, Z.k_ixR, Z.k_ixr, Z.k_ref, Z.k_ref_i, Z.k_ref_s, Z.k_ref_b, Z.k_ref_n, Z.k_ref_t, Z.i_lst, Z.i_tup, Z.i_scr, Z.i_str, Z.i_dcs, Z.i_dci, Z.l_hit, Z.at_0, Z.at_1, Z.at_2, Z.at_3, Z.k_sl, Z.k_sl2, Z.k_sl3, Z.k_tup, Z.k_tup2, Z.k_lst, Z.k_lst2, Z.k_dct, Z.k_dct2, Z.v_nil, Z.v_cons, Z.k_pv, Z.k_c1, Z.k_c2, Z.k_c2k, Z.k_cb, Z.k_tk, Z.k_ret, Z.k_retX, Z.k_put, Z.k_putX, Z.tk_nil, Z.tk_v, Z.tk_r, Z.k_tv, Z.k_tr, Z.p_nil, Z.p_v0, Z.p_v1, Z.p_r, Z.r_nil, Z.r_in, Z.r_no, Z.k_bi, Z.pk_nil0, Z.pk_v, Z.pk_r, Z.some_bind, Z.b_lens, Z.b_lenl, Z.b_lent, Z.b_lenc, Z.b_inti, Z.b_str, Z.b_abs, Z.b_max, Z.b_min, Z.b_gcd, Z.b_all, Z.b_any, Z.k_isi, Z.k_isr, Z.k_mt, Z.k_mt2, Z.m_sw, Z.k_lc2, Z.k_a, Z.k_a2, Z.k_ar, Z.k_aref, Z.k_o, Z.k_f, Z.k_f2, Z.fm_s, Z.fm_i, Z.k_rng, Z.k_ov, Z.o_some, Z.x_nil, Z.x_cons, Z.k_sq, Z.k_sqr, Z.k_sqb, Z.k_sqc, Z.x_ex, Z.k_ex0, Z.x_set, Z.k_set, Z.x_mset, Z.k_ms, Z.k_ms2, Z.sm_nil, Z.sm_cons, Z.x_par, Z.k_par, Z.k_par2, Z.x_aug, Z.k_aug, Z.k_aug2a, Z.k_aug2s, Z.x_si, Z.k_si, Z.k_si1, Z.k_si2, Z.k_si3_0, Z.k_si3_1, Z.k_si3_2, Z.x_ret, Z.k_ret1, Z.x_retR, Z.k_retR, Z.x_retN, Z.x_if, Z.k_if1, Z.k_if0, Z.k_w0, Z.k_w1, Z.k_w2n, Z.k_w2c, Z.k_w2b, Z.k_w2r, Z.x_for, Z.fo_nil, Z.k_fon, Z.k_foc, Z.k_fob, Z.k_for2, Z.g_for, Z.g_lc, Z.x_brk, Z.x_cnt, Z.x_pas, Z.lk_0, Z.lk_S, Z.set_0, Z.set_S, Z.fz_i, Z.fz_s, Z.fz_b, Z.fz_n, Z.fz_t, Z.fz_l, Z.fz_c, Z.fl_nil, Z.fl_cons, Z.e_ret, Z.e_nx, ↓reduceIte, List.length_cons, List.length_nil, Nat.reduceAdd, Nat.reduceLeDiff, Nat.zero_le, List.mem_cons, List.not_mem_nil, or_false, or_true, false_or, true_or, Nat.reduceEqDiff, not_false_eq_true, reduceCtorEq, Option.map_some, List.cons.injEq, and_true, true_and, and_false, false_and, decide_true, decide_false, Bool.not_true, Bool.not_false, ne_eq, Nat.reduceMul, Nat.reduceSub, List.map_cons, List.map_nil, List.replicate, List.cons_append, List.nil_append, List.append_nil, List.length_append, Nat.zero_add, List.append_assoc, d1, d2]
          rw [Z.e_ret2 rfl rfl]
/-! chains -/
def eChain : Sts := (.cons (.set 3 (.call 12 [0] (.cons .ref (.var 0) (.cons .val (.con (.int 7)) .nil)) .nil [])) (.cons (.ite (.cmp .lt (.var 3) (.con (.int 2))) (.cons (.set 1 (.tup (.cons .val (.con (.str [109, 97, 110, 121])) (.cons .val (.var 1) .nil)))) .nil) (.cons (.ite (.cmp .eq (.var 3) (.con (.int 2))) (.cons (.set 1 (.tup (.cons .val (.con (.str [119, 101, 105, 103, 104])) (.cons .val (.call 14 [0] (.cons .ref (.var 0) .nil) .nil []) (.cons .val (.var 1) .nil))))) .nil) (.cons (.ite (.cmp .inn (.var 3) (.tup (.cons .val (.con (.int 3)) (.cons .val (.con (.int 4)) .nil)))) (.cons (.set 1 (.tup (.cons .val (.ix .val (.lst (.cons .val (.con (.str [116, 104, 101, 110])) (.cons .val (.con (.str [111, 114])) .nil))) (.bin .sub (.var 3) (.con (.int 3)))) (.cons .val (.var 1) (.cons .val (.call 16 [0] (.cons .ref (.var 0) .nil) .nil []) .nil))))) .nil) (.cons (.set 1 (.tup (.cons .val (.ix .val (.lst (.cons .val (.con (.str [116, 104, 101, 110])) (.cons .val (.con (.str [111, 114])) .nil))) (.bin .sub (.var 3) (.con (.int 5)))) (.cons .val (.call 16 [0] (.cons .ref (.var 0) .nil) .nil []) (.cons .val (.var 1) .nil))))) .nil)) .nil)) .nil)) .nil))
theorem in_34 {m : Int} : Z.kCmp2 .inn (.int m) (.tup [.int 3, .int 4]) ρ = .ok (.bl (inD (.int m) [.int 3, .int 4])) ρ := Z.c_int rfl
theorem chain_turn (k : Nat) {n : Nat} {w : D} {p : Pt} {t m : Option D} (h : Wl n w) (hn : n < 2 ^ 37) (hp : p.ok) : ∃ (p' : Pt) (w' : D) (m' : Option D), evSs (call Φ (k + 2)) eChain [some w, some p.D, t, m] = .ok .nx [some w', some p'.D, t, m'] ∧ p'.ok ∧ p'.dp ≤ p.dp + 1 ∧ p'.sz ≤ p.sz + 2 ∧ Wl (n + 7) w' := by
  obtain ⟨m, w1, d1, a1, a2, a3⟩ := dip_ok (k + 1) h (by omega) (m := 7) (by decide) (by decide)
  have d1 : call Φ (k + 2) 12 [w, .int 7] = .ok (.int m) [w1] := d1
  have hf := p.fz
  by_cases c1 : m < 2
  · refine ⟨.many p, w1, some (.int m), ?_, hp, Nat.le_refl _, by show p.sz + 1 ≤ _; omega, a3.mono (by omega)⟩
    simp -implicitDefEqProofs only [eChain, Out.bind_ok, Out.bind_exc, Z.s_con, Z.s_var, Z.k_var, Z.s_tup, Z.s_lst, Z.s_dct, Z.s_bin, Z.s_neg, Z.s_cmp, Z.s_isN, Z.s_nt, Z.s_an, Z.s_or, Z.s_ite, Z.s_ixV, Z.s_ixR, Z.s_sl, Z.s_call, Z.s_bi, Z.s_isiV, Z.s_isiR, Z.s_mt, Z.s_fs, Z.s_lc, Z.t_con, Z.t_var, Z.t_bin, Z.t_cmp, Z.t_isN, Z.t_nt, Z.t_an, Z.t_or, Z.t_ixV, Z.t_ixR, Z.t_call, Z.t_bi, Z.t_isiV, Z.t_isiR, Z.t_mt, Z.a_nil, Z.a_val, Z.a_ref, Z.o_non, Z.o_som, Z.f_nil, Z.f_cons, Z.i_rng, Z.i_ov, Z.k_tru_b, Z.k_tru_i, Z.k_bin, Z.k_add, Z.k_sub, Z.k_mul, Z.k_fdiv, Z.k_mod, Z.k_pow, Z.k_app, Z.k_lapp, Z.k_cmp, Z.c_lt, Z.c_le, Z.c_gt, Z.c_ge, Z.c_eqi, Z.c_nei, Z.c_eqs, Z.c_nes, Z.c_ins, Z.c_int, Z.k_neg, Z.k_isN, Z.nn_0t, Z.nn_1t, Z.nn_0i, Z.nn_1i, Z.nn_0s, Z.nn_1s, Z.nn_0b, Z.nn_1b, Z.nn_0l, Z.nn_1l, Z.nn_0n, Z.nn_1n, Z.k_nt, Z.k_ntT, Z.k_an1, Z.k_an0, Z.k_anT1, Z.k_anT0, Z.k_or1, Z.k_or0, Z.k_orT1, Z.k_orT0, Z.k_ite1, Z.k_ite0, Z.k_ix, Z.k_ix2, Z.k_ixR, Z.k_ixr, Z.k_ref, Z.k_ref_i, Z.k_ref_s, Z.k_ref_b, Z.k_ref_n, Z.k_ref_t, Z.i_lst, Z.i_tup, Z.i_scr, Z.i_str, Z.i_dcs, Z.i_dci, Z.l_hit, Z.at_0, Z.at_1, Z.at_2, Z.at_3, Z.k_sl, Z.k_sl2, Z.k_sl3, Z.k_tup, Z.k_tup2, Z.k_lst, Z.k_lst2, Z.k_dct, Z.k_dct2, Z.v_nil, Z.v_cons, Z.k_pv, Z.k_c1, Z.k_c2, Z.k_c2k, Z.k_cb, Z.k_tk, Z.k_ret, Z.k_retX, Z.k_put, Z.k_putX, Z.tk_nil, Z.tk_v, Z.tk_r, Z.k_tv, Z.k_tr, Z.p_nil, Z.p_v0, Z.p_v1, Z.p_r, Z.r_nil, Z.r_in, Z.r_no, Z.k_bi, Z.pk_nil0, Z.pk_v, Z.pk_r, Z.some_bind, Z.b_lens, Z.b_lenl, Z.b_lent, Z.b_lenc, Z.b_inti, Z.b_str, Z.b_abs, Z.b_max, Z.b_min, Z.b_gcd, Z.b_all, Z.b_any, Z.k_isi, Z.k_isr, Z.k_mt, Z.k_mt2, Z.m_sw, Z.k_lc2, Z.k_a, Z.k_a2, Z.k_ar, Z.k_aref, Z.k_o, Z.k_f, Z.k_f2, Z.fm_s, Z.fm_i, Z.k_rng, Z.k_ov, Z.o_some, Z.x_nil, Z.x_cons, Z.k_sq, Z.k_sqr, Z.k_sqb, Z.k_sqc, Z.x_ex, Z.k_ex0, Z.x_set, Z.k_set, Z.x_mset, Z.k_ms, Z.k_ms2, Z.sm_nil, Z.sm_cons, Z.x_par, Z.k_par, Z.k_par2, Z.x_aug, Z.k_aug, Z.k_aug2a, Z.k_aug2s, Z.x_si, Z.k_si, Z.k_si1, Z.k_si2, Z.k_si3_0, Z.k_si3_1, Z.k_si3_2, Z.x_ret, Z.k_ret1, Z.x_retR, Z.k_retR, Z.x_retN, Z.x_if, Z.k_if1, Z.k_if0, Z.k_w0, Z.k_w1, Z.k_w2n, Z.k_w2c, Z.k_w2b, Z.k_w2r, Z.x_for, Z.fo_nil, Z.k_fon, Z.k_foc, Z.k_fob, Z.k_for2, Z.g_for, Z.g_lc, Z.x_brk, Z.x_cnt, Z.x_pas, Z.lk_0, Z.lk_S, Z.set_0, Z.set_S, Z.fz_i, Z.fz_s, Z.fz_b, Z.fz_n, Z.fz_t, Z.fz_l, Z.fz_c, Z.fl_nil, Z.fl_cons, Z.e_ret, Z.e_nx, ↓reduceIte, List.length_cons, List.length_nil, Nat.reduceAdd, Nat.reduceLeDiff, Nat.zero_le, List.mem_cons, List.not_mem_nil, or_false, or_true, false_or, true_or, Nat.reduceEqDiff, not_false_eq_true, reduceCtorEq, Option.map_some, List.cons.injEq, and_true, true_and, and_false, false_and, decide_true, decide_false, Bool.not_true, Bool.not_false, ne_eq, Nat.reduceMul, Nat.reduceSub, List.map_cons, List.map_nil, List.replicate, List.cons_append, List.nil_append, List.append_nil, List.length_append, Nat.zero_add, List.append_assoc, d1, c1, hf]
    rfl
  · by_cases c2 : m = 2
    · obtain ⟨x, y, w2, d2, b1, b2⟩ := pair_ok k a3 (by omega)
      refine ⟨.wgh x y p, w2, some (.int m), ?_, ⟨b1, hp⟩, Nat.le_refl _, by show p.sz + 1 ≤ _; omega, b2⟩
      simp -implicitDefEqProofs only [eChain, Out.bind_ok, Out.bind_exc, Z.s_con, Z.s_var, Z.k_var, Z.s_tup, Z.s_lst, Z.s_dct, Z.s_bin, Z.s_neg, Z.s_cmp, Z.s_isN, Z.s_nt, Z.s_an, Z.s_or, Z.s_ite, Z.s_ixV, Z.s_ixR, Z.s_sl, Z.s_call, Z.s_bi, Z.s_isiV, Z.s_isiR, Z.s_mt, Z.s_fs, Z.s_lc, Z.t_con, Z.t_var, Z.t_bin, Z.t_cmp, Z.t_isN, Z.t_nt, Z.t_an, Z.t_or, Z.t_ixV, Z.t_ixR, Z.t_call, Z.t_bi, Z.t_isiV, Z.t_isiR, Z.t_mt, Z.a_nil, Z.a_val, Z.a_ref, Z.o_non, Z.o_som, Z.f_nil, Z.f_cons, Z.i_rng, Z.i_ov, Z.k_tru_b, Z.k_tru_i, Z.k_bin, Z.k_add, Z.k_sub, Z.k_mul, Z.k_fdiv, Z.k_mod, Z.k_pow, Z.k_app, Z.k_lapp, Z.k_cmp, Z.c_lt, Z.c_le, Z.c_gt, Z.c_ge, Z.c_eqi, Z.c_nei, Z.c_eqs, Z.c_nes, Z.c_ins, Z.c_int, Z.k_neg, Z.k_isN, Z.nn_0t, Z.nn_1t, Z.nn_0i, Z.nn_1i, Z.nn_0s, Z.nn_1s, Z.nn_0b, Z.nn_1b, Z.nn_0l, Z.nn_1l, Z.nn_0n, Z.nn_1n, Z.k_nt, Z.k_ntT, Z.k_an1, Z.k_an0, Z.k_anT1, Z.k_anT0, Z.k_or1, Z.k_or0, Z.k_orT1, Z.k_orT0, Z.k_ite1, Z.k_ite0, Z.k_ix, Z.k_ix2, Z.k_ixR, Z.k_ixr, Z.k_ref, Z.k_ref_i, Z.k_ref_s, Z.k_ref_b, Z.k_ref_n, Z.k_ref_t, Z.i_lst, Z.i_tup, Z.i_scr, Z.i_str, Z.i_dcs, Z.i_dci, Z.l_hit, Z.at_0, Z.at_1, Z.at_2, Z.at_3, Z.k_sl, Z.k_sl2, Z.k_sl3, Z.k_tup, Z.k_tup2, Z.k_lst, Z.k_lst2, Z.k_dct, Z.k_dct2, Z.v_nil, Z.v_cons, Z.k_pv, Z.k_c1, Z.k_c2, Z.k_c2k, Z.k_cb, Z.k_tk, Z.k_ret, Z.k_retX, Z.k_put, Z.k_putX, Z.tk_nil, Z.tk_v, Z.tk_r, Z.k_tv, Z.k_tr, Z.p_nil, Z.p_v0, Z.p_v1, Z.p_r, Z.r_nil, Z.r_in, Z.r_no, Z.k_bi, Z.pk_nil0, Z.pk_v, Z.pk_r, Z.some_bind, Z.b_lens, Z.b_lenl, Z.b_lent, Z.b_lenc, Z.b_inti, Z.b_str, Z.b_abs, Z.b_max, Z.b_min, Z.b_gcd, Z.b_all, Z.b_any, Z.k_isi, Z.k_isr, Z.k_mt, Z.k_mt2, Z.m_sw, Z.k_lc2, Z.k_a, Z.k_a2, Z.k_ar, Z.k_aref, Z.k_o, Z.k_f, Z.k_f2, Z.fm_s, Z.fm_i, Z.k_rng, Z.k_ov, Z.o_some, Z.x_nil, Z.x_cons, Z.k_sq, Z.k_sqr, Z.k_sqb, Z.k_sqc, Z.x_ex, Z.k_ex0, Z.x_set, Z.k_set, Z.x_mset, Z.k_ms, Z.k_ms2, Z.sm_nil, Z.sm_cons, Z.x_par, Z.k_par, Z.k_par2, Z.x_aug, Z.k_aug, Z.k_aug2a, Z.k_aug2s, Z.x_si, Z.k_si, Z.k_si1, Z.k_si2, Z.k_si3_0, Z.k_si3_1, Z.k_si3_2, Z.x_ret, Z.k_ret1, Z.x_retR, Z.k_retR, Z.x_retN, Z.x_if, Z.k_if1, Z.k_if0, Z.k_w0, Z.k_w1, Z.k_w2n, Z.k_w2c, Z.k_w2b, Z.k_w2r, Z.x_for, Z.fo_nil, Z.k_fon, Z.k_foc, Z.k_fob, Z.k_for2, Z.g_for, Z.g_lc, Z.x_brk, Z.x_cnt, Z.x_pas, Z.lk_0, Z.lk_S, Z.set_0, Z.set_S, Z.fz_i, Z.fz_s, Z.fz_b, Z.fz_n, Z.fz_t, Z.fz_l, Z.fz_c, Z.fl_nil, Z.fl_cons, Z.e_ret, Z.e_nx, ↓reduceIte, List.length_cons, List.length_nil, Nat.reduceAdd, Nat.reduceLeDiff, Nat.zero_le, List.mem_cons, List.not_mem_nil, or_false, or_true, false_or, true_or, Nat.reduceEqDiff, not_false_eq_true, reduceCtorEq, Option.map_some, List.cons.injEq, and_true, true_and, and_false, false_and, decide_true, decide_false, Bool.not_true, Bool.not_false, ne_eq, Nat.reduceMul, Nat.reduceSub, List.map_cons, List.map_nil, List.replicate, List.cons_append, List.nil_append, List.append_nil, List.length_append, Nat.zero_add, List.append_assoc, d1, c1, eq_true c2, hf, d2]
      rfl
    · obtain ⟨q, w2, d2, b1, b2⟩ := leaf_ok k a3 (by omega)
      obtain ⟨b3, b4, b5⟩ := Pt.leaf_ok b1
      have hf2 := q.fz
      by_cases c3 : m = 3 ∨ m = 4
      · have hs := seqor (r := m - 3) (by omega) (by omega)
        have hi : inD (.int m) [.int 3, .int 4] = true := by rcases c3 with rfl | rfl <;> decide
        by_cases c4 : m - 3 = 0
        · rw [if_pos c4] at hs
          refine ⟨.seq p q, w2, some (.int m), ?_, ⟨hp, b3⟩, by show max p.dp q.dp + 1 ≤ _; omega, by show p.sz + q.sz + 1 ≤ _; omega, b2.mono (by omega)⟩
          simp -implicitDefEqProofs only [eChain, in_34, hi, Out.bind_ok, Out.bind_exc, Z.s_con, Z.s_var, Z.k_var, Z.s_tup, Z.s_lst, Z.s_dct, Z.s_bin, Z.s_neg, Z.s_cmp, Z.s_isN, Z.s_nt, Z.s_an, Z.s_or, Z.s_ite, Z.s_ixV, Z.s_ixR, Z.s_sl, Z.s_call, Z.s_bi, Z.s_isiV, Z.s_isiR, Z.s_mt, Z.s_fs, Z.s_lc, Z.t_con, Z.t_var, Z.t_bin, Z.t_cmp, Z.t_isN, Z.t_nt, Z.t_an, Z.t_or, Z.t_ixV, Z.t_ixR, Z.t_call, Z.t_bi, Z.t_isiV, Z.t_isiR, Z.t_mt, Z.a_nil, Z.a_val, Z.a_ref, Z.o_non, Z.o_som, Z.f_nil, Z.f_cons, Z.i_rng, Z.i_ov, Z.k_tru_b, Z.k_tru_i, Z.k_bin, Z.k_add, Z.k_sub, Z.k_mul, Z.k_fdiv, Z.k_mod, Z.k_pow, Z.k_app, Z.k_lapp, Z.k_cmp, Z.c_lt, Z.c_le, Z.c_gt, Z.c_ge, Z.c_eqi, Z.c_nei, Z.c_eqs, Z.c_nes, Z.c_ins, Z.c_int, Z.k_neg, Z.k_isN, Z.nn_0t, Z.nn_1t, Z.nn_0i, Z.nn_1i, Z.nn_0s, Z.nn_1s, Z.nn_0b, Z.nn_1b, Z.nn_0l, Z.nn_1l, Z.nn_0n, Z.nn_1n, Z.k_nt, Z.k_ntT, Z.k_an1, Z.k_an0, Z.k_anT1, Z.k_anT0, Z.k_or1, Z.k_or0, Z.k_orT1, Z.k_orT0, Z.k_ite1, Z.k_ite0, Z.k_ix, Z.k_ix2, Z.k_ixR, Z.k_ixr, Z.k_ref, Z.k_ref_i, Z.k_ref_s, Z.k_ref_b, Z.k_ref_n, Z.k_ref_t, Z.i_lst, Z.i_tup, Z.i_scr, Z.i_str, Z.i_dcs, Z.i_dci, Z.l_hit, Z.at_0, Z.at_1, Z.at_2, Z.at_3, Z.k_sl, Z.k_sl2, Z.k_sl3, Z.k_tup, Z.k_tup2, Z.k_lst, Z.k_lst2, Z.k_dct, Z.k_dct2, Z.v_nil, Z.v_cons, Z.k_pv, Z.k_c1, Z.k_c2, Z.k_c2k, Z.k_cb, Z.k_tk, Z.k_ret, Z.k_retX, Z.k_put, Z.k_putX, Z.tk_nil, Z.tk_v, Z.tk_r, Z.k_tv, Z.k_tr, Z.p_nil, Z.p_v0, Z.p_v1, Z.p_r, Z.r_nil, Z.r_in, Z.r_no, Z.k_bi, Z.pk_nil0, Z.pk_v, Z.pk_r, Z.some_bind, Z.b_lens, Z.b_lenl, Z.b_lent, Z.b_lenc, Z.b_inti, Z.b_str, Z.b_abs, Z.b_max, Z.b_min, Z.b_gcd, Z.b_all, Z.b_any, Z.k_isi, Z.k_isr, Z.k_mt, Z.k_mt2, Z.m_sw, Z.k_lc2, Z.k_a, Z.k_a2, Z.k_ar, Z.k_aref, Z.k_o, Z.k_f, Z.k_f2, Z.fm_s, Z.fm_i, Z.k_rng, Z.k_ov, Z.o_some, Z.x_nil, Z.x_cons, Z.k_sq, Z.k_sqr, Z.k_sqb, Z.k_sqc, Z.x_ex, Z.k_ex0, Z.x_set, Z.k_set, Z.x_mset, Z.k_ms, Z.k_ms2, Z.sm_nil, Z.sm_cons, Z.x_par, Z.k_par, Z.k_par2, Z.x_aug, Z.k_aug, Z.k_aug2a, Z.k_aug2s, Z.x_si, Z.k_si, Z.k_si1, Z.k_si2, Z.k_si3_0, Z.k_si3_1, Z.k_si3_2, Z.x_ret, Z.k_ret1, Z.x_retR, Z.k_retR, Z.x_retN, Z.x_if, Z.k_if1, Z.k_if0, Z.k_w0, Z.k_w1, Z.k_w2n, Z.k_w2c, Z.k_w2b, Z.k_w2r, Z.x_for, Z.fo_nil, Z.k_fon, Z.k_foc, Z.k_fob, Z.k_for2, Z.g_for, Z.g_lc, Z.x_brk, Z.x_cnt, Z.x_pas, Z.lk_0, Z.lk_S, Z.set_0, Z.set_S, Z.fz_i, Z.fz_s, Z.fz_b, Z.fz_n, Z.fz_t, Z.fz_l, Z.fz_c, Z.fl_nil, Z.fl_cons, Z.e_ret, Z.e_nx, ↓reduceIte, List.length_cons, List.length_nil, Nat.reduceAdd, Nat.reduceLeDiff, Nat.zero_le, List.mem_cons, List.not_mem_nil, or_false, or_true, false_or, true_or, Nat.reduceEqDiff, not_false_eq_true, reduceCtorEq, Option.map_some, List.cons.injEq, and_true, true_and, and_false, false_and, decide_true, decide_false, Bool.not_true, Bool.not_false, ne_eq, Nat.reduceMul, Nat.reduceSub, List.map_cons, List.map_nil, List.replicate, List.cons_append, List.nil_append, List.append_nil, List.length_append, Nat.zero_add, List.append_assoc, d1, c1, c2, hf, hf2, d2, hs]
          rfl
        · rw [if_neg c4] at hs
          refine ⟨.alt p q, w2, some (.int m), ?_, ⟨hp, b3⟩, by show max p.dp q.dp + 1 ≤ _; omega, by show p.sz + q.sz + 1 ≤ _; omega, b2.mono (by omega)⟩
          simp -implicitDefEqProofs only [eChain, in_34, hi, Out.bind_ok, Out.bind_exc, Z.s_con, Z.s_var, Z.k_var, Z.s_tup, Z.s_lst, Z.s_dct, Z.s_bin, Z.s_neg, Z.s_cmp, Z.s_isN, Z.s_nt, Z.s_an, Z.s_or, Z.s_ite, Z.s_ixV, Z.s_ixR, Z.s_sl, Z.s_call, Z.s_bi, Z.s_isiV, Z.s_isiR, Z.s_mt, Z.s_fs, Z.s_lc, Z.t_con, Z.t_var, Z.t_bin, Z.t_cmp, Z.t_isN, Z.t_nt, Z.t_an, Z.t_or, Z.t_ixV, Z.t_ixR, Z.t_call, Z.t_bi, Z.t_isiV, Z.t_isiR, Z.t_mt, Z.a_nil, Z.a_val, Z.a_ref, Z.o_non, Z.o_som, Z.f_nil, Z.f_cons, Z.i_rng, Z.i_ov, Z.k_tru_b, Z.k_tru_i, Z.k_bin, Z.k_add, Z.k_sub, Z.k_mul, Z.k_fdiv, Z.k_mod, Z.k_pow, Z.k_app, Z.k_lapp, Z.k_cmp, Z.c_lt, Z.c_le, Z.c_gt, Z.c_ge, Z.c_eqi, Z.c_nei, Z.c_eqs, Z.c_nes, Z.c_ins, Z.c_int, Z.k_neg, Z.k_isN, Z.nn_0t, Z.nn_1t, Z.nn_0i, Z.nn_1i, Z.nn_0s, Z.nn_1s, Z.nn_0b, Z.nn_1b, Z.nn_0l, Z.nn_1l, Z.nn_0n, Z.nn_1n, Z.k_nt, Z.k_ntT, Z.k_an1, Z.k_an0, Z.k_anT1, Z.k_anT0, Z.k_or1, Z.k_or0, Z.k_orT1, Z.k_orT0, Z.k_ite1, Z.k_ite0, Z.k_ix, Z.k_ix2, Z.k_ixR, Z.k_ixr, Z.k_ref, Z.k_ref_i, Z.k_ref_s, Z.k_ref_b, Z.k_ref_n, Z.k_ref_t, Z.i_lst, Z.i_tup, Z.i_scr, Z.i_str, Z.i_dcs, Z.i_dci, Z.l_hit, Z.at_0, Z.at_1, Z.at_2, Z.at_3, Z.k_sl, Z.k_sl2, Z.k_sl3, Z.k_tup, Z.k_tup2, Z.k_lst, Z.k_lst2, Z.k_dct, Z.k_dct2, Z.v_nil, Z.v_cons, Z.k_pv, Z.k_c1, Z.k_c2, Z.k_c2k, Z.k_cb, Z.k_tk, Z.k_ret, Z.k_retX, Z.k_put, Z.k_putX, Z.tk_nil, Z.tk_v, Z.tk_r, Z.k_tv, Z.k_tr, Z.p_nil, Z.p_v0, Z.p_v1, Z.p_r, Z.r_nil, Z.r_in, Z.r_no, Z.k_bi, Z.pk_nil0, Z.pk_v, Z.pk_r, Z.some_bind, Z.b_lens, Z.b_lenl, Z.b_lent, Z.b_lenc, Z.b_inti, Z.b_str, Z.b_abs, Z.b_max, Z.b_min, Z.b_gcd, Z.b_all, Z.b_any, Z.k_isi, Z.k_isr, Z.k_mt, Z.k_mt2, Z.m_sw, Z.k_lc2, Z.k_a, Z.k_a2, Z.k_ar, Z.k_aref, Z.k_o, Z.k_f, Z.k_f2, Z.fm_s, Z.fm_i, Z.k_rng, Z.k_ov, Z.o_some, Z.x_nil, Z.x_cons, Z.k_sq, Z.k_sqr, Z.k_sqb, Z.k_sqc, Z.x_ex, Z.k_ex0, Z.x_set, Z.k_set, Z.x_mset, Z.k_ms, Z.k_ms2, Z.sm_nil, Z.sm_cons, Z.x_par, Z.k_par, Z.k_par2, Z.x_aug, Z.k_aug, Z.k_aug2a, Z.k_aug2s, Z.x_si, Z.k_si, Z.k_si1, Z.k_si2, Z.k_si3_0, Z.k_si3_1, Z.k_si3_2, Z.x_ret, Z.k_ret1, Z.x_retR, Z.k_retR, Z.x_retN, Z.x_if, Z.k_if1, Z.k_if0, Z.k_w0, Z.k_w1, Z.k_w2n, Z.k_w2c, Z.k_w2b, Z.k_w2r, Z.x_for, Z.fo_nil, Z.k_fon, Z.k_foc, Z.k_fob, Z.k_for2, Z.g_for, Z.g_lc, Z.x_brk, Z.x_cnt, Z.x_pas, Z.lk_0, Z.lk_S, Z.set_0, Z.set_S, Z.fz_i, Z.fz_s, Z.fz_b, Z.fz_n, Z.fz_t, Z.fz_l, Z.fz_c, Z.fl_nil, Z.fl_cons, Z.e_ret, Z.e_nx, ↓reduceIte, List.length_cons, List.length_nil, Nat.reduceAdd, Nat.reduceLeDiff, Nat.zero_le, List.mem_cons, List.not_mem_nil, or_false, or_true, false_or, true_or, Nat.reduceEqDiff, not_false_eq_true, reduceCtorEq, Option.map_some, List.cons.injEq, and_true, true_and, and_false, false_and, decide_true, decide_false, Bool.not_true, Bool.not_false, ne_eq, Nat.reduceMul, Nat.reduceSub, List.map_cons, List.map_nil, List.replicate, List.cons_append, List.nil_append, List.append_nil, List.length_append, Nat.zero_add, List.append_assoc, d1, c1, c2, hf, hf2, d2, hs]
          rfl
      · have hs := seqor (r := m - 5) (by omega) (by omega)
        have hm : m = 5 ∨ m = 6 := by omega
        have hi : inD (.int m) [.int 3, .int 4] = false := by rcases hm with rfl | rfl <;> decide
        by_cases c4 : m - 5 = 0
        · rw [if_pos c4] at hs
          refine ⟨.seq q p, w2, some (.int m), ?_, ⟨b3, hp⟩, by show max q.dp p.dp + 1 ≤ _; omega, by show q.sz + p.sz + 1 ≤ _; omega, b2.mono (by omega)⟩
          simp -implicitDefEqProofs only [eChain, in_34, hi, Out.bind_ok, Out.bind_exc, Z.s_con, Z.s_var, Z.k_var, Z.s_tup, Z.s_lst, Z.s_dct, Z.s_bin, Z.s_neg, Z.s_cmp, Z.s_isN, Z.s_nt, Z.s_an, Z.s_or, Z.s_ite, Z.s_ixV, Z.s_ixR, Z.s_sl, Z.s_call, Z.s_bi, Z.s_isiV, Z.s_isiR, Z.s_mt, Z.s_fs, Z.s_lc, Z.t_con, Z.t_var, Z.t_bin, Z.t_cmp, Z.t_isN, Z.t_nt, Z.t_an, Z.t_or, Z.t_ixV, Z.t_ixR, Z.t_call, Z.t_bi, Z.t_isiV, Z.t_isiR, Z.t_mt, Z.a_nil, Z.a_val, Z.a_ref, Z.o_non, Z.o_som, Z.f_nil, Z.f_cons, Z.i_rng, Z.i_ov, Z.k_tru_b, Z.k_tru_i, Z.k_bin, Z.k_add, Z.k_sub, Z.k_mul, Z.k_fdiv, Z.k_mod, Z.k_pow, Z.k_app, Z.k_lapp, Z.k_cmp, Z.c_lt, Z.c_le, Z.c_gt, Z.c_ge, Z.c_eqi, Z.c_nei, Z.c_eqs, Z.c_nes, Z.c_ins, Z.c_int, Z.k_neg, Z.k_isN, Z.nn_0t, Z.nn_1t, Z.nn_0i, Z.nn_1i, Z.nn_0s, Z.nn_1s, Z.nn_0b, Z.nn_1b, Z.nn_0l, Z.nn_1l, Z.nn_0n, Z.nn_1n, Z.k_nt, Z.k_ntT, Z.k_an1, Z.k_an0, Z.k_anT1, Z.k_anT0, Z.k_or1, Z.k_or0, Z.k_orT1, Z.k_orT0, Z.k_ite1, Z.k_ite0, Z.k_ix, Z.k_ix2, Z.k_ixR, Z.k_ixr, Z.k_ref, Z.k_ref_i, Z.k_ref_s, Z.k_ref_b, Z.k_ref_n, Z.k_ref_t, Z.i_lst, Z.i_tup, Z.i_scr, Z.i_str, Z.i_dcs, Z.i_dci, Z.l_hit, Z.at_0, Z.at_1, Z.at_2, Z.at_3, Z.k_sl, Z.k_sl2, Z.k_sl3, Z.k_tup, Z.k_tup2, Z.k_lst, Z.k_lst2, Z.k_dct, Z.k_dct2, Z.v_nil, Z.v_cons, Z.k_pv, Z.k_c1, Z.k_c2, Z.k_c2k, Z.k_cb, Z.k_tk, Z.k_ret, Z.k_retX, Z.k_put, Z.k_putX, Z.tk_nil, Z.tk_v, Z.tk_r, Z.k_tv, Z.k_tr, Z.p_nil, Z.p_v0, Z.p_v1, Z.p_r, Z.r_nil, Z.r_in, Z.r_no, Z.k_bi, Z.pk_nil0, Z.pk_v, Z.pk_r, Z.some_bind, Z.b_lens, Z.b_lenl, Z.b_lent, Z.b_lenc, Z.b_inti, Z.b_str, Z.b_abs, Z.b_max, Z.b_min, Z.b_gcd, Z.b_all, Z.b_any, Z.k_isi, Z.k_isr, Z.k_mt, Z.k_mt2, Z.m_sw, Z.k_lc2, Z.k_a, Z.k_a2, Z.k_ar, Z.k_aref, Z.k_o, Z.k_f, Z.k_f2, Z.fm_s, Z.fm_i, Z.k_rng, Z.k_ov, Z.o_some, Z.x_nil, Z.x_cons, Z.k_sq, Z.k_sqr, Z.k_sqb, Z.k_sqc, Z.x_ex, Z.k_ex0, Z.x_set, Z.k_set, Z.x_mset, Z.k_ms, Z.k_ms2, Z.sm_nil, Z.sm_cons, Z.x_par, Z.k_par, Z.k_par2, Z.x_aug, Z.k_aug, Z.k_aug2a, Z.k_aug2s, Z.x_si, Z.k_si, Z.k_si1, Z.k_si2, Z.k_si3_0, Z.k_si3_1, Z.k_si3_2, Z.x_ret, Z.k_ret1, Z.x_retR, Z.k_retR, Z.x_retN, Z.x_if, Z.k_if1, Z.k_if0, Z.k_w0, Z.k_w1, Z.k_w2n, Z.k_w2c, Z.k_w2b, Z.k_w2r, Z.x_for, Z.fo_nil, Z.k_fon, Z.k_foc, Z.k_fob, Z.k_for2, Z.g_for, Z.g_lc, Z.x_brk, Z.x_cnt, Z.x_pas, Z.lk_0, Z.lk_S, Z.set_0, Z.set_S, Z.fz_i, Z.fz_s, Z.fz_b, Z.fz_n, Z.fz_t, Z.fz_l, Z.fz_c, Z.fl_nil, Z.fl_cons, Z.e_ret, Z.e_nx, ↓reduceIte, List.length_cons, List.length_nil, Nat.reduceAdd, Nat.reduceLeDiff, Nat.zero_le, List.mem_cons, List.not_mem_nil, or_false, or_true, false_or, true_or, Nat.reduceEqDiff, not_false_eq_true, reduceCtorEq, Option.map_some, List.cons.injEq, and_true, true_and, and_false, false_and, decide_true, decide_false, Bool.not_true, Bool.not_false, ne_eq, Nat.reduceMul, Nat.reduceSub, List.map_cons, List.map_nil, List.replicate, List.cons_append, List.nil_append, List.append_nil, List.length_append, Nat.zero_add, List.append_assoc, d1, c1, c2, hf, hf2, d2, hs]
          rfl
        · rw [if_neg c4] at hs
          refine ⟨.alt q p, w2, some (.int m), ?_, ⟨b3, hp⟩, by show max q.dp p.dp + 1 ≤ _; omega, by show q.sz + p.sz + 1 ≤ _; omega, b2.mono (by omega)⟩
          simp -implicitDefEqProofs only [eChain, in_34, hi, Out.bind_ok, Out.bind_exc, Z.s_con, Z.s_var, Z.k_var, Z.s_tup, Z.s_lst, Z.s_dct, Z.s_bin, Z.s_neg, Z.s_cmp, Z.s_isN, Z.s_nt, Z.s_an, Z.s_or, Z.s_ite, Z.s_ixV, Z.s_ixR, Z.s_sl, Z.s_call, Z.s_bi, Z.s_isiV, Z.s_isiR, Z.s_mt, Z.s_fs, Z.s_lc, Z.t_con, Z.t_var, Z.t_bin, Z.t_cmp, Z.t_isN, Z.t_nt, Z.t_an, Z.t_or, Z.t_ixV, Z.t_ixR, Z.t_call, Z.t_bi, Z.t_isiV, Z.t_isiR, Z.t_mt, Z.a_nil, Z.a_val, Z.a_ref, Z.o_non, Z.o_som, Z.f_nil, Z.f_cons, Z.i_rng, Z.i_ov, Z.k_tru_b, Z.k_tru_i, Z.k_bin, Z.k_add, Z.k_sub, Z.k_mul, Z.k_fdiv, Z.k_mod, Z.k_pow, Z.k_app, Z.k_lapp, Z.k_cmp, Z.c_lt, Z.c_le, Z.c_gt, Z.c_ge, Z.c_eqi, Z.c_nei, Z.c_eqs, Z.c_nes, Z.c_ins, Z.c_int, Z.k_neg, Z.k_isN, Z.nn_0t, Z.nn_1t, Z.nn_0i, Z.nn_1i, Z.nn_0s, Z.nn_1s, Z.nn_0b, Z.nn_1b, Z.nn_0l, Z.nn_1l, Z.nn_0n, Z.nn_1n, Z.k_nt, Z.k_ntT, Z.k_an1, Z.k_an0, Z.k_anT1, Z.k_anT0, Z.k_or1, Z.k_or0, Z.k_orT1, Z.k_orT0, Z.k_ite1, Z.k_ite0, Z.k_ix, Z.k_ix2, Z.k_ixR, Z.k_ixr, Z.k_ref, Z.k_ref_i, Z.k_ref_s, Z.k_ref_b, Z.k_ref_n, Z.k_ref_t, Z.i_lst, Z.i_tup, Z.i_scr, Z.i_str, Z.i_dcs, Z.i_dci, Z.l_hit, Z.at_0, Z.at_1, Z.at_2, Z.at_3, Z.k_sl, Z.k_sl2, Z.k_sl3, Z.k_tup, Z.k_tup2, Z.k_lst, Z.k_lst2, Z.k_dct, Z.k_dct2, Z.v_nil, Z.v_cons, Z.k_pv, Z.k_c1, Z.k_c2, Z.k_c2k, Z.k_cb, Z.k_tk, Z.k_ret, Z.k_retX, Z.k_put, Z.k_putX, Z.tk_nil, Z.tk_v, Z.tk_r, Z.k_tv, Z.k_tr, Z.p_nil, Z.p_v0, Z.p_v1, Z.p_r, Z.r_nil, Z.r_in, Z.r_no, Z.k_bi, Z.pk_nil0, Z.pk_v, Z.pk_r, Z.some_bind, Z.b_lens, Z.b_lenl, Z.b_lent, Z.b_lenc, Z.b_inti, Z.b_str, Z.b_abs, Z.b_max, Z.b_min, Z.b_gcd, Z.b_all, Z.b_any, Z.k_isi, Z.k_isr, Z.k_mt, Z.k_mt2, Z.m_sw, Z.k_lc2, Z.k_a, Z.k_a2, Z.k_ar, Z.k_aref, Z.k_o, Z.k_f, Z.k_f2, Z.fm_s, Z.fm_i, Z.k_rng, Z.k_ov, Z.o_some, Z.x_nil, Z.x_cons, Z.k_sq, Z.k_sqr, Z.k_sqb, Z.k_sqc, Z.x_ex, Z.k_ex0, Z.x_set, Z.k_set, Z.x_mset, Z.k_ms, Z.k_ms2, Z.sm_nil, Z.sm_cons, Z.x_par, Z.k_par, Z.k_par2, Z.x_aug, Z.k_aug, Z.k_aug2a, Z.k_aug2s, Z.x_si, Z.k_si, Z.k_si1, Z.k_si2, Z.k_si3_0, Z.k_si3_1, Z.k_si3_2, Z.x_ret, Z.k_ret1, Z.x_retR, Z.k_retR, Z.x_retN, Z.x_if, Z.k_if1, Z.k_if0, Z.k_w0, Z.k_w1, Z.k_w2n, Z.k_w2c, Z.k_w2b, Z.k_w2r, Z.x_for, Z.fo_nil, Z.k_fon, Z.k_foc, Z.k_fob, Z.k_for2, Z.g_for, Z.g_lc, Z.x_brk, Z.x_cnt, Z.x_pas, Z.lk_0, Z.lk_S, Z.set_0, Z.set_S, Z.fz_i, Z.fz_s, Z.fz_b, Z.fz_n, Z.fz_t, Z.fz_l, Z.fz_c, Z.fl_nil, Z.fl_cons, Z.e_ret, Z.e_nx, ↓reduceIte, List.length_cons, List.length_nil, Nat.reduceAdd, Nat.reduceLeDiff, Nat.zero_le, List.mem_cons, List.not_mem_nil, or_false, or_true, false_or, true_or, Nat.reduceEqDiff, not_false_eq_true, reduceCtorEq, Option.map_some, List.cons.injEq, and_true, true_and, and_false, false_and, decide_true, decide_false, Bool.not_true, Bool.not_false, ne_eq, Nat.reduceMul, Nat.reduceSub, List.map_cons, List.map_nil, List.replicate, List.cons_append, List.nil_append, List.append_nil, List.length_append, Nat.zero_add, List.append_assoc, d1, c1, c2, hf, hf2, d2, hs]
          rfl
theorem chain_loop (k : Nat) : ∀ (l : List D) (n : Nat) (w : D) (p : Pt) (t m : Option D), Wl n w → n + 7 * l.length < 2 ^ 37 → p.ok → ∃ (p' : Pt) (w' : D) (t' m' : Option D), forF (Z.gFor 2) (evSs (call Φ (k + 2)) eChain) l [some w, some p.D, t, m] = .ok .nx [some w', some p'.D, t', m'] ∧
    p'.ok ∧ p'.dp ≤ p.dp + l.length ∧ p'.sz ≤ p.sz + 2 * l.length ∧ Wl (n + 7 * l.length) w'
  | [], n, w, p, t, m, h, _, hp => ⟨p, w, t, m, rfl, hp, Nat.le_refl _, Nat.le_refl _, h⟩
  | d :: l, n, w, p, t, m, h, hn, hp => by
    rw [List.length_cons] at hn
    obtain ⟨p1, w1, m1, e1, a1, a2, a3, a4⟩ := chain_turn k (t := some d) (m := m) h (by omega) hp
    obtain ⟨p2, w2, t2, m2, e2, b1, b2, b3, b4⟩ := chain_loop k l (n + 7) w1 p1 (some d) m1 a4 (by omega) a1
    refine ⟨p2, w2, t2, m2, ?_, b1, by rw [List.length_cons]; omega, by rw [List.length_cons]; omega, b4.mono (by rw [List.length_cons]; omega)⟩
    rw [Z.fo_cons]
    have : evSs (call Φ (k + 2)) eChain (Z.gFor 2 d [some w, some p.D, t, m]) = .ok .nx [some w1, some p1.D, some d, m1] := e1
    rw [this, Out.bind_ok, Z.k_fon, e2]
theorem chain_ok (k : Nat) {n : Nat} {w : D} (h : Wl n w) (hn : n + 200 < 2 ^ 37) : ∃ (p : Pt) (w' : D), call Φ (k + 3) 19 [w] = .ok p.D [w'] ∧ p.ok ∧ p.dp ≤ 20 ∧ p.sz ≤ 50 ∧ Wl (n + 200) w' := by
  rw [Z.run_S (fn := ⟨1, [0], 4, b19⟩) rfl rfl]
  obtain ⟨p, w1, d1, a1, a2⟩ := leaf_ok k h (by omega)
  obtain ⟨a3, a4, a5⟩ := Pt.leaf_ok a1
  obtain ⟨m, w2, d2, b1, b2, b3⟩ := dip_ok (k + 1) a2 (by omega) (m := 20) (by decide) (by decide)
  have d2 : call Φ (k + 2) 12 [w1, .int 20] = .ok (.int m) [w2] := d2
  have hl : (rngL m.toNat).length = m.toNat := by unfold rngL; rw [List.length_map, List.length_range]
  obtain ⟨p2, w3, t, m3, e3, c1, c2, c3, c4⟩ := chain_loop k (rngL m.toNat) (n + 2 + 1) w2 p none none b3 (by omega) a3
  unfold eChain at e3
  have hr : -(2 ^ 62 : Int) ≤ m ∧ m < 2 ^ 62 := by omega
  have hf2 := p2.fz
  refine ⟨p2, w3, ?_, c1, by omega, by omega, c4.mono (by omega)⟩
  simp -implicitDefEqProofs only [b19, Out.bind_ok, Out.bind_exc, Z.s_con, Z.s_var, Z.k_var, Z.s_tup, Z.s_lst, Z.s_dct, Z.s_bin, Z.s_neg, Z.s_cmp, Z.s_isN, Z.s_nt, Z.s_an, Z.s_or, Z.s_ite, Z.s_ixV, Z.s_ixR, Z.s_sl, Z.s_call, Z.s_bi, Z.s_isiV, Z.s_isiR, Z.s_mt, Z.s_fs, Z.s_lc, Z.t_con, Z.t_var, Z.t_bin, Z.t_cmp, Z.t_isN, Z.t_nt, Z.t_an, Z.t_or, Z.t_ixV, Z.t_ixR, Z.t_call, Z.t_bi, Z.t_isiV, Z.t_isiR, Z.t_mt, Z.a_nil, Z.a_val, Z.a_ref, Z.o_non, Z.o_som, Z.f_nil, Z.f_cons, Z.i_rng, Z.i_ov, Z.k_tru_b, Z.k_tru_i, Z.k_bin, Z.k_add, Z.k_sub, Z.k_mul, Z.k_fdiv, Z.k_mod, Z.k_pow, Z.k_app, Z.k_lapp, Z.k_cmp, Z.c_lt, Z.c_le, Z.c_gt, Z.c_ge, Z.c_eqi, Z.c_nei, Z.c_eqs, Z.c_nes, Z.c_ins, Z.c_int, Z.k_neg, Z.k_isN, Z.nn_0t, Z.nn_1t, Z.nn_0i, Z.nn_1i, Z.nn_0s, Z.nn_1s, Z.nn_0b, Z.nn_1b, Z.nn_0l, Z.nn_1l, Z.nn_0n, Z.nn_1n, Z.k_nt, Z.k_ntT, Z.k_an1, Z.k_an0, Z.k_anT1, Z.k_anT0, Z.k_or1, Z.k_or0, Z.k_orT1, Z.k_orT0, Z.k_ite1, Z.k_ite0, Z.k_ix, Z.k_ix2, Z.k_ixR, Z.k_ixr, Z.k_ref, Z.k_ref_i, Z.k_ref_s, Z.k_ref_b, Z.k_ref_n, Z.k_ref_t, Z.i_lst, Z.i_tup, Z.i_scr, Z.i_str, Z.i_dcs, Z.i_dci, Z.l_hit, Z.at_0, Z.at_1, Z.at_2, Z.at_3, Z.k_sl, Z.k_sl2, Z.k_sl3, Z.k_tup, Z.k_tup2, Z.k_lst, Z.k_lst2, Z.k_dct, Z.k_dct2, Z.v_nil, Z.v_cons, Z.k_pv, Z.k_c1, Z.k_c2, Z.k_c2k, Z.k_cb, Z.k_tk, Z.k_ret, Z.k_retX, Z.k_put, Z.k_putX, Z.tk_nil, Z.tk_v, Z.tk_r, Z.k_tv, Z.k_tr, Z.p_nil, Z.p_v0, Z.p_v1, Z.p_r, Z.r_nil, Z.r_in, Z.r_no, Z.k_bi, Z.pk_nil0, Z.pk_v, Z.pk_r, Z.some_bind, Z.b_lens, Z.b_lenl, Z.b_lent, Z.b_lenc, Z.b_inti, Z.b_str, Z.b_abs, Z.b_max, Z.b_min, Z.b_gcd, Z.b_all, Z.b_any, Z.k_isi, Z.k_isr, Z.k_mt, Z.k_mt2, Z.m_sw, Z.k_lc2, Z.k_a, Z.k_a2, Z.k_ar, Z.k_aref, Z.k_o, Z.k_f, Z.k_f2, Z.fm_s, Z.fm_i, Z.k_rng, Z.k_ov, Z.o_some, Z.x_nil, Z.x_cons, Z.k_sq, Z.k_sqr, Z.k_sqb, Z.k_sqc, Z.x_ex, Z.k_ex0, Z.x_set, Z.k_set, Z.x_mset, Z.k_ms, Z.k_ms2, Z.sm_nil, Z.sm_cons, Z.x_par, Z.k_par, Z.k_par2, Z.x_aug, Z.k_aug, Z.k_aug2a, Z.k_aug2s, Z.x_si, Z.k_si, Z.k_si1, Z.k_si2, Z.k_si3_0, Z.k_si3_1, Z.k_si3_2, Z.x_ret, Z.k_ret1, Z.x_retR, Z.k_retR, Z.x_retN, Z.x_if, Z.k_if1, Z.k_if0, Z.k_w0, Z.k_w1, Z.k_w2n, Z.k_w2c, Z.k_w2b, Z.k_w2r, Z.x_for, Z.fo_nil, Z.k_fon, Z.k_foc, Z.k_fob, Z.k_for2, Z.g_for, Z.g_lc, Z.x_brk, Z.x_cnt, Z.x_pas, Z.lk_0, Z.lk_S, Z.set_0, Z.set_S, Z.fz_i, Z.fz_s, Z.fz_b, Z.fz_n, Z.fz_t, Z.fz_l, Z.fz_c, Z.fl_nil, Z.fl_cons, Z.e_ret, Z.e_nx, ↓reduceIte, List.length_cons, List.length_nil, Nat.reduceAdd, Nat.reduceLeDiff, Nat.zero_le, List.mem_cons, List.not_mem_nil, or_false, or_true, false_or, true_or, Nat.reduceEqDiff, not_false_eq_true, reduceCtorEq, Option.map_some, List.cons.injEq, and_true, true_and, and_false, false_and, decide_true, decide_false, Bool.not_true, Bool.not_false, ne_eq, Nat.reduceMul, Nat.reduceSub, List.map_cons, List.map_nil, List.replicate, List.cons_append, List.nil_append, List.append_nil, List.length_append, Nat.zero_add, List.append_assoc, d1, d2, hr, Z.k_for, e3]
  rw [Z.e_ret1 rfl]
end K85

namespace K85
open PySem Ev
/-! reading: what stands at a place -/
def At (s : List Nat) (a : Int) (u : List Nat) : Prop := ∃ i : Nat, a = (i : Int) ∧ i ≤ s.length ∧ s.drop i = u
theorem At.cut {s u : List Nat} {a : Int} (h : At s a u) (m : Nat) : cutL s (some a) (some (a + (m : Int))) = u.take m := by
  obtain ⟨i, rfl, hi, rfl⟩ := h
  unfold cutL
  rw [HT.sIx_nat, show ((i : Int) + (m : Int)) = ((i + m : Nat) : Int) by omega, HT.sIx_nat, Nat.min_eq_left hi]
  rw [show min (i + m) s.length - i = min m (s.length - i) by omega, ← List.length_drop, ← List.take_eq_take_min]
theorem At.cut1 {s u : List Nat} {a : Int} (h : At s a u) : cutL s (some a) (some (a + 1)) = u.take 1 := h.cut 1
theorem At.cut3 {s u : List Nat} {a : Int} (h : At s a u) : cutL s (some a) (some (a + 3)) = u.take 3 := h.cut 3
theorem At.step {s x u : List Nat} {a : Int} (h : At s a (x ++ u)) : At s (a + (x.length : Int)) u := by
  obtain ⟨i, rfl, hi, e⟩ := h
  have hl : i + x.length ≤ s.length := by
    have := congrArg List.length e
    rw [List.length_drop, List.length_append] at this
    omega
  exact ⟨i + x.length, by omega, hl, by rw [← List.drop_drop, e, List.drop_left]⟩
theorem At.step1 {s u : List Nat} {c : Nat} {a : Int} (h : At s a (c :: u)) : At s (a + 1) u := At.step (x := [c]) h
theorem At.step3 {s u : List Nat} {c d e : Nat} {a : Int} (h : At s a (c :: d :: e :: u)) : At s (a + 3) u := At.step (x := [c, d, e]) h
theorem At.lt {s u : List Nat} {c : Nat} {a : Int} (h : At s a (c :: u)) : a < (s.length : Int) ∧ L2.atI s a = some c := by
  obtain ⟨i, rfl, hi, e⟩ := h
  have hl : i < s.length := by
    have := congrArg List.length e
    rw [List.length_drop, List.length_cons] at this
    omega
  refine ⟨by omega, L2.atI_nat ?_⟩
  have := congrArg List.head? e
  rw [List.head?_drop] at this
  exact this
theorem At.end {s : List Nat} {a : Int} (h : At s a []) : ¬ a < (s.length : Int) := by
  obtain ⟨i, rfl, hi, e⟩ := h
  have := congrArg List.length e
  rw [List.length_drop, List.length_nil] at this
  omega
/-! what may follow -/
def Fo (r : List Nat) : Prop := r = [] ∨ ∃ c t, r = c :: t ∧ (c = 93 ∨ c = 41 ∨ c = 32)
def Fs (r : List Nat) : Prop := Fo r ∨ ∃ t, r = 42 :: t
def NS : List Nat := [45, 47, 48, 49, 50, 51, 52, 53, 54, 55, 56, 57]
theorem ns_iff {c : Nat} : c ∈ NS ↔ c = 45 ∨ c = 47 ∨ (48 ≤ c ∧ c ≤ 57) := by
  unfold NS
  simp only [List.mem_cons, List.not_mem_nil, or_false]
  omega
def Stop (r : List Nat) : Prop := r = [] ∨ ∃ c t, r = c :: t ∧ c ∉ NS
theorem Fs.stop {r : List Nat} (h : Fs r) : Stop r ∧ r.take 1 ≠ [91] := by
  rcases h with (rfl | ⟨c, t, rfl, hc⟩) | ⟨t, rfl⟩
  · exact ⟨.inl rfl, by simp⟩
  · exact ⟨.inr ⟨c, t, rfl, by rw [ns_iff]; omega⟩, by simp; omega⟩
  · exact ⟨.inr ⟨42, t, rfl, by rw [ns_iff]; omega⟩, by simp⟩
/-! weighed_at: the word -/
def eWt : Ex := (.an (.cmp .lt (.var 2) (.bi .len (.cons .ref (.var 0) .nil))) (.cmp .inn (.ix .ref (.var 0) (.var 2)) (.con (.str [45, 47, 48, 49, 50, 51, 52, 53, 54, 55, 56, 57]))))
def eWb : Sts := (.cons (.set 2 (.bin .add (.var 2) (.con (.int 1)))) .nil)
theorem word_loop {cf : CF} {s : List Nat} (hs : s.length ≤ 16777216) {a0 : D} : ∀ (x u : List Nat) (a : Int) (n : Nat), At s a (x ++ u) → (∀ c ∈ x, c ∈ NS) → Stop u → x.length < n →
    whileF (evT cf eWt) (evSs cf eWb) n [some (.str s), some a0, some (.int a), none, none, none] = .ok .nx [some (.str s), some a0, some (.int (a + (x.length : Int))), none, none, none]
  | _, _, _, 0, _, _, _, h => absurd h (Nat.not_lt_zero _)
  | [], u, a, n + 1, ha, _, hu, _ => by
    have ha : At s a u := ha
    rw [Z.w_S]
    have e : evT cf eWt [some (.str s), some a0, some (.int a), none, none, none] = .ok false [some (.str s), some a0, some (.int a), none, none, none] := by
      rcases hu with rfl | ⟨c, t, rfl, hc⟩
      · have := ha.end
        simp -implicitDefEqProofs only [eWt, Out.bind_ok, Out.bind_exc, Z.s_con, Z.s_var, Z.k_var, Z.s_tup, Z.s_lst, Z.s_dct, Z.s_bin, Z.s_neg, Z.s_cmp, Z.s_isN, Z.s_nt, Z.s_an, Z.s_or, Z.s_ite, Z.s_ixV, Z.s_ixR, Z.s_sl, Z.s_call, Z.s_bi, Z.s_isiV, Z.s_isiR, Z.s_mt, Z.s_fs, Z.s_lc, Z.t_con, Z.t_var, Z.t_bin, Z.t_cmp, Z.t_isN, Z.t_nt, Z.t_an, Z.t_or, Z.t_ixV, Z.t_ixR, Z.t_call, Z.t_bi, Z.t_isiV, Z.t_isiR, Z.t_mt, Z.a_nil, Z.a_val, Z.a_ref, Z.o_non, Z.o_som, Z.f_nil, Z.f_cons, Z.i_rng, Z.i_ov, Z.k_tru_b, Z.k_tru_i, Z.k_bin, Z.k_add, Z.k_sub, Z.k_mul, Z.k_fdiv, Z.k_mod, Z.k_pow, Z.k_app, Z.k_lapp, Z.k_cmp, Z.c_lt, Z.c_le, Z.c_gt, Z.c_ge, Z.c_eqi, Z.c_nei, Z.c_eqs, Z.c_nes, Z.c_ins, Z.c_int, Z.k_neg, Z.k_isN, Z.nn_0t, Z.nn_1t, Z.nn_0i, Z.nn_1i, Z.nn_0s, Z.nn_1s, Z.nn_0b, Z.nn_1b, Z.nn_0l, Z.nn_1l, Z.nn_0n, Z.nn_1n, Z.k_nt, Z.k_ntT, Z.k_an1, Z.k_an0, Z.k_anT1, Z.k_anT0, Z.k_or1, Z.k_or0, Z.k_orT1, Z.k_orT0, Z.k_ite1, Z.k_ite0, Z.k_ix, Z.k_ix2, Z.k_ixR, Z.k_ixr, Z.k_ref, Z.k_ref_i, Z.k_ref_s, Z.k_ref_b, Z.k_ref_n, Z.k_ref_t, Z.i_lst, Z.i_tup, Z.i_scr, Z.i_str, Z.i_dcs, Z.i_dci, Z.l_hit, Z.at_0, Z.at_1, Z.at_2, Z.at_3, Z.k_sl, Z.k_sl2, Z.k_sl3, Z.k_tup, Z.k_tup2, Z.k_lst, Z.k_lst2, Z.k_dct, Z.k_dct2, Z.v_nil, Z.v_cons, Z.k_pv, Z.k_c1, Z.k_c2, Z.k_c2k, Z.k_cb, Z.k_tk, Z.k_ret, Z.k_retX, Z.k_put, Z.k_putX, Z.tk_nil, Z.tk_v, Z.tk_r, Z.k_tv, Z.k_tr, Z.p_nil, Z.p_v0, Z.p_v1, Z.p_r, Z.r_nil, Z.r_in, Z.r_no, Z.k_bi, Z.pk_nil0, Z.pk_v, Z.pk_r, Z.some_bind, Z.b_lens, Z.b_lenl, Z.b_lent, Z.b_lenc, Z.b_inti, Z.b_str, Z.b_abs, Z.b_max, Z.b_min, Z.b_gcd, Z.b_all, Z.b_any, Z.k_isi, Z.k_isr, Z.k_mt, Z.k_mt2, Z.m_sw, Z.k_lc2, Z.k_a, Z.k_a2, Z.k_ar, Z.k_aref, Z.k_o, Z.k_f, Z.k_f2, Z.fm_s, Z.fm_i, Z.k_rng, Z.k_ov, Z.o_some, Z.x_nil, Z.x_cons, Z.k_sq, Z.k_sqr, Z.k_sqb, Z.k_sqc, Z.x_ex, Z.k_ex0, Z.x_set, Z.k_set, Z.x_mset, Z.k_ms, Z.k_ms2, Z.sm_nil, Z.sm_cons, Z.x_par, Z.k_par, Z.k_par2, Z.x_aug, Z.k_aug, Z.k_aug2a, Z.k_aug2s, Z.x_si, Z.k_si, Z.k_si1, Z.k_si2, Z.k_si3_0, Z.k_si3_1, Z.k_si3_2, Z.x_ret, Z.k_ret1, Z.x_retR, Z.k_retR, Z.x_retN, Z.x_if, Z.k_if1, Z.k_if0, Z.k_w0, Z.k_w1, Z.k_w2n, Z.k_w2c, Z.k_w2b, Z.k_w2r, Z.x_for, Z.fo_nil, Z.k_fon, Z.k_foc, Z.k_fob, Z.k_for2, Z.g_for, Z.g_lc, Z.x_brk, Z.x_cnt, Z.x_pas, Z.lk_0, Z.lk_S, Z.set_0, Z.set_S, Z.fz_i, Z.fz_s, Z.fz_b, Z.fz_n, Z.fz_t, Z.fz_l, Z.fz_c, Z.fl_nil, Z.fl_cons, Z.e_ret, Z.e_nx, ↓reduceIte, List.length_cons, List.length_nil, Nat.reduceAdd, Nat.reduceLeDiff, Nat.zero_le, List.mem_cons, List.not_mem_nil, or_false, or_true, false_or, true_or, Nat.reduceEqDiff, not_false_eq_true, reduceCtorEq, Option.map_some, List.cons.injEq, and_true, true_and, and_false, false_and, decide_true, decide_false, Bool.not_true, Bool.not_false, ne_eq, Nat.reduceMul, Nat.reduceSub, List.map_cons, List.map_nil, List.replicate, List.cons_append, List.nil_append, List.append_nil, List.length_append, Nat.zero_add, List.append_assoc, hs, this]
      · obtain ⟨h1, h2⟩ := ha.lt
        have hc : ¬ (c ∈ [45, 47, 48, 49, 50, 51, 52, 53, 54, 55, 56, 57]) := hc
        rw [decide_eq_false hc |> fun e => show evT cf eWt [some (.str s), some a0, some (.int a), none, none, none] = .ok (decide (c ∈ [45, 47, 48, 49, 50, 51, 52, 53, 54, 55, 56, 57])) [some (.str s), some a0, some (.int a), none, none, none] by simp -implicitDefEqProofs only [eWt, Out.bind_ok, Out.bind_exc, Z.s_con, Z.s_var, Z.k_var, Z.s_tup, Z.s_lst, Z.s_dct, Z.s_bin, Z.s_neg, Z.s_cmp, Z.s_isN, Z.s_nt, Z.s_an, Z.s_or, Z.s_ite, Z.s_ixV, Z.s_ixR, Z.s_sl, Z.s_call, Z.s_bi, Z.s_isiV, Z.s_isiR, Z.s_mt, Z.s_fs, Z.s_lc, Z.t_con, Z.t_var, Z.t_bin, Z.t_cmp, Z.t_isN, Z.t_nt, Z.t_an, Z.t_or, Z.t_ixV, Z.t_ixR, Z.t_call, Z.t_bi, Z.t_isiV, Z.t_isiR, Z.t_mt, Z.a_nil, Z.a_val, Z.a_ref, Z.o_non, Z.o_som, Z.f_nil, Z.f_cons, Z.i_rng, Z.i_ov, Z.k_tru_b, Z.k_tru_i, Z.k_bin, Z.k_add, Z.k_sub, Z.k_mul, Z.k_fdiv, Z.k_mod, Z.k_pow, Z.k_app, Z.k_lapp, Z.k_cmp, Z.c_lt, Z.c_le, Z.c_gt, Z.c_ge, Z.c_eqi, Z.c_nei, Z.c_eqs, Z.c_nes, Z.c_ins, Z.c_int, Z.k_neg, Z.k_isN, Z.nn_0t, Z.nn_1t, Z.nn_0i, Z.nn_1i, Z.nn_0s, Z.nn_1s, Z.nn_0b, Z.nn_1b, Z.nn_0l, Z.nn_1l, Z.nn_0n, Z.nn_1n, Z.k_nt, Z.k_ntT, Z.k_an1, Z.k_an0, Z.k_anT1, Z.k_anT0, Z.k_or1, Z.k_or0, Z.k_orT1, Z.k_orT0, Z.k_ite1, Z.k_ite0, Z.k_ix, Z.k_ix2, Z.k_ixR, Z.k_ixr, Z.k_ref, Z.k_ref_i, Z.k_ref_s, Z.k_ref_b, Z.k_ref_n, Z.k_ref_t, Z.i_lst, Z.i_tup, Z.i_scr, Z.i_str, Z.i_dcs, Z.i_dci, Z.l_hit, Z.at_0, Z.at_1, Z.at_2, Z.at_3, Z.k_sl, Z.k_sl2, Z.k_sl3, Z.k_tup, Z.k_tup2, Z.k_lst, Z.k_lst2, Z.k_dct, Z.k_dct2, Z.v_nil, Z.v_cons, Z.k_pv, Z.k_c1, Z.k_c2, Z.k_c2k, Z.k_cb, Z.k_tk, Z.k_ret, Z.k_retX, Z.k_put, Z.k_putX, Z.tk_nil, Z.tk_v, Z.tk_r, Z.k_tv, Z.k_tr, Z.p_nil, Z.p_v0, Z.p_v1, Z.p_r, Z.r_nil, Z.r_in, Z.r_no, Z.k_bi, Z.pk_nil0, Z.pk_v, Z.pk_r, Z.some_bind, Z.b_lens, Z.b_lenl, Z.b_lent, Z.b_lenc, Z.b_inti, Z.b_str, Z.b_abs, Z.b_max, Z.b_min, Z.b_gcd, Z.b_all, Z.b_any, Z.k_isi, Z.k_isr, Z.k_mt, Z.k_mt2, Z.m_sw, Z.k_lc2, Z.k_a, Z.k_a2, Z.k_ar, Z.k_aref, Z.k_o, Z.k_f, Z.k_f2, Z.fm_s, Z.fm_i, Z.k_rng, Z.k_ov, Z.o_some, Z.x_nil, Z.x_cons, Z.k_sq, Z.k_sqr, Z.k_sqb, Z.k_sqc, Z.x_ex, Z.k_ex0, Z.x_set, Z.k_set, Z.x_mset, Z.k_ms, Z.k_ms2, Z.sm_nil, Z.sm_cons, Z.x_par, Z.k_par, Z.k_par2, Z.x_aug, Z.k_aug, Z.k_aug2a, Z.k_aug2s, Z.x_si, Z.k_si, Z.k_si1, Z.k_si2, Z.k_si3_0, Z.k_si3_1, Z.k_si3_2, Z.x_ret, Z.k_ret1, Z.x_retR, Z.k_retR, Z.x_retN, Z.x_if, Z.k_if1, Z.k_if0, Z.k_w0, Z.k_w1, Z.k_w2n, Z.k_w2c, Z.k_w2b, Z.k_w2r, Z.x_for, Z.fo_nil, Z.k_fon, Z.k_foc, Z.k_fob, Z.k_for2, Z.g_for, Z.g_lc, Z.x_brk, Z.x_cnt, Z.x_pas, Z.lk_0, Z.lk_S, Z.set_0, Z.set_S, Z.fz_i, Z.fz_s, Z.fz_b, Z.fz_n, Z.fz_t, Z.fz_l, Z.fz_c, Z.fl_nil, Z.fl_cons, Z.e_ret, Z.e_nx, ↓reduceIte, List.length_cons, List.length_nil, Nat.reduceAdd, Nat.reduceLeDiff, Nat.zero_le, List.mem_cons, List.not_mem_nil, or_false, or_true, false_or, true_or, Nat.reduceEqDiff, not_false_eq_true, reduceCtorEq, Option.map_some, List.cons.injEq, and_true, true_and, and_false, false_and, decide_true, decide_false, Bool.not_true, Bool.not_false, ne_eq, Nat.reduceMul, Nat.reduceSub, List.map_cons, List.map_nil, List.replicate, List.cons_append, List.nil_append, List.append_nil, List.length_append, Nat.zero_add, List.append_assoc, hs, h1, h2], decide_eq_false hc]
    rw [e, Out.bind_ok, Z.k_w0]
    simp
  | c :: x, u, a, n + 1, ha, hx, hu, hn => by
    obtain ⟨h1, h2⟩ := At.lt (u := x ++ u) ha
    have hc : c ∈ [45, 47, 48, 49, 50, 51, 52, 53, 54, 55, 56, 57] := hx c List.mem_cons_self
    have ih := word_loop hs (cf := cf) (a0 := a0) x u (a + 1) n ha.step1 (fun d hd => hx d (List.mem_cons_of_mem _ hd)) hu (by rw [List.length_cons] at hn; omega)
    rw [Z.w_S]
    have e : evT cf eWt [some (.str s), some a0, some (.int a), none, none, none] = .ok (decide (c ∈ [45, 47, 48, 49, 50, 51, 52, 53, 54, 55, 56, 57])) [some (.str s), some a0, some (.int a), none, none, none] := by
      simp -implicitDefEqProofs only [eWt, Out.bind_ok, Out.bind_exc, Z.s_con, Z.s_var, Z.k_var, Z.s_tup, Z.s_lst, Z.s_dct, Z.s_bin, Z.s_neg, Z.s_cmp, Z.s_isN, Z.s_nt, Z.s_an, Z.s_or, Z.s_ite, Z.s_ixV, Z.s_ixR, Z.s_sl, Z.s_call, Z.s_bi, Z.s_isiV, Z.s_isiR, Z.s_mt, Z.s_fs, Z.s_lc, Z.t_con, Z.t_var, Z.t_bin, Z.t_cmp, Z.t_isN, Z.t_nt, Z.t_an, Z.t_or, Z.t_ixV, Z.t_ixR, Z.t_call, Z.t_bi, Z.t_isiV, Z.t_isiR, Z.t_mt, Z.a_nil, Z.a_val, Z.a_ref, Z.o_non, Z.o_som, Z.f_nil, Z.f_cons, Z.i_rng, Z.i_ov, Z.k_tru_b, Z.k_tru_i, Z.k_bin, Z.k_add, Z.k_sub, Z.k_mul, Z.k_fdiv, Z.k_mod, Z.k_pow, Z.k_app, Z.k_lapp, Z.k_cmp, Z.c_lt, Z.c_le, Z.c_gt, Z.c_ge, Z.c_eqi, Z.c_nei, Z.c_eqs, Z.c_nes, Z.c_ins, Z.c_int, Z.k_neg, Z.k_isN, Z.nn_0t, Z.nn_1t, Z.nn_0i, Z.nn_1i, Z.nn_0s, Z.nn_1s, Z.nn_0b, Z.nn_1b, Z.nn_0l, Z.nn_1l, Z.nn_0n, Z.nn_1n, Z.k_nt, Z.k_ntT, Z.k_an1, Z.k_an0, Z.k_anT1, Z.k_anT0, Z.k_or1, Z.k_or0, Z.k_orT1, Z.k_orT0, Z.k_ite1, Z.k_ite0, Z.k_ix, Z.k_ix2, Z.k_ixR, Z.k_ixr, Z.k_ref, Z.k_ref_i, Z.k_ref_s, Z.k_ref_b, Z.k_ref_n, Z.k_ref_t, Z.i_lst, Z.i_tup, Z.i_scr, Z.i_str, Z.i_dcs, Z.i_dci, Z.l_hit, Z.at_0, Z.at_1, Z.at_2, Z.at_3, Z.k_sl, Z.k_sl2, Z.k_sl3, Z.k_tup, Z.k_tup2, Z.k_lst, Z.k_lst2, Z.k_dct, Z.k_dct2, Z.v_nil, Z.v_cons, Z.k_pv, Z.k_c1, Z.k_c2, Z.k_c2k, Z.k_cb, Z.k_tk, Z.k_ret, Z.k_retX, Z.k_put, Z.k_putX, Z.tk_nil, Z.tk_v, Z.tk_r, Z.k_tv, Z.k_tr, Z.p_nil, Z.p_v0, Z.p_v1, Z.p_r, Z.r_nil, Z.r_in, Z.r_no, Z.k_bi, Z.pk_nil0, Z.pk_v, Z.pk_r, Z.some_bind, Z.b_lens, Z.b_lenl, Z.b_lent, Z.b_lenc, Z.b_inti, Z.b_str, Z.b_abs, Z.b_max, Z.b_min, Z.b_gcd, Z.b_all, Z.b_any, Z.k_isi, Z.k_isr, Z.k_mt, Z.k_mt2, Z.m_sw, Z.k_lc2, Z.k_a, Z.k_a2, Z.k_ar, Z.k_aref, Z.k_o, Z.k_f, Z.k_f2, Z.fm_s, Z.fm_i, Z.k_rng, Z.k_ov, Z.o_some, Z.x_nil, Z.x_cons, Z.k_sq, Z.k_sqr, Z.k_sqb, Z.k_sqc, Z.x_ex, Z.k_ex0, Z.x_set, Z.k_set, Z.x_mset, Z.k_ms, Z.k_ms2, Z.sm_nil, Z.sm_cons, Z.x_par, Z.k_par, Z.k_par2, Z.x_aug, Z.k_aug, Z.k_aug2a, Z.k_aug2s, Z.x_si, Z.k_si, Z.k_si1, Z.k_si2, Z.k_si3_0, Z.k_si3_1, Z.k_si3_2, Z.x_ret, Z.k_ret1, Z.x_retR, Z.k_retR, Z.x_retN, Z.x_if, Z.k_if1, Z.k_if0, Z.k_w0, Z.k_w1, Z.k_w2n, Z.k_w2c, Z.k_w2b, Z.k_w2r, Z.x_for, Z.fo_nil, Z.k_fon, Z.k_foc, Z.k_fob, Z.k_for2, Z.g_for, Z.g_lc, Z.x_brk, Z.x_cnt, Z.x_pas, Z.lk_0, Z.lk_S, Z.set_0, Z.set_S, Z.fz_i, Z.fz_s, Z.fz_b, Z.fz_n, Z.fz_t, Z.fz_l, Z.fz_c, Z.fl_nil, Z.fl_cons, Z.e_ret, Z.e_nx, ↓reduceIte, List.length_cons, List.length_nil, Nat.reduceAdd, Nat.reduceLeDiff, Nat.zero_le, List.mem_cons, List.not_mem_nil, or_false, or_true, false_or, true_or, Nat.reduceEqDiff, not_false_eq_true, reduceCtorEq, Option.map_some, List.cons.injEq, and_true, true_and, and_false, false_and, decide_true, decide_false, Bool.not_true, Bool.not_false, ne_eq, Nat.reduceMul, Nat.reduceSub, List.map_cons, List.map_nil, List.replicate, List.cons_append, List.nil_append, List.append_nil, List.length_append, Nat.zero_add, List.append_assoc, hs, h1, h2]
    rw [e, decide_eq_true hc, Out.bind_ok, Z.k_w1]
    have e2 : evSs cf eWb [some (.str s), some a0, some (.int a), none, none, none] = .ok .nx [some (.str s), some a0, some (.int (a + 1)), none, none, none] := by
      simp -implicitDefEqProofs only [eWb, Out.bind_ok, Out.bind_exc, Z.s_con, Z.s_var, Z.k_var, Z.s_tup, Z.s_lst, Z.s_dct, Z.s_bin, Z.s_neg, Z.s_cmp, Z.s_isN, Z.s_nt, Z.s_an, Z.s_or, Z.s_ite, Z.s_ixV, Z.s_ixR, Z.s_sl, Z.s_call, Z.s_bi, Z.s_isiV, Z.s_isiR, Z.s_mt, Z.s_fs, Z.s_lc, Z.t_con, Z.t_var, Z.t_bin, Z.t_cmp, Z.t_isN, Z.t_nt, Z.t_an, Z.t_or, Z.t_ixV, Z.t_ixR, Z.t_call, Z.t_bi, Z.t_isiV, Z.t_isiR, Z.t_mt, Z.a_nil, Z.a_val, Z.a_ref, Z.o_non, Z.o_som, Z.f_nil, Z.f_cons, Z.i_rng, Z.i_ov, Z.k_tru_b, Z.k_tru_i, Z.k_bin, Z.k_add, Z.k_sub, Z.k_mul, Z.k_fdiv, Z.k_mod, Z.k_pow, Z.k_app, Z.k_lapp, Z.k_cmp, Z.c_lt, Z.c_le, Z.c_gt, Z.c_ge, Z.c_eqi, Z.c_nei, Z.c_eqs, Z.c_nes, Z.c_ins, Z.c_int, Z.k_neg, Z.k_isN, Z.nn_0t, Z.nn_1t, Z.nn_0i, Z.nn_1i, Z.nn_0s, Z.nn_1s, Z.nn_0b, Z.nn_1b, Z.nn_0l, Z.nn_1l, Z.nn_0n, Z.nn_1n, Z.k_nt, Z.k_ntT, Z.k_an1, Z.k_an0, Z.k_anT1, Z.k_anT0, Z.k_or1, Z.k_or0, Z.k_orT1, Z.k_orT0, Z.k_ite1, Z.k_ite0, Z.k_ix, Z.k_ix2, Z.k_ixR, Z.k_ixr, Z.k_ref, Z.k_ref_i, Z.k_ref_s, Z.k_ref_b, Z.k_ref_n, Z.k_ref_t, Z.i_lst, Z.i_tup, Z.i_scr, Z.i_str, Z.i_dcs, Z.i_dci, Z.l_hit, Z.at_0, Z.at_1, Z.at_2, Z.at_3, Z.k_sl, Z.k_sl2, Z.k_sl3, Z.k_tup, Z.k_tup2, Z.k_lst, Z.k_lst2, Z.k_dct, Z.k_dct2, Z.v_nil, Z.v_cons, Z.k_pv, Z.k_c1, Z.k_c2, Z.k_c2k, Z.k_cb, Z.k_tk, Z.k_ret, Z.k_retX, Z.k_put, Z.k_putX, Z.tk_nil, Z.tk_v, Z.tk_r, Z.k_tv, Z.k_tr, Z.p_nil, Z.p_v0, Z.p_v1, Z.p_r, Z.r_nil, Z.r_in, Z.r_no, Z.k_bi, Z.pk_nil0, Z.pk_v, Z.pk_r, Z.some_bind, Z.b_lens, Z.b_lenl, Z.b_lent, Z.b_lenc, Z.b_inti, Z.b_str, Z.b_abs, Z.b_max, Z.b_min, Z.b_gcd, Z.b_all, Z.b_any, Z.k_isi, Z.k_isr, Z.k_mt, Z.k_mt2, Z.m_sw, Z.k_lc2, Z.k_a, Z.k_a2, Z.k_ar, Z.k_aref, Z.k_o, Z.k_f, Z.k_f2, Z.fm_s, Z.fm_i, Z.k_rng, Z.k_ov, Z.o_some, Z.x_nil, Z.x_cons, Z.k_sq, Z.k_sqr, Z.k_sqb, Z.k_sqc, Z.x_ex, Z.k_ex0, Z.x_set, Z.k_set, Z.x_mset, Z.k_ms, Z.k_ms2, Z.sm_nil, Z.sm_cons, Z.x_par, Z.k_par, Z.k_par2, Z.x_aug, Z.k_aug, Z.k_aug2a, Z.k_aug2s, Z.x_si, Z.k_si, Z.k_si1, Z.k_si2, Z.k_si3_0, Z.k_si3_1, Z.k_si3_2, Z.x_ret, Z.k_ret1, Z.x_retR, Z.k_retR, Z.x_retN, Z.x_if, Z.k_if1, Z.k_if0, Z.k_w0, Z.k_w1, Z.k_w2n, Z.k_w2c, Z.k_w2b, Z.k_w2r, Z.x_for, Z.fo_nil, Z.k_fon, Z.k_foc, Z.k_fob, Z.k_for2, Z.g_for, Z.g_lc, Z.x_brk, Z.x_cnt, Z.x_pas, Z.lk_0, Z.lk_S, Z.set_0, Z.set_S, Z.fz_i, Z.fz_s, Z.fz_b, Z.fz_n, Z.fz_t, Z.fz_l, Z.fz_c, Z.fl_nil, Z.fl_cons, Z.e_ret, Z.e_nx, ↓reduceIte, List.length_cons, List.length_nil, Nat.reduceAdd, Nat.reduceLeDiff, Nat.zero_le, List.mem_cons, List.not_mem_nil, or_false, or_true, false_or, true_or, Nat.reduceEqDiff, not_false_eq_true, reduceCtorEq, Option.map_some, List.cons.injEq, and_true, true_and, and_false, false_and, decide_true, decide_false, Bool.not_true, Bool.not_false, ne_eq, Nat.reduceMul, Nat.reduceSub, List.map_cons, List.map_nil, List.replicate, List.cons_append, List.nil_append, List.append_nil, List.length_append, Nat.zero_add, List.append_assoc]
    have e3 : a + 1 + (x.length : Int) = a + ((c :: x).length : Int) := by rw [List.length_cons]; omega
    rw [e2, Out.bind_ok, Z.k_w2n, ih, e3]
theorem weigh_word (K : Nat) {s x u : List Nat} {a : Int} (hs : s.length ≤ 16777216) (ha : At s a (x ++ u)) (hx : ∀ c ∈ x, c ∈ NS) (hu : Stop u) :
    whileF (evT (call Φ K) eWt) (evSs (call Φ K) eWb) turns [some (.str s), some (.int a), some (.int a), none, none, none] = .ok .nx [some (.str s), some (.int a), some (.int (a + (x.length : Int))), none, none, none] ∧ cutL s (some a) (some (a + (x.length : Int))) = x := by
  have hl : x.length ≤ s.length := by
    obtain ⟨i, rfl, hi, e⟩ := ha
    have := congrArg List.length e
    rw [List.length_drop, List.length_append] at this
    omega
  exact ⟨word_loop hs x u a turns ha hx hu (by unfold turns; omega), by rw [ha.cut, List.take_left]⟩
theorem weigh_non (K : Nat) {s u : List Nat} {a : Int} (hs : s.length ≤ 16777216) (ha : At s a (48 :: u)) (hu : Fs u) : call Φ (K + 1) 4 [.str s, .int a] = .ok (.tup [Pt.D .non, .int (a + 1)]) [] := by
  obtain ⟨h1, h2⟩ := hu.stop
  obtain ⟨w1, w2⟩ := weigh_word K (x := [48]) hs ha (by decide) h1
  have c1 := (ha.step1).cut1
  have n1 : (([48] : List Nat).length : Int) = 1 := rfl
  rw [n1] at w1 w2
  unfold eWt eWb at w1
  rw [Z.run_S (fn := ⟨2, [], 6, b4⟩) rfl rfl]
  simp -implicitDefEqProofs only [b4, Out.bind_ok, Out.bind_exc, Z.s_con, Z.s_var, Z.k_var, Z.s_tup, Z.s_lst, Z.s_dct, Z.s_bin, Z.s_neg, Z.s_cmp, Z.s_isN, Z.s_nt, Z.s_an, Z.s_or, Z.s_ite, Z.s_ixV, Z.s_ixR, Z.s_sl, Z.s_call, Z.s_bi, Z.s_isiV, Z.s_isiR, Z.s_mt, Z.s_fs, Z.s_lc, Z.t_con, Z.t_var, Z.t_bin, Z.t_cmp, Z.t_isN, Z.t_nt, Z.t_an, Z.t_or, Z.t_ixV, Z.t_ixR, Z.t_call, Z.t_bi, Z.t_isiV, Z.t_isiR, Z.t_mt, Z.a_nil, Z.a_val, Z.a_ref, Z.o_non, Z.o_som, Z.f_nil, Z.f_cons, Z.i_rng, Z.i_ov, Z.k_tru_b, Z.k_tru_i, Z.k_bin, Z.k_add, Z.k_sub, Z.k_mul, Z.k_fdiv, Z.k_mod, Z.k_pow, Z.k_app, Z.k_lapp, Z.k_cmp, Z.c_lt, Z.c_le, Z.c_gt, Z.c_ge, Z.c_eqi, Z.c_nei, Z.c_eqs, Z.c_nes, Z.c_ins, Z.c_int, Z.k_neg, Z.k_isN, Z.nn_0t, Z.nn_1t, Z.nn_0i, Z.nn_1i, Z.nn_0s, Z.nn_1s, Z.nn_0b, Z.nn_1b, Z.nn_0l, Z.nn_1l, Z.nn_0n, Z.nn_1n, Z.k_nt, Z.k_ntT, Z.k_an1, Z.k_an0, Z.k_anT1, Z.k_anT0, Z.k_or1, Z.k_or0, Z.k_orT1, Z.k_orT0, Z.k_ite1, Z.k_ite0, Z.k_ix, Z.k_ix2, Z.k_ixR, Z.k_ixr, Z.k_ref, Z.k_ref_i, Z.k_ref_s, Z.k_ref_b, Z.k_ref_n, Z.k_ref_t, Z.i_lst, Z.i_tup, Z.i_scr, Z.i_str, Z.i_dcs, Z.i_dci, Z.l_hit, Z.at_0, Z.at_1, Z.at_2, Z.at_3, Z.k_sl, Z.k_sl2, Z.k_sl3, Z.k_tup, Z.k_tup2, Z.k_lst, Z.k_lst2, Z.k_dct, Z.k_dct2, Z.v_nil, Z.v_cons, Z.k_pv, Z.k_c1, Z.k_c2, Z.k_c2k, Z.k_cb, Z.k_tk, Z.k_ret, Z.k_retX, Z.k_put, Z.k_putX, Z.tk_nil, Z.tk_v, Z.tk_r, Z.k_tv, Z.k_tr, Z.p_nil, Z.p_v0, Z.p_v1, Z.p_r, Z.r_nil, Z.r_in, Z.r_no, Z.k_bi, Z.pk_nil0, Z.pk_v, Z.pk_r, Z.some_bind, Z.b_lens, Z.b_lenl, Z.b_lent, Z.b_lenc, Z.b_inti, Z.b_str, Z.b_abs, Z.b_max, Z.b_min, Z.b_gcd, Z.b_all, Z.b_any, Z.k_isi, Z.k_isr, Z.k_mt, Z.k_mt2, Z.m_sw, Z.k_lc2, Z.k_a, Z.k_a2, Z.k_ar, Z.k_aref, Z.k_o, Z.k_f, Z.k_f2, Z.fm_s, Z.fm_i, Z.k_rng, Z.k_ov, Z.o_some, Z.x_nil, Z.x_cons, Z.k_sq, Z.k_sqr, Z.k_sqb, Z.k_sqc, Z.x_ex, Z.k_ex0, Z.x_set, Z.k_set, Z.x_mset, Z.k_ms, Z.k_ms2, Z.sm_nil, Z.sm_cons, Z.x_par, Z.k_par, Z.k_par2, Z.x_aug, Z.k_aug, Z.k_aug2a, Z.k_aug2s, Z.x_si, Z.k_si, Z.k_si1, Z.k_si2, Z.k_si3_0, Z.k_si3_1, Z.k_si3_2, Z.x_ret, Z.k_ret1, Z.x_retR, Z.k_retR, Z.x_retN, Z.x_if, Z.k_if1, Z.k_if0, Z.k_w0, Z.k_w1, Z.k_w2n, Z.k_w2c, Z.k_w2b, Z.k_w2r, Z.x_for, Z.fo_nil, Z.k_fon, Z.k_foc, Z.k_fob, Z.k_for2, Z.g_for, Z.g_lc, Z.x_brk, Z.x_cnt, Z.x_pas, Z.lk_0, Z.lk_S, Z.set_0, Z.set_S, Z.fz_i, Z.fz_s, Z.fz_b, Z.fz_n, Z.fz_t, Z.fz_l, Z.fz_c, Z.fl_nil, Z.fl_cons, Z.e_ret, Z.e_nx, ↓reduceIte, List.length_cons, List.length_nil, Nat.reduceAdd, Nat.reduceLeDiff, Nat.zero_le, List.mem_cons, List.not_mem_nil, or_false, or_true, false_or, true_or, Nat.reduceEqDiff, not_false_eq_true, reduceCtorEq, Option.map_some, List.cons.injEq, and_true, true_and, and_false, false_and, decide_true, decide_false, Bool.not_true, Bool.not_false, ne_eq, Nat.reduceMul, Nat.reduceSub, List.map_cons, List.map_nil, List.replicate, List.cons_append, List.nil_append, List.append_nil, List.length_append, Nat.zero_add, List.append_assoc, Z.x_whl, w1, w2, c1, h2, hs]
  rfl
theorem weigh_emp (K : Nat) {s u : List Nat} {a : Int} (hs : s.length ≤ 16777216) (ha : At s a (49 :: u)) (hu : Fs u) : call Φ (K + 1) 4 [.str s, .int a] = .ok (.tup [Pt.D .emp, .int (a + 1)]) [] := by
  obtain ⟨h1, h2⟩ := hu.stop
  obtain ⟨w1, w2⟩ := weigh_word K (x := [49]) hs ha (by decide) h1
  have c1 := (ha.step1).cut1
  have n1 : (([49] : List Nat).length : Int) = 1 := rfl
  rw [n1] at w1 w2
  unfold eWt eWb at w1
  rw [Z.run_S (fn := ⟨2, [], 6, b4⟩) rfl rfl]
  simp -implicitDefEqProofs only [b4, Out.bind_ok, Out.bind_exc, Z.s_con, Z.s_var, Z.k_var, Z.s_tup, Z.s_lst, Z.s_dct, Z.s_bin, Z.s_neg, Z.s_cmp, Z.s_isN, Z.s_nt, Z.s_an, Z.s_or, Z.s_ite, Z.s_ixV, Z.s_ixR, Z.s_sl, Z.s_call, Z.s_bi, Z.s_isiV, Z.s_isiR, Z.s_mt, Z.s_fs, Z.s_lc, Z.t_con, Z.t_var, Z.t_bin, Z.t_cmp, Z.t_isN, Z.t_nt, Z.t_an, Z.t_or, Z.t_ixV, Z.t_ixR, Z.t_call, Z.t_bi, Z.t_isiV, Z.t_isiR, Z.t_mt, Z.a_nil, Z.a_val, Z.a_ref, Z.o_non, Z.o_som, Z.f_nil, Z.f_cons, Z.i_rng, Z.i_ov, Z.k_tru_b, Z.k_tru_i, Z.k_bin, Z.k_add, Z.k_sub, Z.k_mul, Z.k_fdiv, Z.k_mod, Z.k_pow, Z.k_app, Z.k_lapp, Z.k_cmp, Z.c_lt, Z.c_le, Z.c_gt, Z.c_ge, Z.c_eqi, Z.c_nei, Z.c_eqs, Z.c_nes, Z.c_ins, Z.c_int, Z.k_neg, Z.k_isN, Z.nn_0t, Z.nn_1t, Z.nn_0i, Z.nn_1i, Z.nn_0s, Z.nn_1s, Z.nn_0b, Z.nn_1b, Z.nn_0l, Z.nn_1l, Z.nn_0n, Z.nn_1n, Z.k_nt, Z.k_ntT, Z.k_an1, Z.k_an0, Z.k_anT1, Z.k_anT0, Z.k_or1, Z.k_or0, Z.k_orT1, Z.k_orT0, Z.k_ite1, Z.k_ite0, Z.k_ix, Z.k_ix2, Z.k_ixR, Z.k_ixr, Z.k_ref, Z.k_ref_i, Z.k_ref_s, Z.k_ref_b, Z.k_ref_n, Z.k_ref_t, Z.i_lst, Z.i_tup, Z.i_scr, Z.i_str, Z.i_dcs, Z.i_dci, Z.l_hit, Z.at_0, Z.at_1, Z.at_2, Z.at_3, Z.k_sl, Z.k_sl2, Z.k_sl3, Z.k_tup, Z.k_tup2, Z.k_lst, Z.k_lst2, Z.k_dct, Z.k_dct2, Z.v_nil, Z.v_cons, Z.k_pv, Z.k_c1, Z.k_c2, Z.k_c2k, Z.k_cb, Z.k_tk, Z.k_ret, Z.k_retX, Z.k_put, Z.k_putX, Z.tk_nil, Z.tk_v, Z.tk_r, Z.k_tv, Z.k_tr, Z.p_nil, Z.p_v0, Z.p_v1, Z.p_r, Z.r_nil, Z.r_in, Z.r_no, Z.k_bi, Z.pk_nil0, Z.pk_v, Z.pk_r, Z.some_bind, Z.b_lens, Z.b_lenl, Z.b_lent, Z.b_lenc, Z.b_inti, Z.b_str, Z.b_abs, Z.b_max, Z.b_min, Z.b_gcd, Z.b_all, Z.b_any, Z.k_isi, Z.k_isr, Z.k_mt, Z.k_mt2, Z.m_sw, Z.k_lc2, Z.k_a, Z.k_a2, Z.k_ar, Z.k_aref, Z.k_o, Z.k_f, Z.k_f2, Z.fm_s, Z.fm_i, Z.k_rng, Z.k_ov, Z.o_some, Z.x_nil, Z.x_cons, Z.k_sq, Z.k_sqr, Z.k_sqb, Z.k_sqc, Z.x_ex, Z.k_ex0, Z.x_set, Z.k_set, Z.x_mset, Z.k_ms, Z.k_ms2, Z.sm_nil, Z.sm_cons, Z.x_par, Z.k_par, Z.k_par2, Z.x_aug, Z.k_aug, Z.k_aug2a, Z.k_aug2s, Z.x_si, Z.k_si, Z.k_si1, Z.k_si2, Z.k_si3_0, Z.k_si3_1, Z.k_si3_2, Z.x_ret, Z.k_ret1, Z.x_retR, Z.k_retR, Z.x_retN, Z.x_if, Z.k_if1, Z.k_if0, Z.k_w0, Z.k_w1, Z.k_w2n, Z.k_w2c, Z.k_w2b, Z.k_w2r, Z.x_for, Z.fo_nil, Z.k_fon, Z.k_foc, Z.k_fob, Z.k_for2, Z.g_for, Z.g_lc, Z.x_brk, Z.x_cnt, Z.x_pas, Z.lk_0, Z.lk_S, Z.set_0, Z.set_S, Z.fz_i, Z.fz_s, Z.fz_b, Z.fz_n, Z.fz_t, Z.fz_l, Z.fz_c, Z.fl_nil, Z.fl_cons, Z.e_ret, Z.e_nx, ↓reduceIte, List.length_cons, List.length_nil, Nat.reduceAdd, Nat.reduceLeDiff, Nat.zero_le, List.mem_cons, List.not_mem_nil, or_false, or_true, false_or, true_or, Nat.reduceEqDiff, not_false_eq_true, reduceCtorEq, Option.map_some, List.cons.injEq, and_true, true_and, and_false, false_and, decide_true, decide_false, Bool.not_true, Bool.not_false, ne_eq, Nat.reduceMul, Nat.reduceSub, List.map_cons, List.map_nil, List.replicate, List.cons_append, List.nil_append, List.append_nil, List.length_append, Nat.zero_add, List.append_assoc, Z.x_whl, w1, w2, c1, h2, hs]
  rfl
theorem wT_ns {x y : Int} (h : Wt x y) : ∀ c ∈ wT x y, c ∈ NS := by
  intro c hc
  rw [ns_iff]
  unfold wT at hc
  split at hc
  · have := num_signs h.1 c hc; omega
  · rcases List.mem_append.mp hc with hc | hc
    · have := num_signs h.1 c hc; omega
    · rcases List.mem_cons.mp hc with rfl | hc
      · omega
      · have := num_signs h.y c hc; omega
theorem wT_head {x y : Int} (h : Wt x y) : ∃ c r, wT x y = c :: r ∧ (c = 45 ∨ (48 ≤ c ∧ c ≤ 57)) := by
  cases hn : numT x with
  | nil => exact absurd hn (num_ne h.1)
  | cons c r =>
    have := num_signs h.1 c (by rw [hn]; exact List.mem_cons_self)
    unfold wT
    rw [hn]
    split
    · exact ⟨c, r, rfl, this⟩
    · exact ⟨c, _, rfl, this⟩
theorem weigh_wgh (K : Nat) {s u : List Nat} {a x y : Int} {p : Pt} (hs : s.length ≤ 16777216) (hw : Wt x y) (ha : At s a (wT x y ++ 91 :: (p.T ++ 93 :: u)))
    (hp : call Φ (K + 2) 7 [.str s, .int (a + ((wT x y).length : Int) + 1)] = .ok (.tup [p.D, .int (a + ((wT x y).length : Int) + 1 + (p.T.length : Int))]) []) :
    call Φ (K + 3) 4 [.str s, .int a] = .ok (.tup [Pt.D (.wgh x y p), .int (a + ((wT x y).length : Int) + 1 + (p.T.length : Int) + 1)]) [] := by
  obtain ⟨w1, w2⟩ := weigh_word (K + 2) hs ha (wT_ns hw) (.inr ⟨91, _, rfl, by rw [ns_iff]; omega⟩)
  have a1 := ha.step
  have c1 := a1.cut1
  have c2 := (a1.step1.step).cut1
  have hn := number_of_ok K hw
  have e1 : List.take 1 (91 :: (p.T ++ 93 :: u)) = [91] := rfl
  have e2 : List.take 1 (93 :: u) = [93] := rfl
  have hf := p.fz
  unfold eWt eWb at w1
  rw [Z.run_S (fn := ⟨2, [], 6, b4⟩) rfl rfl]
  simp -implicitDefEqProofs only [b4, Out.bind_ok, Out.bind_exc, Z.s_con, Z.s_var, Z.k_var, Z.s_tup, Z.s_lst, Z.s_dct, Z.s_bin, Z.s_neg, Z.s_cmp, Z.s_isN, Z.s_nt, Z.s_an, Z.s_or, Z.s_ite, Z.s_ixV, Z.s_ixR, Z.s_sl, Z.s_call, Z.s_bi, Z.s_isiV, Z.s_isiR, Z.s_mt, Z.s_fs, Z.s_lc, Z.t_con, Z.t_var, Z.t_bin, Z.t_cmp, Z.t_isN, Z.t_nt, Z.t_an, Z.t_or, Z.t_ixV, Z.t_ixR, Z.t_call, Z.t_bi, Z.t_isiV, Z.t_isiR, Z.t_mt, Z.a_nil, Z.a_val, Z.a_ref, Z.o_non, Z.o_som, Z.f_nil, Z.f_cons, Z.i_rng, Z.i_ov, Z.k_tru_b, Z.k_tru_i, Z.k_bin, Z.k_add, Z.k_sub, Z.k_mul, Z.k_fdiv, Z.k_mod, Z.k_pow, Z.k_app, Z.k_lapp, Z.k_cmp, Z.c_lt, Z.c_le, Z.c_gt, Z.c_ge, Z.c_eqi, Z.c_nei, Z.c_eqs, Z.c_nes, Z.c_ins, Z.c_int, Z.k_neg, Z.k_isN, Z.nn_0t, Z.nn_1t, Z.nn_0i, Z.nn_1i, Z.nn_0s, Z.nn_1s, Z.nn_0b, Z.nn_1b, Z.nn_0l, Z.nn_1l, Z.nn_0n, Z.nn_1n, Z.k_nt, Z.k_ntT, Z.k_an1, Z.k_an0, Z.k_anT1, Z.k_anT0, Z.k_or1, Z.k_or0, Z.k_orT1, Z.k_orT0, Z.k_ite1, Z.k_ite0, Z.k_ix, Z.k_ix2, Z.k_ixR, Z.k_ixr, Z.k_ref, Z.k_ref_i, Z.k_ref_s, Z.k_ref_b, Z.k_ref_n, Z.k_ref_t, Z.i_lst, Z.i_tup, Z.i_scr, Z.i_str, Z.i_dcs, Z.i_dci, Z.l_hit, Z.at_0, Z.at_1, Z.at_2, Z.at_3, Z.k_sl, Z.k_sl2, Z.k_sl3, Z.k_tup, Z.k_tup2, Z.k_lst, Z.k_lst2, Z.k_dct, Z.k_dct2, Z.v_nil, Z.v_cons, Z.k_pv, Z.k_c1, Z.k_c2, Z.k_c2k, Z.k_cb, Z.k_tk, Z.k_ret, Z.k_retX, Z.k_put, Z.k_putX, Z.tk_nil, Z.tk_v, Z.tk_r, Z.k_tv, Z.k_tr, Z.p_nil, Z.p_v0, Z.p_v1, Z.p_r, Z.r_nil, Z.r_in, Z.r_no, Z.k_bi, Z.pk_nil0, Z.pk_v, Z.pk_r, Z.some_bind, Z.b_lens, Z.b_lenl, Z.b_lent, Z.b_lenc, Z.b_inti, Z.b_str, Z.b_abs, Z.b_max, Z.b_min, Z.b_gcd, Z.b_all, Z.b_any, Z.k_isi, Z.k_isr, Z.k_mt, Z.k_mt2, Z.m_sw, Z.k_lc2, Z.k_a, Z.k_a2, Z.k_ar, Z.k_aref, Z.k_o, Z.k_f, Z.k_f2, Z.fm_s, Z.fm_i, Z.k_rng, Z.k_ov, Z.o_some, Z.x_nil, Z.x_cons, Z.k_sq, Z.k_sqr, Z.k_sqb, Z.k_sqc, Z.x_ex, Z.k_ex0, Z.x_set, Z.k_set, Z.x_mset, Z.k_ms, Z.k_ms2, Z.sm_nil, Z.sm_cons, Z.x_par, Z.k_par, Z.k_par2, Z.x_aug, Z.k_aug, Z.k_aug2a, Z.k_aug2s, Z.x_si, Z.k_si, Z.k_si1, Z.k_si2, Z.k_si3_0, Z.k_si3_1, Z.k_si3_2, Z.x_ret, Z.k_ret1, Z.x_retR, Z.k_retR, Z.x_retN, Z.x_if, Z.k_if1, Z.k_if0, Z.k_w0, Z.k_w1, Z.k_w2n, Z.k_w2c, Z.k_w2b, Z.k_w2r, Z.x_for, Z.fo_nil, Z.k_fon, Z.k_foc, Z.k_fob, Z.k_for2, Z.g_for, Z.g_lc, Z.x_brk, Z.x_cnt, Z.x_pas, Z.lk_0, Z.lk_S, Z.set_0, Z.set_S, Z.fz_i, Z.fz_s, Z.fz_b, Z.fz_n, Z.fz_t, Z.fz_l, Z.fz_c, Z.fl_nil, Z.fl_cons, Z.e_ret, Z.e_nx, ↓reduceIte, List.length_cons, List.length_nil, Nat.reduceAdd, Nat.reduceLeDiff, Nat.zero_le, List.mem_cons, List.not_mem_nil, or_false, or_true, false_or, true_or, Nat.reduceEqDiff, not_false_eq_true, reduceCtorEq, Option.map_some, List.cons.injEq, and_true, true_and, and_false, false_and, decide_true, decide_false, Bool.not_true, Bool.not_false, ne_eq, Nat.reduceMul, Nat.reduceSub, List.map_cons, List.map_nil, List.replicate, List.cons_append, List.nil_append, List.append_nil, List.length_append, Nat.zero_add, List.append_assoc, Z.x_whl, w1, w2, c1, c2, e1, e2, hn, hs, hp, hf, ref_pl]
  rfl
end K85

namespace K85
open PySem Ev
theorem Pt.head : ∀ {p : Pt}, p.ok → ∃ c r, p.T = c :: r ∧ c ≠ 43
  | .any, _ => ⟨46, [], rfl, by decide⟩
  | .emp, _ => ⟨49, [], rfl, by decide⟩
  | .non, _ => ⟨48, [], rfl, by decide⟩
  | .sig c, h => ⟨c, [], rfl, by have := h.1; omega⟩
  | .many p, h => by
    obtain ⟨c, r, e, h1⟩ := Pt.head (p := p) h
    exact ⟨c, r ++ [42], by show p.T ++ [42] = _; rw [e]; rfl, h1⟩
  | .wgh x y p, h => by
    obtain ⟨c, r, e, h1⟩ := wT_head h.1
    exact ⟨c, _, by show wT x y ++ _ = _; rw [e]; rfl, by omega⟩
  | .alt p q, _ => ⟨40, _, rfl, by decide⟩
  | .seq p q, _ => ⟨40, _, rfl, by decide⟩
theorem cast3 : ((3 : Nat) : Int) = 3 := rfl
theorem cast1 : ((1 : Nat) : Int) = 1 := rfl
theorem pair_alt (K : Nat) {s u : List Nat} {a : Int} {p q : Pt} (hs : s.length ≤ 16777216) (ha : At s a (p.T ++ 32 :: 43 :: 32 :: (q.T ++ 41 :: u)))
    (hp : call Φ K 7 [.str s, .int a] = .ok (.tup [p.D, .int (a + (p.T.length : Int))]) [])
    (hq : call Φ K 7 [.str s, .int (a + (p.T.length : Int) + 3)] = .ok (.tup [q.D, .int (a + (p.T.length : Int) + 3 + (q.T.length : Int))]) []) :
    call Φ (K + 1) 5 [.str s, .int a] = .ok (.tup [Pt.D (.alt p q), .int (a + (p.T.length : Int) + 3 + (q.T.length : Int) + 1)]) [] := by
  have a1 := ha.step
  have c1 := a1.cut3
  have c2 := (a1.step3.step).cut1
  have e1 : List.take 3 (32 :: 43 :: 32 :: (q.T ++ 41 :: u)) = [32, 43, 32] := rfl
  have e2 : List.take 1 (41 :: u) = [41] := rfl
  have hf := p.fz
  have hf2 := q.fz
  rw [Z.run_S (fn := ⟨2, [], 7, b5⟩) rfl rfl]
  simp -implicitDefEqProofs only [b5, Out.bind_ok, Out.bind_exc, Z.s_con, Z.s_var, Z.k_var, Z.s_tup, Z.s_lst, Z.s_dct, Z.s_bin, Z.s_neg, Z.s_cmp, Z.s_isN, Z.s_nt, Z.s_an, Z.s_or, Z.s_ite, Z.s_ixV, Z.s_ixR, Z.s_sl, Z.s_call, Z.s_bi, Z.s_isiV, Z.s_isiR, Z.s_mt, Z.s_fs, Z.s_lc, Z.t_con, Z.t_var, Z.t_bin, Z.t_cmp, Z.t_isN, Z.t_nt, Z.t_an, Z.t_or, Z.t_ixV, Z.t_ixR, Z.t_call, Z.t_bi, Z.t_isiV, Z.t_isiR, Z.t_mt, Z.a_nil, Z.a_val, Z.a_ref, Z.o_non, Z.o_som, Z.f_nil, Z.f_cons, Z.i_rng, Z.i_ov, Z.k_tru_b, Z.k_tru_i, Z.k_bin, Z.k_add, Z.k_sub, Z.k_mul, Z.k_fdiv, Z.k_mod, Z.k_pow, Z.k_app, Z.k_lapp, Z.k_cmp, Z.c_lt, Z.c_le, Z.c_gt, Z.c_ge, Z.c_eqi, Z.c_nei, Z.c_eqs, Z.c_nes, Z.c_ins, Z.c_int, Z.k_neg, Z.k_isN, Z.nn_0t, Z.nn_1t, Z.nn_0i, Z.nn_1i, Z.nn_0s, Z.nn_1s, Z.nn_0b, Z.nn_1b, Z.nn_0l, Z.nn_1l, Z.nn_0n, Z.nn_1n, Z.k_nt, Z.k_ntT, Z.k_an1, Z.k_an0, Z.k_anT1, Z.k_anT0, Z.k_or1, Z.k_or0, Z.k_orT1, Z.k_orT0, Z.k_ite1, Z.k_ite0, Z.k_ix, Z.k_ix2, Z.k_ixR, Z.k_ixr, Z.k_ref, Z.k_ref_i, Z.k_ref_s, Z.k_ref_b, Z.k_ref_n, Z.k_ref_t, Z.i_lst, Z.i_tup, Z.i_scr, Z.i_str, Z.i_dcs, Z.i_dci, Z.l_hit, Z.at_0, Z.at_1, Z.at_2, Z.at_3, Z.k_sl, Z.k_sl2, Z.k_sl3, Z.k_tup, Z.k_tup2, Z.k_lst, Z.k_lst2, Z.k_dct, Z.k_dct2, Z.v_nil, Z.v_cons, Z.k_pv, Z.k_c1, Z.k_c2, Z.k_c2k, Z.k_cb, Z.k_tk, Z.k_ret, Z.k_retX, Z.k_put, Z.k_putX, Z.tk_nil, Z.tk_v, Z.tk_r, Z.k_tv, Z.k_tr, Z.p_nil, Z.p_v0, Z.p_v1, Z.p_r, Z.r_nil, Z.r_in, Z.r_no, Z.k_bi, Z.pk_nil0, Z.pk_v, Z.pk_r, Z.some_bind, Z.b_lens, Z.b_lenl, Z.b_lent, Z.b_lenc, Z.b_inti, Z.b_str, Z.b_abs, Z.b_max, Z.b_min, Z.b_gcd, Z.b_all, Z.b_any, Z.k_isi, Z.k_isr, Z.k_mt, Z.k_mt2, Z.m_sw, Z.k_lc2, Z.k_a, Z.k_a2, Z.k_ar, Z.k_aref, Z.k_o, Z.k_f, Z.k_f2, Z.fm_s, Z.fm_i, Z.k_rng, Z.k_ov, Z.o_some, Z.x_nil, Z.x_cons, Z.k_sq, Z.k_sqr, Z.k_sqb, Z.k_sqc, Z.x_ex, Z.k_ex0, Z.x_set, Z.k_set, Z.x_mset, Z.k_ms, Z.k_ms2, Z.sm_nil, Z.sm_cons, Z.x_par, Z.k_par, Z.k_par2, Z.x_aug, Z.k_aug, Z.k_aug2a, Z.k_aug2s, Z.x_si, Z.k_si, Z.k_si1, Z.k_si2, Z.k_si3_0, Z.k_si3_1, Z.k_si3_2, Z.x_ret, Z.k_ret1, Z.x_retR, Z.k_retR, Z.x_retN, Z.x_if, Z.k_if1, Z.k_if0, Z.k_w0, Z.k_w1, Z.k_w2n, Z.k_w2c, Z.k_w2b, Z.k_w2r, Z.x_for, Z.fo_nil, Z.k_fon, Z.k_foc, Z.k_fob, Z.k_for2, Z.g_for, Z.g_lc, Z.x_brk, Z.x_cnt, Z.x_pas, Z.lk_0, Z.lk_S, Z.set_0, Z.set_S, Z.fz_i, Z.fz_s, Z.fz_b, Z.fz_n, Z.fz_t, Z.fz_l, Z.fz_c, Z.fl_nil, Z.fl_cons, Z.e_ret, Z.e_nx, ↓reduceIte, List.length_cons, List.length_nil, Nat.reduceAdd, Nat.reduceLeDiff, Nat.zero_le, List.mem_cons, List.not_mem_nil, or_false, or_true, false_or, true_or, Nat.reduceEqDiff, not_false_eq_true, reduceCtorEq, Option.map_some, List.cons.injEq, and_true, true_and, and_false, false_and, decide_true, decide_false, Bool.not_true, Bool.not_false, ne_eq, Nat.reduceMul, Nat.reduceSub, List.map_cons, List.map_nil, List.replicate, List.cons_append, List.nil_append, List.append_nil, List.length_append, Nat.zero_add, List.append_assoc, c1, c2, e1, e2, hs, hp, hq, hf, hf2, ref_pl, cast3]
  rfl
theorem pair_seq (K : Nat) {s u : List Nat} {a : Int} {p q : Pt} (hs : s.length ≤ 16777216) (hk : q.ok) (ha : At s a (p.T ++ 32 :: (q.T ++ 41 :: u)))
    (hp : call Φ K 7 [.str s, .int a] = .ok (.tup [p.D, .int (a + (p.T.length : Int))]) [])
    (hq : call Φ K 7 [.str s, .int (a + (p.T.length : Int) + 1)] = .ok (.tup [q.D, .int (a + (p.T.length : Int) + 1 + (q.T.length : Int))]) []) :
    call Φ (K + 1) 5 [.str s, .int a] = .ok (.tup [Pt.D (.seq p q), .int (a + (p.T.length : Int) + 1 + (q.T.length : Int) + 1)]) [] := by
  have a1 := ha.step
  have c1 := a1.cut3
  have c3 := a1.cut1
  have c2 := (a1.step1.step).cut1
  obtain ⟨c, r, hc, hc2⟩ := q.head hk
  have e1 : (List.take 3 (32 :: (q.T ++ 41 :: u)) = [32, 43, 32]) = False := by
    rw [hc]
    simp [hc2]
  have e3 : List.take 1 (32 :: (q.T ++ 41 :: u)) = [32] := rfl
  have e2 : List.take 1 (41 :: u) = [41] := rfl
  have hf := p.fz
  have hf2 := q.fz
  rw [Z.run_S (fn := ⟨2, [], 7, b5⟩) rfl rfl]
  simp -implicitDefEqProofs only [b5, Out.bind_ok, Out.bind_exc, Z.s_con, Z.s_var, Z.k_var, Z.s_tup, Z.s_lst, Z.s_dct, Z.s_bin, Z.s_neg, Z.s_cmp, Z.s_isN, Z.s_nt, Z.s_an, Z.s_or, Z.s_ite, Z.s_ixV, Z.s_ixR, Z.s_sl, Z.s_call, Z.s_bi, Z.s_isiV, Z.s_isiR, Z.s_mt, Z.s_fs, Z.s_lc, Z.t_con, Z.t_var, Z.t_bin, Z.t_cmp, Z.t_isN, Z.t_nt, Z.t_an, Z.t_or, Z.t_ixV, Z.t_ixR, Z.t_call, Z.t_bi, Z.t_isiV, Z.t_isiR, Z.t_mt, Z.a_nil, Z.a_val, Z.a_ref, Z.o_non, Z.o_som, Z.f_nil, Z.f_cons, Z.i_rng, Z.i_ov, Z.k_tru_b, Z.k_tru_i, Z.k_bin, Z.k_add, Z.k_sub, Z.k_mul, Z.k_fdiv, Z.k_mod, Z.k_pow, Z.k_app, Z.k_lapp, Z.k_cmp, Z.c_lt, Z.c_le, Z.c_gt, Z.c_ge, Z.c_eqi, Z.c_nei, Z.c_eqs, Z.c_nes, Z.c_ins, Z.c_int, Z.k_neg, Z.k_isN, Z.nn_0t, Z.nn_1t, Z.nn_0i, Z.nn_1i, Z.nn_0s, Z.nn_1s, Z.nn_0b, Z.nn_1b, Z.nn_0l, Z.nn_1l, Z.nn_0n, Z.nn_1n, Z.k_nt, Z.k_ntT, Z.k_an1, Z.k_an0, Z.k_anT1, Z.k_anT0, Z.k_or1, Z.k_or0, Z.k_orT1, Z.k_orT0, Z.k_ite1, Z.k_ite0, Z.k_ix, Z.k_ix2, Z.k_ixR, Z.k_ixr, Z.k_ref, Z.k_ref_i, Z.k_ref_s, Z.k_ref_b, Z.k_ref_n, Z.k_ref_t, Z.i_lst, Z.i_tup, Z.i_scr, Z.i_str, Z.i_dcs, Z.i_dci, Z.l_hit, Z.at_0, Z.at_1, Z.at_2, Z.at_3, Z.k_sl, Z.k_sl2, Z.k_sl3, Z.k_tup, Z.k_tup2, Z.k_lst, Z.k_lst2, Z.k_dct, Z.k_dct2, Z.v_nil, Z.v_cons, Z.k_pv, Z.k_c1, Z.k_c2, Z.k_c2k, Z.k_cb, Z.k_tk, Z.k_ret, Z.k_retX, Z.k_put, Z.k_putX, Z.tk_nil, Z.tk_v, Z.tk_r, Z.k_tv, Z.k_tr, Z.p_nil, Z.p_v0, Z.p_v1, Z.p_r, Z.r_nil, Z.r_in, Z.r_no, Z.k_bi, Z.pk_nil0, Z.pk_v, Z.pk_r, Z.some_bind, Z.b_lens, Z.b_lenl, Z.b_lent, Z.b_lenc, Z.b_inti, Z.b_str, Z.b_abs, Z.b_max, Z.b_min, Z.b_gcd, Z.b_all, Z.b_any, Z.k_isi, Z.k_isr, Z.k_mt, Z.k_mt2, Z.m_sw, Z.k_lc2, Z.k_a, Z.k_a2, Z.k_ar, Z.k_aref, Z.k_o, Z.k_f, Z.k_f2, Z.fm_s, Z.fm_i, Z.k_rng, Z.k_ov, Z.o_some, Z.x_nil, Z.x_cons, Z.k_sq, Z.k_sqr, Z.k_sqb, Z.k_sqc, Z.x_ex, Z.k_ex0, Z.x_set, Z.k_set, Z.x_mset, Z.k_ms, Z.k_ms2, Z.sm_nil, Z.sm_cons, Z.x_par, Z.k_par, Z.k_par2, Z.x_aug, Z.k_aug, Z.k_aug2a, Z.k_aug2s, Z.x_si, Z.k_si, Z.k_si1, Z.k_si2, Z.k_si3_0, Z.k_si3_1, Z.k_si3_2, Z.x_ret, Z.k_ret1, Z.x_retR, Z.k_retR, Z.x_retN, Z.x_if, Z.k_if1, Z.k_if0, Z.k_w0, Z.k_w1, Z.k_w2n, Z.k_w2c, Z.k_w2b, Z.k_w2r, Z.x_for, Z.fo_nil, Z.k_fon, Z.k_foc, Z.k_fob, Z.k_for2, Z.g_for, Z.g_lc, Z.x_brk, Z.x_cnt, Z.x_pas, Z.lk_0, Z.lk_S, Z.set_0, Z.set_S, Z.fz_i, Z.fz_s, Z.fz_b, Z.fz_n, Z.fz_t, Z.fz_l, Z.fz_c, Z.fl_nil, Z.fl_cons, Z.e_ret, Z.e_nx, ↓reduceIte, List.length_cons, List.length_nil, Nat.reduceAdd, Nat.reduceLeDiff, Nat.zero_le, List.mem_cons, List.not_mem_nil, or_false, or_true, false_or, true_or, Nat.reduceEqDiff, not_false_eq_true, reduceCtorEq, Option.map_some, List.cons.injEq, and_true, true_and, and_false, false_and, decide_true, decide_false, Bool.not_true, Bool.not_false, ne_eq, Nat.reduceMul, Nat.reduceSub, List.map_cons, List.map_nil, List.replicate, List.cons_append, List.nil_append, List.append_nil, List.length_append, Nat.zero_add, List.append_assoc, c1, c2, c3, e1, e2, e3, hs, hp, hq, hf, hf2, ref_pl, cast1]
  rfl
/-! part_at -/
theorem part_any (K : Nat) {s u : List Nat} {a : Int} (hs : s.length ≤ 16777216) (ha : At s a (46 :: u)) : call Φ (K + 1) 6 [.str s, .int a] = .ok (.tup [Pt.D .any, .int (a + 1)]) [] := by
  have c1 := ha.cut1
  have e1 : List.take 1 (46 :: u) = [46] := rfl
  rw [Z.run_S (fn := ⟨2, [], 3, b6⟩) rfl rfl]
  simp -implicitDefEqProofs only [b6, Out.bind_ok, Out.bind_exc, Z.s_con, Z.s_var, Z.k_var, Z.s_tup, Z.s_lst, Z.s_dct, Z.s_bin, Z.s_neg, Z.s_cmp, Z.s_isN, Z.s_nt, Z.s_an, Z.s_or, Z.s_ite, Z.s_ixV, Z.s_ixR, Z.s_sl, Z.s_call, Z.s_bi, Z.s_isiV, Z.s_isiR, Z.s_mt, Z.s_fs, Z.s_lc, Z.t_con, Z.t_var, Z.t_bin, Z.t_cmp, Z.t_isN, Z.t_nt, Z.t_an, Z.t_or, Z.t_ixV, Z.t_ixR, Z.t_call, Z.t_bi, Z.t_isiV, Z.t_isiR, Z.t_mt, Z.a_nil, Z.a_val, Z.a_ref, Z.o_non, Z.o_som, Z.f_nil, Z.f_cons, Z.i_rng, Z.i_ov, Z.k_tru_b, Z.k_tru_i, Z.k_bin, Z.k_add, Z.k_sub, Z.k_mul, Z.k_fdiv, Z.k_mod, Z.k_pow, Z.k_app, Z.k_lapp, Z.k_cmp, Z.c_lt, Z.c_le, Z.c_gt, Z.c_ge, Z.c_eqi, Z.c_nei, Z.c_eqs, Z.c_nes, Z.c_ins, Z.c_int, Z.k_neg, Z.k_isN, Z.nn_0t, Z.nn_1t, Z.nn_0i, Z.nn_1i, Z.nn_0s, Z.nn_1s, Z.nn_0b, Z.nn_1b, Z.nn_0l, Z.nn_1l, Z.nn_0n, Z.nn_1n, Z.k_nt, Z.k_ntT, Z.k_an1, Z.k_an0, Z.k_anT1, Z.k_anT0, Z.k_or1, Z.k_or0, Z.k_orT1, Z.k_orT0, Z.k_ite1, Z.k_ite0, Z.k_ix, Z.k_ix2, Z.k_ixR, Z.k_ixr, Z.k_ref, Z.k_ref_i, Z.k_ref_s, Z.k_ref_b, Z.k_ref_n, Z.k_ref_t, Z.i_lst, Z.i_tup, Z.i_scr, Z.i_str, Z.i_dcs, Z.i_dci, Z.l_hit, Z.at_0, Z.at_1, Z.at_2, Z.at_3, Z.k_sl, Z.k_sl2, Z.k_sl3, Z.k_tup, Z.k_tup2, Z.k_lst, Z.k_lst2, Z.k_dct, Z.k_dct2, Z.v_nil, Z.v_cons, Z.k_pv, Z.k_c1, Z.k_c2, Z.k_c2k, Z.k_cb, Z.k_tk, Z.k_ret, Z.k_retX, Z.k_put, Z.k_putX, Z.tk_nil, Z.tk_v, Z.tk_r, Z.k_tv, Z.k_tr, Z.p_nil, Z.p_v0, Z.p_v1, Z.p_r, Z.r_nil, Z.r_in, Z.r_no, Z.k_bi, Z.pk_nil0, Z.pk_v, Z.pk_r, Z.some_bind, Z.b_lens, Z.b_lenl, Z.b_lent, Z.b_lenc, Z.b_inti, Z.b_str, Z.b_abs, Z.b_max, Z.b_min, Z.b_gcd, Z.b_all, Z.b_any, Z.k_isi, Z.k_isr, Z.k_mt, Z.k_mt2, Z.m_sw, Z.k_lc2, Z.k_a, Z.k_a2, Z.k_ar, Z.k_aref, Z.k_o, Z.k_f, Z.k_f2, Z.fm_s, Z.fm_i, Z.k_rng, Z.k_ov, Z.o_some, Z.x_nil, Z.x_cons, Z.k_sq, Z.k_sqr, Z.k_sqb, Z.k_sqc, Z.x_ex, Z.k_ex0, Z.x_set, Z.k_set, Z.x_mset, Z.k_ms, Z.k_ms2, Z.sm_nil, Z.sm_cons, Z.x_par, Z.k_par, Z.k_par2, Z.x_aug, Z.k_aug, Z.k_aug2a, Z.k_aug2s, Z.x_si, Z.k_si, Z.k_si1, Z.k_si2, Z.k_si3_0, Z.k_si3_1, Z.k_si3_2, Z.x_ret, Z.k_ret1, Z.x_retR, Z.k_retR, Z.x_retN, Z.x_if, Z.k_if1, Z.k_if0, Z.k_w0, Z.k_w1, Z.k_w2n, Z.k_w2c, Z.k_w2b, Z.k_w2r, Z.x_for, Z.fo_nil, Z.k_fon, Z.k_foc, Z.k_fob, Z.k_for2, Z.g_for, Z.g_lc, Z.x_brk, Z.x_cnt, Z.x_pas, Z.lk_0, Z.lk_S, Z.set_0, Z.set_S, Z.fz_i, Z.fz_s, Z.fz_b, Z.fz_n, Z.fz_t, Z.fz_l, Z.fz_c, Z.fl_nil, Z.fl_cons, Z.e_ret, Z.e_nx, ↓reduceIte, List.length_cons, List.length_nil, Nat.reduceAdd, Nat.reduceLeDiff, Nat.zero_le, List.mem_cons, List.not_mem_nil, or_false, or_true, false_or, true_or, Nat.reduceEqDiff, not_false_eq_true, reduceCtorEq, Option.map_some, List.cons.injEq, and_true, true_and, and_false, false_and, decide_true, decide_false, Bool.not_true, Bool.not_false, ne_eq, Nat.reduceMul, Nat.reduceSub, List.map_cons, List.map_nil, List.replicate, List.cons_append, List.nil_append, List.append_nil, List.length_append, Nat.zero_add, List.append_assoc, c1, e1, hs]
  rfl
theorem part_sig (K : Nat) {s u : List Nat} {a : Int} {c : Nat} (hs : s.length ≤ 16777216) (ha : At s a (c :: u)) (h1 : 97 ≤ c) (h2 : c ≤ 122) : call Φ (K + 1) 6 [.str s, .int a] = .ok (.tup [Pt.D (.sig c), .int (a + 1)]) [] := by
  have c1 := ha.cut1
  have e1 : List.take 1 (c :: u) = [c] := rfl
  have n1 : ¬ c = 40 := by omega
  have n2 : ¬ c = 46 := by omega
  have n3 : c = 97 ∨ c = 98 ∨ c = 99 ∨ c = 100 ∨ c = 101 ∨ c = 102 ∨ c = 103 ∨ c = 104 ∨ c = 105 ∨ c = 106 ∨ c = 107 ∨ c = 108 ∨ c = 109 ∨ c = 110 ∨ c = 111 ∨ c = 112 ∨ c = 113 ∨ c = 114 ∨ c = 115 ∨ c = 116 ∨ c = 117 ∨ c = 118 ∨ c = 119 ∨ c = 120 ∨ c = 121 ∨ c = 122 := by omega
  rw [Z.run_S (fn := ⟨2, [], 3, b6⟩) rfl rfl]
  simp -implicitDefEqProofs only [b6, Out.bind_ok, Out.bind_exc, Z.s_con, Z.s_var, Z.k_var, Z.s_tup, Z.s_lst, Z.s_dct, Z.s_bin, Z.s_neg, Z.s_cmp, Z.s_isN, Z.s_nt, Z.s_an, Z.s_or, Z.s_ite, Z.s_ixV, Z.s_ixR, Z.s_sl, Z.s_call, Z.s_bi, Z.s_isiV, Z.s_isiR, Z.s_mt, Z.s_fs, Z.s_lc, Z.t_con, Z.t_var, Z.t_bin, Z.t_cmp, Z.t_isN, Z.t_nt, Z.t_an, Z.t_or, Z.t_ixV, Z.t_ixR, Z.t_call, Z.t_bi, Z.t_isiV, Z.t_isiR, Z.t_mt, Z.a_nil, Z.a_val, Z.a_ref, Z.o_non, Z.o_som, Z.f_nil, Z.f_cons, Z.i_rng, Z.i_ov, Z.k_tru_b, Z.k_tru_i, Z.k_bin, Z.k_add, Z.k_sub, Z.k_mul, Z.k_fdiv, Z.k_mod, Z.k_pow, Z.k_app, Z.k_lapp, Z.k_cmp, Z.c_lt, Z.c_le, Z.c_gt, Z.c_ge, Z.c_eqi, Z.c_nei, Z.c_eqs, Z.c_nes, Z.c_ins, Z.c_int, Z.k_neg, Z.k_isN, Z.nn_0t, Z.nn_1t, Z.nn_0i, Z.nn_1i, Z.nn_0s, Z.nn_1s, Z.nn_0b, Z.nn_1b, Z.nn_0l, Z.nn_1l, Z.nn_0n, Z.nn_1n, Z.k_nt, Z.k_ntT, Z.k_an1, Z.k_an0, Z.k_anT1, Z.k_anT0, Z.k_or1, Z.k_or0, Z.k_orT1, Z.k_orT0, Z.k_ite1, Z.k_ite0, Z.k_ix, Z.k_ix2, Z.k_ixR, Z.k_ixr, Z.k_ref, Z.k_ref_i, Z.k_ref_s, Z.k_ref_b, Z.k_ref_n, Z.k_ref_t, Z.i_lst, Z.i_tup, Z.i_scr, Z.i_str, Z.i_dcs, Z.i_dci, Z.l_hit, Z.at_0, Z.at_1, Z.at_2, Z.at_3, Z.k_sl, Z.k_sl2, Z.k_sl3, Z.k_tup, Z.k_tup2, Z.k_lst, Z.k_lst2, Z.k_dct, Z.k_dct2, Z.v_nil, Z.v_cons, Z.k_pv, Z.k_c1, Z.k_c2, Z.k_c2k, Z.k_cb, Z.k_tk, Z.k_ret, Z.k_retX, Z.k_put, Z.k_putX, Z.tk_nil, Z.tk_v, Z.tk_r, Z.k_tv, Z.k_tr, Z.p_nil, Z.p_v0, Z.p_v1, Z.p_r, Z.r_nil, Z.r_in, Z.r_no, Z.k_bi, Z.pk_nil0, Z.pk_v, Z.pk_r, Z.some_bind, Z.b_lens, Z.b_lenl, Z.b_lent, Z.b_lenc, Z.b_inti, Z.b_str, Z.b_abs, Z.b_max, Z.b_min, Z.b_gcd, Z.b_all, Z.b_any, Z.k_isi, Z.k_isr, Z.k_mt, Z.k_mt2, Z.m_sw, Z.k_lc2, Z.k_a, Z.k_a2, Z.k_ar, Z.k_aref, Z.k_o, Z.k_f, Z.k_f2, Z.fm_s, Z.fm_i, Z.k_rng, Z.k_ov, Z.o_some, Z.x_nil, Z.x_cons, Z.k_sq, Z.k_sqr, Z.k_sqb, Z.k_sqc, Z.x_ex, Z.k_ex0, Z.x_set, Z.k_set, Z.x_mset, Z.k_ms, Z.k_ms2, Z.sm_nil, Z.sm_cons, Z.x_par, Z.k_par, Z.k_par2, Z.x_aug, Z.k_aug, Z.k_aug2a, Z.k_aug2s, Z.x_si, Z.k_si, Z.k_si1, Z.k_si2, Z.k_si3_0, Z.k_si3_1, Z.k_si3_2, Z.x_ret, Z.k_ret1, Z.x_retR, Z.k_retR, Z.x_retN, Z.x_if, Z.k_if1, Z.k_if0, Z.k_w0, Z.k_w1, Z.k_w2n, Z.k_w2c, Z.k_w2b, Z.k_w2r, Z.x_for, Z.fo_nil, Z.k_fon, Z.k_foc, Z.k_fob, Z.k_for2, Z.g_for, Z.g_lc, Z.x_brk, Z.x_cnt, Z.x_pas, Z.lk_0, Z.lk_S, Z.set_0, Z.set_S, Z.fz_i, Z.fz_s, Z.fz_b, Z.fz_n, Z.fz_t, Z.fz_l, Z.fz_c, Z.fl_nil, Z.fl_cons, Z.e_ret, Z.e_nx, ↓reduceIte, List.length_cons, List.length_nil, Nat.reduceAdd, Nat.reduceLeDiff, Nat.zero_le, List.mem_cons, List.not_mem_nil, or_false, or_true, false_or, true_or, Nat.reduceEqDiff, not_false_eq_true, reduceCtorEq, Option.map_some, List.cons.injEq, and_true, true_and, and_false, false_and, decide_true, decide_false, Bool.not_true, Bool.not_false, ne_eq, Nat.reduceMul, Nat.reduceSub, List.map_cons, List.map_nil, List.replicate, List.cons_append, List.nil_append, List.append_nil, List.length_append, Nat.zero_add, List.append_assoc, c1, e1, hs, n1, n2, n3]
  rfl
theorem part_pair (K : Nat) {s u : List Nat} {a : Int} {r : D} (hs : s.length ≤ 16777216) (ha : At s a (40 :: u)) (h : call Φ K 5 [.str s, .int (a + 1)] = .ok r []) : call Φ (K + 1) 6 [.str s, .int a] = .ok r [] := by
  have c1 := ha.cut1
  have e1 : List.take 1 (40 :: u) = [40] := rfl
  rw [Z.run_S (fn := ⟨2, [], 3, b6⟩) rfl rfl]
  simp -implicitDefEqProofs only [b6, Out.bind_ok, Out.bind_exc, Z.s_con, Z.s_var, Z.k_var, Z.s_tup, Z.s_lst, Z.s_dct, Z.s_bin, Z.s_neg, Z.s_cmp, Z.s_isN, Z.s_nt, Z.s_an, Z.s_or, Z.s_ite, Z.s_ixV, Z.s_ixR, Z.s_sl, Z.s_call, Z.s_bi, Z.s_isiV, Z.s_isiR, Z.s_mt, Z.s_fs, Z.s_lc, Z.t_con, Z.t_var, Z.t_bin, Z.t_cmp, Z.t_isN, Z.t_nt, Z.t_an, Z.t_or, Z.t_ixV, Z.t_ixR, Z.t_call, Z.t_bi, Z.t_isiV, Z.t_isiR, Z.t_mt, Z.a_nil, Z.a_val, Z.a_ref, Z.o_non, Z.o_som, Z.f_nil, Z.f_cons, Z.i_rng, Z.i_ov, Z.k_tru_b, Z.k_tru_i, Z.k_bin, Z.k_add, Z.k_sub, Z.k_mul, Z.k_fdiv, Z.k_mod, Z.k_pow, Z.k_app, Z.k_lapp, Z.k_cmp, Z.c_lt, Z.c_le, Z.c_gt, Z.c_ge, Z.c_eqi, Z.c_nei, Z.c_eqs, Z.c_nes, Z.c_ins, Z.c_int, Z.k_neg, Z.k_isN, Z.nn_0t, Z.nn_1t, Z.nn_0i, Z.nn_1i, Z.nn_0s, Z.nn_1s, Z.nn_0b, Z.nn_1b, Z.nn_0l, Z.nn_1l, Z.nn_0n, Z.nn_1n, Z.k_nt, Z.k_ntT, Z.k_an1, Z.k_an0, Z.k_anT1, Z.k_anT0, Z.k_or1, Z.k_or0, Z.k_orT1, Z.k_orT0, Z.k_ite1, Z.k_ite0, Z.k_ix, Z.k_ix2, Z.k_ixR, Z.k_ixr, Z.k_ref, Z.k_ref_i, Z.k_ref_s, Z.k_ref_b, Z.k_ref_n, Z.k_ref_t, Z.i_lst, Z.i_tup, Z.i_scr, Z.i_str, Z.i_dcs, Z.i_dci, Z.l_hit, Z.at_0, Z.at_1, Z.at_2, Z.at_3, Z.k_sl, Z.k_sl2, Z.k_sl3, Z.k_tup, Z.k_tup2, Z.k_lst, Z.k_lst2, Z.k_dct, Z.k_dct2, Z.v_nil, Z.v_cons, Z.k_pv, Z.k_c1, Z.k_c2, Z.k_c2k, Z.k_cb, Z.k_tk, Z.k_ret, Z.k_retX, Z.k_put, Z.k_putX, Z.tk_nil, Z.tk_v, Z.tk_r, Z.k_tv, Z.k_tr, Z.p_nil, Z.p_v0, Z.p_v1, Z.p_r, Z.r_nil, Z.r_in, Z.r_no, Z.k_bi, Z.pk_nil0, Z.pk_v, Z.pk_r, Z.some_bind, Z.b_lens, Z.b_lenl, Z.b_lent, Z.b_lenc, Z.b_inti, Z.b_str, Z.b_abs, Z.b_max, Z.b_min, Z.b_gcd, Z.b_all, Z.b_any, Z.k_isi, Z.k_isr, Z.k_mt, Z.k_mt2, Z.m_sw, Z.k_lc2, Z.k_a, Z.k_a2, Z.k_ar, Z.k_aref, Z.k_o, Z.k_f, Z.k_f2, Z.fm_s, Z.fm_i, Z.k_rng, Z.k_ov, Z.o_some, Z.x_nil, Z.x_cons, Z.k_sq, Z.k_sqr, Z.k_sqb, Z.k_sqc, Z.x_ex, Z.k_ex0, Z.x_set, Z.k_set, Z.x_mset, Z.k_ms, Z.k_ms2, Z.sm_nil, Z.sm_cons, Z.x_par, Z.k_par, Z.k_par2, Z.x_aug, Z.k_aug, Z.k_aug2a, Z.k_aug2s, Z.x_si, Z.k_si, Z.k_si1, Z.k_si2, Z.k_si3_0, Z.k_si3_1, Z.k_si3_2, Z.x_ret, Z.k_ret1, Z.x_retR, Z.k_retR, Z.x_retN, Z.x_if, Z.k_if1, Z.k_if0, Z.k_w0, Z.k_w1, Z.k_w2n, Z.k_w2c, Z.k_w2b, Z.k_w2r, Z.x_for, Z.fo_nil, Z.k_fon, Z.k_foc, Z.k_fob, Z.k_for2, Z.g_for, Z.g_lc, Z.x_brk, Z.x_cnt, Z.x_pas, Z.lk_0, Z.lk_S, Z.set_0, Z.set_S, Z.fz_i, Z.fz_s, Z.fz_b, Z.fz_n, Z.fz_t, Z.fz_l, Z.fz_c, Z.fl_nil, Z.fl_cons, Z.e_ret, Z.e_nx, ↓reduceIte, List.length_cons, List.length_nil, Nat.reduceAdd, Nat.reduceLeDiff, Nat.zero_le, List.mem_cons, List.not_mem_nil, or_false, or_true, false_or, true_or, Nat.reduceEqDiff, not_false_eq_true, reduceCtorEq, Option.map_some, List.cons.injEq, and_true, true_and, and_false, false_and, decide_true, decide_false, Bool.not_true, Bool.not_false, ne_eq, Nat.reduceMul, Nat.reduceSub, List.map_cons, List.map_nil, List.replicate, List.cons_append, List.nil_append, List.append_nil, List.length_append, Nat.zero_add, List.append_assoc, c1, e1, hs, h]
theorem part_wgh (K : Nat) {s u : List Nat} {a : Int} {r : D} {c : Nat} (hs : s.length ≤ 16777216) (ha : At s a (c :: u)) (hc : c = 45 ∨ (48 ≤ c ∧ c ≤ 57)) (h : call Φ K 4 [.str s, .int a] = .ok r []) : call Φ (K + 1) 6 [.str s, .int a] = .ok r [] := by
  have c1 := ha.cut1
  have e1 : List.take 1 (c :: u) = [c] := rfl
  have n1 : ¬ c = 40 := by omega
  have n2 : ¬ c = 46 := by omega
  have n3 : ¬ (c = 97 ∨ c = 98 ∨ c = 99 ∨ c = 100 ∨ c = 101 ∨ c = 102 ∨ c = 103 ∨ c = 104 ∨ c = 105 ∨ c = 106 ∨ c = 107 ∨ c = 108 ∨ c = 109 ∨ c = 110 ∨ c = 111 ∨ c = 112 ∨ c = 113 ∨ c = 114 ∨ c = 115 ∨ c = 116 ∨ c = 117 ∨ c = 118 ∨ c = 119 ∨ c = 120 ∨ c = 121 ∨ c = 122) := by omega
  rw [Z.run_S (fn := ⟨2, [], 3, b6⟩) rfl rfl]
  simp -implicitDefEqProofs only [b6, Out.bind_ok, Out.bind_exc, Z.s_con, Z.s_var, Z.k_var, Z.s_tup, Z.s_lst, Z.s_dct, Z.s_bin, Z.s_neg, Z.s_cmp, Z.s_isN, Z.s_nt, Z.s_an, Z.s_or, Z.s_ite, Z.s_ixV, Z.s_ixR, Z.s_sl, Z.s_call, Z.s_bi, Z.s_isiV, Z.s_isiR, Z.s_mt, Z.s_fs, Z.s_lc, Z.t_con, Z.t_var, Z.t_bin, Z.t_cmp, Z.t_isN, Z.t_nt, Z.t_an, Z.t_or, Z.t_ixV, Z.t_ixR, Z.t_call, Z.t_bi, Z.t_isiV, Z.t_isiR, Z.t_mt, Z.a_nil, Z.a_val, Z.a_ref, Z.o_non, Z.o_som, Z.f_nil, Z.f_cons, Z.i_rng, Z.i_ov, Z.k_tru_b, Z.k_tru_i, Z.k_bin, Z.k_add, Z.k_sub, Z.k_mul, Z.k_fdiv, Z.k_mod, Z.k_pow, Z.k_app, Z.k_lapp, Z.k_cmp, Z.c_lt, Z.c_le, Z.c_gt, Z.c_ge, Z.c_eqi, Z.c_nei, Z.c_eqs, Z.c_nes, Z.c_ins, Z.c_int, Z.k_neg, Z.k_isN, Z.nn_0t, Z.nn_1t, Z.nn_0i, Z.nn_1i, Z.nn_0s, Z.nn_1s, Z.nn_0b, Z.nn_1b, Z.nn_0l, Z.nn_1l, Z.nn_0n, Z.nn_1n, Z.k_nt, Z.k_ntT, Z.k_an1, Z.k_an0, Z.k_anT1, Z.k_anT0, Z.k_or1, Z.k_or0, Z.k_orT1, Z.k_orT0, Z.k_ite1, Z.k_ite0, Z.k_ix, Z.k_ix2, Z.k_ixR, Z.k_ixr, Z.k_ref, Z.k_ref_i, Z.k_ref_s, Z.k_ref_b, Z.k_ref_n, Z.k_ref_t, Z.i_lst, Z.i_tup, Z.i_scr, Z.i_str, Z.i_dcs, Z.i_dci, Z.l_hit, Z.at_0, Z.at_1, Z.at_2, Z.at_3, Z.k_sl, Z.k_sl2, Z.k_sl3, Z.k_tup, Z.k_tup2, Z.k_lst, Z.k_lst2, Z.k_dct, Z.k_dct2, Z.v_nil, Z.v_cons, Z.k_pv, Z.k_c1, Z.k_c2, Z.k_c2k, Z.k_cb, Z.k_tk, Z.k_ret, Z.k_retX, Z.k_put, Z.k_putX, Z.tk_nil, Z.tk_v, Z.tk_r, Z.k_tv, Z.k_tr, Z.p_nil, Z.p_v0, Z.p_v1, Z.p_r, Z.r_nil, Z.r_in, Z.r_no, Z.k_bi, Z.pk_nil0, Z.pk_v, Z.pk_r, Z.some_bind, Z.b_lens, Z.b_lenl, Z.b_lent, Z.b_lenc, Z.b_inti, Z.b_str, Z.b_abs, Z.b_max, Z.b_min, Z.b_gcd, Z.b_all, Z.b_any, Z.k_isi, Z.k_isr, Z.k_mt, Z.k_mt2, Z.m_sw, Z.k_lc2, Z.k_a, Z.k_a2, Z.k_ar, Z.k_aref, Z.k_o, Z.k_f, Z.k_f2, Z.fm_s, Z.fm_i, Z.k_rng, Z.k_ov, Z.o_some, Z.x_nil, Z.x_cons, Z.k_sq, Z.k_sqr, Z.k_sqb, Z.k_sqc, Z.x_ex, Z.k_ex0, Z.x_set, Z.k_set, Z.x_mset, Z.k_ms, Z.k_ms2, Z.sm_nil, Z.sm_cons, Z.x_par, Z.k_par, Z.k_par2, Z.x_aug, Z.k_aug, Z.k_aug2a, Z.k_aug2s, Z.x_si, Z.k_si, Z.k_si1, Z.k_si2, Z.k_si3_0, Z.k_si3_1, Z.k_si3_2, Z.x_ret, Z.k_ret1, Z.x_retR, Z.k_retR, Z.x_retN, Z.x_if, Z.k_if1, Z.k_if0, Z.k_w0, Z.k_w1, Z.k_w2n, Z.k_w2c, Z.k_w2b, Z.k_w2r, Z.x_for, Z.fo_nil, Z.k_fon, Z.k_foc, Z.k_fob, Z.k_for2, Z.g_for, Z.g_lc, Z.x_brk, Z.x_cnt, Z.x_pas, Z.lk_0, Z.lk_S, Z.set_0, Z.set_S, Z.fz_i, Z.fz_s, Z.fz_b, Z.fz_n, Z.fz_t, Z.fz_l, Z.fz_c, Z.fl_nil, Z.fl_cons, Z.e_ret, Z.e_nx, ↓reduceIte, List.length_cons, List.length_nil, Nat.reduceAdd, Nat.reduceLeDiff, Nat.zero_le, List.mem_cons, List.not_mem_nil, or_false, or_true, false_or, true_or, Nat.reduceEqDiff, not_false_eq_true, reduceCtorEq, Option.map_some, List.cons.injEq, and_true, true_and, and_false, false_and, decide_true, decide_false, Bool.not_true, Bool.not_false, ne_eq, Nat.reduceMul, Nat.reduceSub, List.map_cons, List.map_nil, List.replicate, List.cons_append, List.nil_append, List.append_nil, List.length_append, Nat.zero_add, List.append_assoc, c1, e1, hs, n1, n2, n3, h]
/-! pattern_at -/
def stars : Nat → Pt → Pt
  | 0, p => p
  | n + 1, p => stars n (.many p)
def ePt : Ex := (.an (.isN true (.var 2)) (.cmp .eq (.sl (.var 0) (.som (.ix .ref (.var 2) (.con (.int 1)))) (.som (.bin .add (.ix .ref (.var 2) (.con (.int 1))) (.con (.int 1))))) (.con (.str [42]))))
def ePb : Sts := (.cons (.set 2 (.tup (.cons .val (.tup (.cons .val (.con (.str [109, 97, 110, 121])) (.cons .val (.ix .ref (.var 2) (.con (.int 0))) .nil))) (.cons .val (.bin .add (.ix .ref (.var 2) (.con (.int 1))) (.con (.int 1))) .nil)))) .nil)
theorem fo_42 {u : List Nat} (h : Fo u) : (List.take 1 u = [42]) = False := by
  rcases h with rfl | ⟨c, t, rfl, hc⟩
  · simp
  · simp; omega
theorem star_loop {cf : CF} {s : List Nat} {a0 : D} (hs : s.length ≤ 16777216) : ∀ (m : Nat) (p : Pt) (u : List Nat) (a : Int) (n : Nat), At s a (List.replicate m 42 ++ u) → Fo u → m < n →
    whileF (evT cf ePt) (evSs cf ePb) n [some (.str s), some a0, some (.tup [p.D, .int a])] = .ok .nx [some (.str s), some a0, some (.tup [(stars m p).D, .int (a + (m : Int))])]
  | _, _, _, _, 0, _, _, h => absurd h (Nat.not_lt_zero _)
  | 0, p, u, a, n + 1, ha, hu, _ => by
    have ha : At s a u := by simpa using ha
    have c1 := ha.cut1
    have e1 := fo_42 hu
    have hf := p.fz
    rw [Z.w_S]
    have e : evT cf ePt [some (.str s), some a0, some (.tup [p.D, .int a])] = .ok false [some (.str s), some a0, some (.tup [p.D, .int a])] := by
      simp -implicitDefEqProofs only [ePt, Out.bind_ok, Out.bind_exc, Z.s_con, Z.s_var, Z.k_var, Z.s_tup, Z.s_lst, Z.s_dct, Z.s_bin, Z.s_neg, Z.s_cmp, Z.s_isN, Z.s_nt, Z.s_an, Z.s_or, Z.s_ite, Z.s_ixV, Z.s_ixR, Z.s_sl, Z.s_call, Z.s_bi, Z.s_isiV, Z.s_isiR, Z.s_mt, Z.s_fs, Z.s_lc, Z.t_con, Z.t_var, Z.t_bin, Z.t_cmp, Z.t_isN, Z.t_nt, Z.t_an, Z.t_or, Z.t_ixV, Z.t_ixR, Z.t_call, Z.t_bi, Z.t_isiV, Z.t_isiR, Z.t_mt, Z.a_nil, Z.a_val, Z.a_ref, Z.o_non, Z.o_som, Z.f_nil, Z.f_cons, Z.i_rng, Z.i_ov, Z.k_tru_b, Z.k_tru_i, Z.k_bin, Z.k_add, Z.k_sub, Z.k_mul, Z.k_fdiv, Z.k_mod, Z.k_pow, Z.k_app, Z.k_lapp, Z.k_cmp, Z.c_lt, Z.c_le, Z.c_gt, Z.c_ge, Z.c_eqi, Z.c_nei, Z.c_eqs, Z.c_nes, Z.c_ins, Z.c_int, Z.k_neg, Z.k_isN, Z.nn_0t, Z.nn_1t, Z.nn_0i, Z.nn_1i, Z.nn_0s, Z.nn_1s, Z.nn_0b, Z.nn_1b, Z.nn_0l, Z.nn_1l, Z.nn_0n, Z.nn_1n, Z.k_nt, Z.k_ntT, Z.k_an1, Z.k_an0, Z.k_anT1, Z.k_anT0, Z.k_or1, Z.k_or0, Z.k_orT1, Z.k_orT0, Z.k_ite1, Z.k_ite0, Z.k_ix, Z.k_ix2, Z.k_ixR, Z.k_ixr, Z.k_ref, Z.k_ref_i, Z.k_ref_s, Z.k_ref_b, Z.k_ref_n, Z.k_ref_t, Z.i_lst, Z.i_tup, Z.i_scr, Z.i_str, Z.i_dcs, Z.i_dci, Z.l_hit, Z.at_0, Z.at_1, Z.at_2, Z.at_3, Z.k_sl, Z.k_sl2, Z.k_sl3, Z.k_tup, Z.k_tup2, Z.k_lst, Z.k_lst2, Z.k_dct, Z.k_dct2, Z.v_nil, Z.v_cons, Z.k_pv, Z.k_c1, Z.k_c2, Z.k_c2k, Z.k_cb, Z.k_tk, Z.k_ret, Z.k_retX, Z.k_put, Z.k_putX, Z.tk_nil, Z.tk_v, Z.tk_r, Z.k_tv, Z.k_tr, Z.p_nil, Z.p_v0, Z.p_v1, Z.p_r, Z.r_nil, Z.r_in, Z.r_no, Z.k_bi, Z.pk_nil0, Z.pk_v, Z.pk_r, Z.some_bind, Z.b_lens, Z.b_lenl, Z.b_lent, Z.b_lenc, Z.b_inti, Z.b_str, Z.b_abs, Z.b_max, Z.b_min, Z.b_gcd, Z.b_all, Z.b_any, Z.k_isi, Z.k_isr, Z.k_mt, Z.k_mt2, Z.m_sw, Z.k_lc2, Z.k_a, Z.k_a2, Z.k_ar, Z.k_aref, Z.k_o, Z.k_f, Z.k_f2, Z.fm_s, Z.fm_i, Z.k_rng, Z.k_ov, Z.o_some, Z.x_nil, Z.x_cons, Z.k_sq, Z.k_sqr, Z.k_sqb, Z.k_sqc, Z.x_ex, Z.k_ex0, Z.x_set, Z.k_set, Z.x_mset, Z.k_ms, Z.k_ms2, Z.sm_nil, Z.sm_cons, Z.x_par, Z.k_par, Z.k_par2, Z.x_aug, Z.k_aug, Z.k_aug2a, Z.k_aug2s, Z.x_si, Z.k_si, Z.k_si1, Z.k_si2, Z.k_si3_0, Z.k_si3_1, Z.k_si3_2, Z.x_ret, Z.k_ret1, Z.x_retR, Z.k_retR, Z.x_retN, Z.x_if, Z.k_if1, Z.k_if0, Z.k_w0, Z.k_w1, Z.k_w2n, Z.k_w2c, Z.k_w2b, Z.k_w2r, Z.x_for, Z.fo_nil, Z.k_fon, Z.k_foc, Z.k_fob, Z.k_for2, Z.g_for, Z.g_lc, Z.x_brk, Z.x_cnt, Z.x_pas, Z.lk_0, Z.lk_S, Z.set_0, Z.set_S, Z.fz_i, Z.fz_s, Z.fz_b, Z.fz_n, Z.fz_t, Z.fz_l, Z.fz_c, Z.fl_nil, Z.fl_cons, Z.e_ret, Z.e_nx, ↓reduceIte, List.length_cons, List.length_nil, Nat.reduceAdd, Nat.reduceLeDiff, Nat.zero_le, List.mem_cons, List.not_mem_nil, or_false, or_true, false_or, true_or, Nat.reduceEqDiff, not_false_eq_true, reduceCtorEq, Option.map_some, List.cons.injEq, and_true, true_and, and_false, false_and, decide_true, decide_false, Bool.not_true, Bool.not_false, ne_eq, Nat.reduceMul, Nat.reduceSub, List.map_cons, List.map_nil, List.replicate, List.cons_append, List.nil_append, List.append_nil, List.length_append, Nat.zero_add, List.append_assoc, c1, e1, hs, hf]
    rw [e, Out.bind_ok, Z.k_w0]
    simp [stars]
  | m + 1, p, u, a, n + 1, ha, hu, hn => by
    have ha : At s a (42 :: (List.replicate m 42 ++ u)) := by simpa [List.replicate_succ] using ha
    have c1 := ha.cut1
    have e1 : List.take 1 (42 :: (List.replicate m 42 ++ u)) = [42] := rfl
    have hf := p.fz
    have ih := star_loop (cf := cf) (a0 := a0) hs m (.many p) u (a + 1) n ha.step1 hu (by omega)
    rw [Z.w_S]
    have e : evT cf ePt [some (.str s), some a0, some (.tup [p.D, .int a])] = .ok true [some (.str s), some a0, some (.tup [p.D, .int a])] := by
      simp -implicitDefEqProofs only [ePt, Out.bind_ok, Out.bind_exc, Z.s_con, Z.s_var, Z.k_var, Z.s_tup, Z.s_lst, Z.s_dct, Z.s_bin, Z.s_neg, Z.s_cmp, Z.s_isN, Z.s_nt, Z.s_an, Z.s_or, Z.s_ite, Z.s_ixV, Z.s_ixR, Z.s_sl, Z.s_call, Z.s_bi, Z.s_isiV, Z.s_isiR, Z.s_mt, Z.s_fs, Z.s_lc, Z.t_con, Z.t_var, Z.t_bin, Z.t_cmp, Z.t_isN, Z.t_nt, Z.t_an, Z.t_or, Z.t_ixV, Z.t_ixR, Z.t_call, Z.t_bi, Z.t_isiV, Z.t_isiR, Z.t_mt, Z.a_nil, Z.a_val, Z.a_ref, Z.o_non, Z.o_som, Z.f_nil, Z.f_cons, Z.i_rng, Z.i_ov, Z.k_tru_b, Z.k_tru_i, Z.k_bin, Z.k_add, Z.k_sub, Z.k_mul, Z.k_fdiv, Z.k_mod, Z.k_pow, Z.k_app, Z.k_lapp, Z.k_cmp, Z.c_lt, Z.c_le, Z.c_gt, Z.c_ge, Z.c_eqi, Z.c_nei, Z.c_eqs, Z.c_nes, Z.c_ins, Z.c_int, Z.k_neg, Z.k_isN, Z.nn_0t, Z.nn_1t, Z.nn_0i, Z.nn_1i, Z.nn_0s, Z.nn_1s, Z.nn_0b, Z.nn_1b, Z.nn_0l, Z.nn_1l, Z.nn_0n, Z.nn_1n, Z.k_nt, Z.k_ntT, Z.k_an1, Z.k_an0, Z.k_anT1, Z.k_anT0, Z.k_or1, Z.k_or0, Z.k_orT1, Z.k_orT0, Z.k_ite1, Z.k_ite0, Z.k_ix, Z.k_ix2, Z.k_ixR, Z.k_ixr, Z.k_ref, Z.k_ref_i, Z.k_ref_s, Z.k_ref_b, Z.k_ref_n, Z.k_ref_t, Z.i_lst, Z.i_tup, Z.i_scr, Z.i_str, Z.i_dcs, Z.i_dci, Z.l_hit, Z.at_0, Z.at_1, Z.at_2, Z.at_3, Z.k_sl, Z.k_sl2, Z.k_sl3, Z.k_tup, Z.k_tup2, Z.k_lst, Z.k_lst2, Z.k_dct, Z.k_dct2, Z.v_nil, Z.v_cons, Z.k_pv, Z.k_c1, Z.k_c2, Z.k_c2k, Z.k_cb, Z.k_tk, Z.k_ret, Z.k_retX, Z.k_put, Z.k_putX, Z.tk_nil, Z.tk_v, Z.tk_r, Z.k_tv, Z.k_tr, Z.p_nil, Z.p_v0, Z.p_v1, Z.p_r, Z.r_nil, Z.r_in, Z.r_no, Z.k_bi, Z.pk_nil0, Z.pk_v, Z.pk_r, Z.some_bind, Z.b_lens, Z.b_lenl, Z.b_lent, Z.b_lenc, Z.b_inti, Z.b_str, Z.b_abs, Z.b_max, Z.b_min, Z.b_gcd, Z.b_all, Z.b_any, Z.k_isi, Z.k_isr, Z.k_mt, Z.k_mt2, Z.m_sw, Z.k_lc2, Z.k_a, Z.k_a2, Z.k_ar, Z.k_aref, Z.k_o, Z.k_f, Z.k_f2, Z.fm_s, Z.fm_i, Z.k_rng, Z.k_ov, Z.o_some, Z.x_nil, Z.x_cons, Z.k_sq, Z.k_sqr, Z.k_sqb, Z.k_sqc, Z.x_ex, Z.k_ex0, Z.x_set, Z.k_set, Z.x_mset, Z.k_ms, Z.k_ms2, Z.sm_nil, Z.sm_cons, Z.x_par, Z.k_par, Z.k_par2, Z.x_aug, Z.k_aug, Z.k_aug2a, Z.k_aug2s, Z.x_si, Z.k_si, Z.k_si1, Z.k_si2, Z.k_si3_0, Z.k_si3_1, Z.k_si3_2, Z.x_ret, Z.k_ret1, Z.x_retR, Z.k_retR, Z.x_retN, Z.x_if, Z.k_if1, Z.k_if0, Z.k_w0, Z.k_w1, Z.k_w2n, Z.k_w2c, Z.k_w2b, Z.k_w2r, Z.x_for, Z.fo_nil, Z.k_fon, Z.k_foc, Z.k_fob, Z.k_for2, Z.g_for, Z.g_lc, Z.x_brk, Z.x_cnt, Z.x_pas, Z.lk_0, Z.lk_S, Z.set_0, Z.set_S, Z.fz_i, Z.fz_s, Z.fz_b, Z.fz_n, Z.fz_t, Z.fz_l, Z.fz_c, Z.fl_nil, Z.fl_cons, Z.e_ret, Z.e_nx, ↓reduceIte, List.length_cons, List.length_nil, Nat.reduceAdd, Nat.reduceLeDiff, Nat.zero_le, List.mem_cons, List.not_mem_nil, or_false, or_true, false_or, true_or, Nat.reduceEqDiff, not_false_eq_true, reduceCtorEq, Option.map_some, List.cons.injEq, and_true, true_and, and_false, false_and, decide_true, decide_false, Bool.not_true, Bool.not_false, ne_eq, Nat.reduceMul, Nat.reduceSub, List.map_cons, List.map_nil, List.replicate, List.cons_append, List.nil_append, List.append_nil, List.length_append, Nat.zero_add, List.append_assoc, c1, e1, hs, hf]
    have e2 : evSs cf ePb [some (.str s), some a0, some (.tup [p.D, .int a])] = .ok .nx [some (.str s), some a0, some (.tup [Pt.D (.many p), .int (a + 1)])] := by
      simp -implicitDefEqProofs only [ePb, Out.bind_ok, Out.bind_exc, Z.s_con, Z.s_var, Z.k_var, Z.s_tup, Z.s_lst, Z.s_dct, Z.s_bin, Z.s_neg, Z.s_cmp, Z.s_isN, Z.s_nt, Z.s_an, Z.s_or, Z.s_ite, Z.s_ixV, Z.s_ixR, Z.s_sl, Z.s_call, Z.s_bi, Z.s_isiV, Z.s_isiR, Z.s_mt, Z.s_fs, Z.s_lc, Z.t_con, Z.t_var, Z.t_bin, Z.t_cmp, Z.t_isN, Z.t_nt, Z.t_an, Z.t_or, Z.t_ixV, Z.t_ixR, Z.t_call, Z.t_bi, Z.t_isiV, Z.t_isiR, Z.t_mt, Z.a_nil, Z.a_val, Z.a_ref, Z.o_non, Z.o_som, Z.f_nil, Z.f_cons, Z.i_rng, Z.i_ov, Z.k_tru_b, Z.k_tru_i, Z.k_bin, Z.k_add, Z.k_sub, Z.k_mul, Z.k_fdiv, Z.k_mod, Z.k_pow, Z.k_app, Z.k_lapp, Z.k_cmp, Z.c_lt, Z.c_le, Z.c_gt, Z.c_ge, Z.c_eqi, Z.c_nei, Z.c_eqs, Z.c_nes, Z.c_ins, Z.c_int, Z.k_neg, Z.k_isN, Z.nn_0t, Z.nn_1t, Z.nn_0i, Z.nn_1i, Z.nn_0s, Z.nn_1s, Z.nn_0b, Z.nn_1b, Z.nn_0l, Z.nn_1l, Z.nn_0n, Z.nn_1n, Z.k_nt, Z.k_ntT, Z.k_an1, Z.k_an0, Z.k_anT1, Z.k_anT0, Z.k_or1, Z.k_or0, Z.k_orT1, Z.k_orT0, Z.k_ite1, Z.k_ite0, Z.k_ix, Z.k_ix2, Z.k_ixR, Z.k_ixr, Z.k_ref, Z.k_ref_i, Z.k_ref_s, Z.k_ref_b, Z.k_ref_n, Z.k_ref_t, Z.i_lst, Z.i_tup, Z.i_scr, Z.i_str, Z.i_dcs, Z.i_dci, Z.l_hit, Z.at_0, Z.at_1, Z.at_2, Z.at_3, Z.k_sl, Z.k_sl2, Z.k_sl3, Z.k_tup, Z.k_tup2, Z.k_lst, Z.k_lst2, Z.k_dct, Z.k_dct2, Z.v_nil, Z.v_cons, Z.k_pv, Z.k_c1, Z.k_c2, Z.k_c2k, Z.k_cb, Z.k_tk, Z.k_ret, Z.k_retX, Z.k_put, Z.k_putX, Z.tk_nil, Z.tk_v, Z.tk_r, Z.k_tv, Z.k_tr, Z.p_nil, Z.p_v0, Z.p_v1, Z.p_r, Z.r_nil, Z.r_in, Z.r_no, Z.k_bi, Z.pk_nil0, Z.pk_v, Z.pk_r, Z.some_bind, Z.b_lens, Z.b_lenl, Z.b_lent, Z.b_lenc, Z.b_inti, Z.b_str, Z.b_abs, Z.b_max, Z.b_min, Z.b_gcd, Z.b_all, Z.b_any, Z.k_isi, Z.k_isr, Z.k_mt, Z.k_mt2, Z.m_sw, Z.k_lc2, Z.k_a, Z.k_a2, Z.k_ar, Z.k_aref, Z.k_o, Z.k_f, Z.k_f2, Z.fm_s, Z.fm_i, Z.k_rng, Z.k_ov, Z.o_some, Z.x_nil, Z.x_cons, Z.k_sq, Z.k_sqr, Z.k_sqb, Z.k_sqc, Z.x_ex, Z.k_ex0, Z.x_set, Z.k_set, Z.x_mset, Z.k_ms, Z.k_ms2, Z.sm_nil, Z.sm_cons, Z.x_par, Z.k_par, Z.k_par2, Z.x_aug, Z.k_aug, Z.k_aug2a, Z.k_aug2s, Z.x_si, Z.k_si, Z.k_si1, Z.k_si2, Z.k_si3_0, Z.k_si3_1, Z.k_si3_2, Z.x_ret, Z.k_ret1, Z.x_retR, Z.k_retR, Z.x_retN, Z.x_if, Z.k_if1, Z.k_if0, Z.k_w0, Z.k_w1, Z.k_w2n, Z.k_w2c, Z.k_w2b, Z.k_w2r, Z.x_for, Z.fo_nil, Z.k_fon, Z.k_foc, Z.k_fob, Z.k_for2, Z.g_for, Z.g_lc, Z.x_brk, Z.x_cnt, Z.x_pas, Z.lk_0, Z.lk_S, Z.set_0, Z.set_S, Z.fz_i, Z.fz_s, Z.fz_b, Z.fz_n, Z.fz_t, Z.fz_l, Z.fz_c, Z.fl_nil, Z.fl_cons, Z.e_ret, Z.e_nx, ↓reduceIte, List.length_cons, List.length_nil, Nat.reduceAdd, Nat.reduceLeDiff, Nat.zero_le, List.mem_cons, List.not_mem_nil, or_false, or_true, false_or, true_or, Nat.reduceEqDiff, not_false_eq_true, reduceCtorEq, Option.map_some, List.cons.injEq, and_true, true_and, and_false, false_and, decide_true, decide_false, Bool.not_true, Bool.not_false, ne_eq, Nat.reduceMul, Nat.reduceSub, List.map_cons, List.map_nil, List.replicate, List.cons_append, List.nil_append, List.append_nil, List.length_append, Nat.zero_add, List.append_assoc, hf, ref_pl]
      rfl
    have e3 : a + 1 + (m : Int) = a + ((m + 1 : Nat) : Int) := by omega
    rw [e, Out.bind_ok, Z.k_w1, e2, Out.bind_ok, Z.k_w2n, ih, e3]
    rfl
theorem pattern_core (K : Nat) {s u : List Nat} {a b : Int} {p : Pt} {m : Nat} (hs : s.length ≤ 16777216) (h : call Φ K 6 [.str s, .int a] = .ok (.tup [p.D, .int b]) []) (ha : At s b (List.replicate m 42 ++ u)) (hu : Fo u) :
    call Φ (K + 1) 7 [.str s, .int a] = .ok (.tup [(stars m p).D, .int (b + (m : Int))]) [] := by
  have hm : m ≤ s.length := by
    obtain ⟨i, rfl, hi, e⟩ := ha
    have := congrArg List.length e
    rw [List.length_drop, List.length_append, List.length_replicate] at this
    omega
  have hl := star_loop (cf := call Φ K) (a0 := .int a) hs m p u b turns ha hu (by unfold turns; omega)
  unfold ePt ePb at hl
  rw [Z.run_S (fn := ⟨2, [], 3, b7⟩) rfl rfl]
  simp -implicitDefEqProofs only [b7, Out.bind_ok, Out.bind_exc, Z.s_con, Z.s_var, Z.k_var, Z.s_tup, Z.s_lst, Z.s_dct, Z.s_bin, Z.s_neg, Z.s_cmp, Z.s_isN, Z.s_nt, Z.s_an, Z.s_or, Z.s_ite, Z.s_ixV, Z.s_ixR, Z.s_sl, Z.s_call, Z.s_bi, Z.s_isiV, Z.s_isiR, Z.s_mt, Z.s_fs, Z.s_lc, Z.t_con, Z.t_var, Z.t_bin, Z.t_cmp, Z.t_isN, Z.t_nt, Z.t_an, Z.t_or, Z.t_ixV, Z.t_ixR, Z.t_call, Z.t_bi, Z.t_isiV, Z.t_isiR, Z.t_mt, Z.a_nil, Z.a_val, Z.a_ref, Z.o_non, Z.o_som, Z.f_nil, Z.f_cons, Z.i_rng, Z.i_ov, Z.k_tru_b, Z.k_tru_i, Z.k_bin, Z.k_add, Z.k_sub, Z.k_mul, Z.k_fdiv, Z.k_mod, Z.k_pow, Z.k_app, Z.k_lapp, Z.k_cmp, Z.c_lt, Z.c_le, Z.c_gt, Z.c_ge, Z.c_eqi, Z.c_nei, Z.c_eqs, Z.c_nes, Z.c_ins, Z.c_int, Z.k_neg, Z.k_isN, Z.nn_0t, Z.nn_1t, Z.nn_0i, Z.nn_1i, Z.nn_0s, Z.nn_1s, Z.nn_0b, Z.nn_1b, Z.nn_0l, Z.nn_1l, Z.nn_0n, Z.nn_1n, Z.k_nt, Z.k_ntT, Z.k_an1, Z.k_an0, Z.k_anT1, Z.k_anT0, Z.k_or1, Z.k_or0, Z.k_orT1, Z.k_orT0, Z.k_ite1, Z.k_ite0, Z.k_ix, Z.k_ix2, Z.k_ixR, Z.k_ixr, Z.k_ref, Z.k_ref_i, Z.k_ref_s, Z.k_ref_b, Z.k_ref_n, Z.k_ref_t, Z.i_lst, Z.i_tup, Z.i_scr, Z.i_str, Z.i_dcs, Z.i_dci, Z.l_hit, Z.at_0, Z.at_1, Z.at_2, Z.at_3, Z.k_sl, Z.k_sl2, Z.k_sl3, Z.k_tup, Z.k_tup2, Z.k_lst, Z.k_lst2, Z.k_dct, Z.k_dct2, Z.v_nil, Z.v_cons, Z.k_pv, Z.k_c1, Z.k_c2, Z.k_c2k, Z.k_cb, Z.k_tk, Z.k_ret, Z.k_retX, Z.k_put, Z.k_putX, Z.tk_nil, Z.tk_v, Z.tk_r, Z.k_tv, Z.k_tr, Z.p_nil, Z.p_v0, Z.p_v1, Z.p_r, Z.r_nil, Z.r_in, Z.r_no, Z.k_bi, Z.pk_nil0, Z.pk_v, Z.pk_r, Z.some_bind, Z.b_lens, Z.b_lenl, Z.b_lent, Z.b_lenc, Z.b_inti, Z.b_str, Z.b_abs, Z.b_max, Z.b_min, Z.b_gcd, Z.b_all, Z.b_any, Z.k_isi, Z.k_isr, Z.k_mt, Z.k_mt2, Z.m_sw, Z.k_lc2, Z.k_a, Z.k_a2, Z.k_ar, Z.k_aref, Z.k_o, Z.k_f, Z.k_f2, Z.fm_s, Z.fm_i, Z.k_rng, Z.k_ov, Z.o_some, Z.x_nil, Z.x_cons, Z.k_sq, Z.k_sqr, Z.k_sqb, Z.k_sqc, Z.x_ex, Z.k_ex0, Z.x_set, Z.k_set, Z.x_mset, Z.k_ms, Z.k_ms2, Z.sm_nil, Z.sm_cons, Z.x_par, Z.k_par, Z.k_par2, Z.x_aug, Z.k_aug, Z.k_aug2a, Z.k_aug2s, Z.x_si, Z.k_si, Z.k_si1, Z.k_si2, Z.k_si3_0, Z.k_si3_1, Z.k_si3_2, Z.x_ret, Z.k_ret1, Z.x_retR, Z.k_retR, Z.x_retN, Z.x_if, Z.k_if1, Z.k_if0, Z.k_w0, Z.k_w1, Z.k_w2n, Z.k_w2c, Z.k_w2b, Z.k_w2r, Z.x_for, Z.fo_nil, Z.k_fon, Z.k_foc, Z.k_fob, Z.k_for2, Z.g_for, Z.g_lc, Z.x_brk, Z.x_cnt, Z.x_pas, Z.lk_0, Z.lk_S, Z.set_0, Z.set_S, Z.fz_i, Z.fz_s, Z.fz_b, Z.fz_n, Z.fz_t, Z.fz_l, Z.fz_c, Z.fl_nil, Z.fl_cons, Z.e_ret, Z.e_nx, ↓reduceIte, List.length_cons, List.length_nil, Nat.reduceAdd, Nat.reduceLeDiff, Nat.zero_le, List.mem_cons, List.not_mem_nil, or_false, or_true, false_or, true_or, Nat.reduceEqDiff, not_false_eq_true, reduceCtorEq, Option.map_some, List.cons.injEq, and_true, true_and, and_false, false_and, decide_true, decide_false, Bool.not_true, Bool.not_false, ne_eq, Nat.reduceMul, Nat.reduceSub, List.map_cons, List.map_nil, List.replicate, List.cons_append, List.nil_append, List.append_nil, List.length_append, Nat.zero_add, List.append_assoc, h, Z.x_whl, hl]
/-! all patterns -/
def Pt.many? : Pt → Bool
  | .many _ => true
  | _ => false
def Pt.core : Pt → Pt
  | .many p => p.core
  | p => p
def Pt.st : Pt → Nat
  | .many p => p.st + 1
  | _ => 0
theorem core_not : ∀ p : Pt, p.core.many? = false
  | .many p => core_not p
  | .any => rfl
  | .emp => rfl
  | .non => rfl
  | .sig _ => rfl
  | .wgh _ _ _ => rfl
  | .alt _ _ => rfl
  | .seq _ _ => rfl
theorem stars_S (n : Nat) : ∀ p : Pt, stars (n + 1) p = .many (stars n p) := by
  induction n with
  | zero => intro p; rfl
  | succ n ih => intro p; exact ih (.many p)
theorem core_all : ∀ p : Pt, stars p.st p.core = p ∧ p.T = p.core.T ++ List.replicate p.st 42 ∧ p.core.dp ≤ p.dp ∧ (p.ok → p.core.ok)
  | .many p => by
    obtain ⟨h1, h2, h3, h4⟩ := core_all p
    refine ⟨?_, ?_, Nat.le_succ_of_le h3, h4⟩
    · show stars (p.st + 1) p.core = _
      rw [stars_S, h1]
    · show p.T ++ [42] = p.core.T ++ List.replicate (p.st + 1) 42
      rw [h2, List.append_assoc, List.replicate_succ']
  | .any => ⟨rfl, rfl, Nat.le_refl _, fun h => h⟩
  | .emp => ⟨rfl, rfl, Nat.le_refl _, fun h => h⟩
  | .non => ⟨rfl, rfl, Nat.le_refl _, fun h => h⟩
  | .sig _ => ⟨rfl, rfl, Nat.le_refl _, fun h => h⟩
  | .wgh _ _ _ => ⟨rfl, by show _ = _ ++ []; rw [List.append_nil]; rfl, Nat.le_refl _, fun h => h⟩
  | .alt _ _ => ⟨rfl, by show _ = _ ++ []; rw [List.append_nil]; rfl, Nat.le_refl _, fun h => h⟩
  | .seq _ _ => ⟨rfl, by show _ = _ ++ []; rw [List.append_nil]; rfl, Nat.le_refl _, fun h => h⟩
/-- parts of depth N, patterns of depth below N read -/
theorem part_all (N k : Nat) {s : List Nat} (hs : s.length ≤ 16777216)
    (ih : ∀ (p : Pt) (a : Int) (u : List Nat), p.ok → p.dp < N → At s a (p.T ++ u) → Fo u → call Φ (k + 3 * N) 7 [.str s, .int a] = .ok (.tup [p.D, .int (a + (p.T.length : Int))]) []) :
    ∀ (p : Pt) (a : Int) (u : List Nat), p.many? = false → p.ok → p.dp ≤ N → At s a (p.T ++ u) → Fs u → call Φ (k + 3 * N + 2) 6 [.str s, .int a] = .ok (.tup [p.D, .int (a + (p.T.length : Int))]) []
  | .any, a, u, _, _, _, ha, _ => part_any _ hs ha
  | .emp, a, u, _, _, _, ha, hu => part_wgh _ hs ha (by omega) (weigh_emp _ hs ha hu)
  | .non, a, u, _, _, _, ha, hu => part_wgh _ hs ha (by omega) (weigh_non _ hs ha hu)
  | .sig c, a, u, _, ho, _, ha, _ => part_sig _ hs ha ho.1 ho.2
  | .many p, _, _, h, _, _, _, _ => nomatch h
  | .wgh x y p, a, u, _, ho, hd, ha, hu => by
    have ha : At s a (wT x y ++ 91 :: (p.T ++ 93 :: u)) := by
      have : Pt.T (.wgh x y p) ++ u = wT x y ++ 91 :: (p.T ++ 93 :: u) := by show (wT x y ++ 91 :: (p.T ++ [93])) ++ u = _; simp
      rw [this] at ha; exact ha
    obtain ⟨c, r, e, hc⟩ := wT_head ho.1
    obtain ⟨N, rfl⟩ : ∃ M, N = M + 1 := ⟨N - 1, by unfold Pt.dp at hd; omega⟩
    have hd2 : p.dp < N + 1 := by unfold Pt.dp at hd; omega
    have hp := ih p _ (93 :: u) ho.2 hd2 ha.step.step1 (.inr ⟨93, u, rfl, .inl rfl⟩)
    have hw := weigh_wgh (k + 3 * N + 1) hs ho.1 ha hp
    have hr := part_wgh (k + 3 * (N + 1) + 1) hs (c := c) (u := r ++ 91 :: (p.T ++ 93 :: u)) (by rw [e] at ha; exact ha) hc hw
    rw [show k + 3 * (N + 1) + 1 + 1 = k + 3 * (N + 1) + 2 by omega] at hr
    rw [hr]
    have hl : (Pt.T (.wgh x y p)).length = (wT x y).length + 1 + p.T.length + 1 := by show (wT x y ++ 91 :: (p.T ++ [93])).length = _; simp; omega
    rw [hl, show a + ((wT x y).length : Int) + 1 + (p.T.length : Int) + 1 = a + (((wT x y).length + 1 + p.T.length + 1 : Nat) : Int) by omega]
  | .alt p q, a, u, _, ho, hd, ha, hu => by
    have ha : At s a (40 :: (p.T ++ 32 :: 43 :: 32 :: (q.T ++ 41 :: u))) := by
      have : Pt.T (.alt p q) ++ u = 40 :: (p.T ++ 32 :: 43 :: 32 :: (q.T ++ 41 :: u)) := by show (40 :: (p.T ++ 32 :: 43 :: 32 :: (q.T ++ [41]))) ++ u = _; simp
      rw [this] at ha; exact ha
    have hd2 : p.dp < N := by unfold Pt.dp at hd; omega
    have hd3 : q.dp < N := by unfold Pt.dp at hd; omega
    have hp := ih p _ _ ho.1 hd2 ha.step1 (.inr ⟨32, _, rfl, .inr (.inr rfl)⟩)
    have hq := ih q _ _ ho.2 hd3 ha.step1.step.step3 (.inr ⟨41, u, rfl, .inr (.inl rfl)⟩)
    have hw := pair_alt (k + 3 * N) hs ha.step1 hp hq
    have hr := part_pair (k + 3 * N + 1) hs ha hw
    rw [hr]
    have hl : (Pt.T (.alt p q)).length = p.T.length + q.T.length + 5 := by show (40 :: (p.T ++ 32 :: 43 :: 32 :: (q.T ++ [41]))).length = _; simp; omega
    rw [hl, show a + 1 + (p.T.length : Int) + 3 + (q.T.length : Int) + 1 = a + ((p.T.length + q.T.length + 5 : Nat) : Int) by omega]
  | .seq p q, a, u, _, ho, hd, ha, hu => by
    have ha : At s a (40 :: (p.T ++ 32 :: (q.T ++ 41 :: u))) := by
      have : Pt.T (.seq p q) ++ u = 40 :: (p.T ++ 32 :: (q.T ++ 41 :: u)) := by show (40 :: (p.T ++ 32 :: (q.T ++ [41]))) ++ u = _; simp
      rw [this] at ha; exact ha
    have hd2 : p.dp < N := by unfold Pt.dp at hd; omega
    have hd3 : q.dp < N := by unfold Pt.dp at hd; omega
    have hp := ih p _ _ ho.1 hd2 ha.step1 (.inr ⟨32, _, rfl, .inr (.inr rfl)⟩)
    have hq := ih q _ _ ho.2 hd3 ha.step1.step.step1 (.inr ⟨41, u, rfl, .inr (.inl rfl)⟩)
    have hw := pair_seq (k + 3 * N) hs ho.2 ha.step1 hp hq
    have hr := part_pair (k + 3 * N + 1) hs ha hw
    rw [hr]
    have hl : (Pt.T (.seq p q)).length = p.T.length + q.T.length + 3 := by show (40 :: (p.T ++ 32 :: (q.T ++ [41]))).length = _; simp; omega
    rw [hl, show a + 1 + (p.T.length : Int) + 1 + (q.T.length : Int) + 1 = a + ((p.T.length + q.T.length + 3 : Nat) : Int) by omega]
theorem pattern_all (k : Nat) {s : List Nat} (hs : s.length ≤ 16777216) : ∀ (N : Nat) (p : Pt) (a : Int) (u : List Nat), p.ok → p.dp < N → At s a (p.T ++ u) → Fo u → call Φ (k + 3 * N) 7 [.str s, .int a] = .ok (.tup [p.D, .int (a + (p.T.length : Int))]) []
  | 0, p, _, _, _, h, _, _ => absurd h (Nat.not_lt_zero _)
  | N + 1, p, a, u, ho, hd, ha, hu => by
    obtain ⟨h1, h2, h3, h4⟩ := core_all p
    rw [h2, List.append_assoc] at ha
    have hfs : Fs (List.replicate p.st 42 ++ u) := by
      cases p.st with
      | zero => exact .inl hu
      | succ m => exact .inr ⟨_, rfl⟩
    have hc := part_all N k hs (fun p a u => pattern_all k hs N p a u) p.core a _ (core_not p) (h4 ho) (by omega) ha hfs
    have hp := pattern_core (k + 3 * N + 2) hs hc ha.step hu
    rw [show k + 3 * (N + 1) = k + 3 * N + 2 + 1 by omega, hp, h1]
    have hl : p.T.length = p.core.T.length + p.st := by rw [h2, List.length_append, List.length_replicate]
    rw [hl, show a + (p.core.T.length : Int) + (p.st : Int) = a + ((p.core.T.length + p.st : Nat) : Int) by omega]
theorem read_ok (k N : Nat) {p : Pt} (ho : p.ok) (hd : p.dp < N) (hz : 24 * p.sz ≤ 16777216) : call Φ (k + 3 * N + 1) 8 [.str p.T] = .ok p.D [] := by
  have hl := Pt.len ho
  have hs : p.T.length ≤ 16777216 := by omega
  have h := pattern_all k hs N p 0 [] ho hd ⟨0, rfl, Nat.zero_le _, by rw [List.append_nil]; rfl⟩ (.inl rfl)
  rw [Int.zero_add] at h
  have hf := p.fz
  rw [Z.run_S (fn := ⟨1, [], 2, b8⟩) rfl rfl]
  simp -implicitDefEqProofs only [b8, Out.bind_ok, Out.bind_exc, Z.s_con, Z.s_var, Z.k_var, Z.s_tup, Z.s_lst, Z.s_dct, Z.s_bin, Z.s_neg, Z.s_cmp, Z.s_isN, Z.s_nt, Z.s_an, Z.s_or, Z.s_ite, Z.s_ixV, Z.s_ixR, Z.s_sl, Z.s_call, Z.s_bi, Z.s_isiV, Z.s_isiR, Z.s_mt, Z.s_fs, Z.s_lc, Z.t_con, Z.t_var, Z.t_bin, Z.t_cmp, Z.t_isN, Z.t_nt, Z.t_an, Z.t_or, Z.t_ixV, Z.t_ixR, Z.t_call, Z.t_bi, Z.t_isiV, Z.t_isiR, Z.t_mt, Z.a_nil, Z.a_val, Z.a_ref, Z.o_non, Z.o_som, Z.f_nil, Z.f_cons, Z.i_rng, Z.i_ov, Z.k_tru_b, Z.k_tru_i, Z.k_bin, Z.k_add, Z.k_sub, Z.k_mul, Z.k_fdiv, Z.k_mod, Z.k_pow, Z.k_app, Z.k_lapp, Z.k_cmp, Z.c_lt, Z.c_le, Z.c_gt, Z.c_ge, Z.c_eqi, Z.c_nei, Z.c_eqs, Z.c_nes, Z.c_ins, Z.c_int, Z.k_neg, Z.k_isN, Z.nn_0t, Z.nn_1t, Z.nn_0i, Z.nn_1i, Z.nn_0s, Z.nn_1s, Z.nn_0b, Z.nn_1b, Z.nn_0l, Z.nn_1l, Z.nn_0n, Z.nn_1n, Z.k_nt, Z.k_ntT, Z.k_an1, Z.k_an0, Z.k_anT1, Z.k_anT0, Z.k_or1, Z.k_or0, Z.k_orT1, Z.k_orT0, Z.k_ite1, Z.k_ite0, Z.k_ix, Z.k_ix2, Z.k_ixR, Z.k_ixr, Z.k_ref, Z.k_ref_i, Z.k_ref_s, Z.k_ref_b, Z.k_ref_n, Z.k_ref_t, Z.i_lst, Z.i_tup, Z.i_scr, Z.i_str, Z.i_dcs, Z.i_dci, Z.l_hit, Z.at_0, Z.at_1, Z.at_2, Z.at_3, Z.k_sl, Z.k_sl2, Z.k_sl3, Z.k_tup, Z.k_tup2, Z.k_lst, Z.k_lst2, Z.k_dct, Z.k_dct2, Z.v_nil, Z.v_cons, Z.k_pv, Z.k_c1, Z.k_c2, Z.k_c2k, Z.k_cb, Z.k_tk, Z.k_ret, Z.k_retX, Z.k_put, Z.k_putX, Z.tk_nil, Z.tk_v, Z.tk_r, Z.k_tv, Z.k_tr, Z.p_nil, Z.p_v0, Z.p_v1, Z.p_r, Z.r_nil, Z.r_in, Z.r_no, Z.k_bi, Z.pk_nil0, Z.pk_v, Z.pk_r, Z.some_bind, Z.b_lens, Z.b_lenl, Z.b_lent, Z.b_lenc, Z.b_inti, Z.b_str, Z.b_abs, Z.b_max, Z.b_min, Z.b_gcd, Z.b_all, Z.b_any, Z.k_isi, Z.k_isr, Z.k_mt, Z.k_mt2, Z.m_sw, Z.k_lc2, Z.k_a, Z.k_a2, Z.k_ar, Z.k_aref, Z.k_o, Z.k_f, Z.k_f2, Z.fm_s, Z.fm_i, Z.k_rng, Z.k_ov, Z.o_some, Z.x_nil, Z.x_cons, Z.k_sq, Z.k_sqr, Z.k_sqb, Z.k_sqc, Z.x_ex, Z.k_ex0, Z.x_set, Z.k_set, Z.x_mset, Z.k_ms, Z.k_ms2, Z.sm_nil, Z.sm_cons, Z.x_par, Z.k_par, Z.k_par2, Z.x_aug, Z.k_aug, Z.k_aug2a, Z.k_aug2s, Z.x_si, Z.k_si, Z.k_si1, Z.k_si2, Z.k_si3_0, Z.k_si3_1, Z.k_si3_2, Z.x_ret, Z.k_ret1, Z.x_retR, Z.k_retR, Z.x_retN, Z.x_if, Z.k_if1, Z.k_if0, Z.k_w0, Z.k_w1, Z.k_w2n, Z.k_w2c, Z.k_w2b, Z.k_w2r, Z.x_for, Z.fo_nil, Z.k_fon, Z.k_foc, Z.k_fob, Z.k_for2, Z.g_for, Z.g_lc, Z.x_brk, Z.x_cnt, Z.x_pas, Z.lk_0, Z.lk_S, Z.set_0, Z.set_S, Z.fz_i, Z.fz_s, Z.fz_b, Z.fz_n, Z.fz_t, Z.fz_l, Z.fz_c, Z.fl_nil, Z.fl_cons, Z.e_ret, Z.e_nx, ↓reduceIte, List.length_cons, List.length_nil, Nat.reduceAdd, Nat.reduceLeDiff, Nat.zero_le, List.mem_cons, List.not_mem_nil, or_false, or_true, false_or, true_or, Nat.reduceEqDiff, not_false_eq_true, reduceCtorEq, Option.map_some, List.cons.injEq, and_true, true_and, and_false, false_and, decide_true, decide_false, Bool.not_true, Bool.not_false, ne_eq, Nat.reduceMul, Nat.reduceSub, List.map_cons, List.map_nil, List.replicate, List.cons_append, List.nil_append, List.append_nil, List.length_append, Nat.zero_add, List.append_assoc, h, hs, hf, ref_pl]
end K85

namespace K85
open PySem Ev
theorem numbers_right_ok (k : Nat) {n : Nat} {w : D} (h : Wl n w) (hn : n < 2 ^ 36) : ∃ w', call Φ (k + 91) 21 [w] = .ok (.bl true) [w'] ∧ Wl (n + 6) w' := by
  obtain ⟨x, y, w1, d1, h1, h2⟩ := pair_ok (k + 88) h (by omega)
  have d1 : call Φ (k + 90) 14 [w] = .ok (.tup [.int x, .int y]) [w1] := d1
  have d2 : call Φ (k + 90) 15 [.tup [.int x, .int y]] = .ok (.str (wT x y)) [] := said_ok (k + 89) h1
  have d3 : call Φ (k + 90) 9 [.tup [.int x, .int y]] = .ok (.str (wT x y)) [] := show_number_ok (k + 89) h1
  have d4 : call Φ (k + 90) 3 [.str (wT x y)] = .ok (.tup [.int x, .int y]) [] := read_number_ok (k + 87) h1
  have d5 : call Φ (k + 90) 20 [.str (wT x y), .str (wT x y)] = .ok (.bl true) [] := same_ok (k + 89) _ rfl (Nat.zero_le _)
  have d6 : call Φ (k + 90) 20 [.tup [.int x, .int y], .tup [.int x, .int y]] = .ok (.bl true) [] := same_ok (k + 89) _ (by simp [pl, plL]) (by simp [dp, dpL])
  refine ⟨w1, ?_, h2⟩
  rw [show k + 91 = k + 90 + 1 from rfl, Z.run_S (fn := ⟨1, [0], 3, b21⟩) rfl rfl]
  simp -implicitDefEqProofs only [b21, Out.bind_ok, Out.bind_exc, Z.s_con, Z.s_var, Z.k_var, Z.s_tup, Z.s_lst, Z.s_dct, Z.s_bin, Z.s_neg, Z.s_cmp, Z.s_isN, Z.s_nt, Z.s_an, Z.s_or, Z.s_ite, Z.s_ixV, Z.s_ixR, Z.s_sl, Z.s_call, Z.s_bi, Z.s_isiV, Z.s_isiR, Z.s_mt, Z.s_fs, Z.s_lc, Z.t_con, Z.t_var, Z.t_bin, Z.t_cmp, Z.t_isN, Z.t_nt, Z.t_an, Z.t_or, Z.t_ixV, Z.t_ixR, Z.t_call, Z.t_bi, Z.t_isiV, Z.t_isiR, Z.t_mt, Z.a_nil, Z.a_val, Z.a_ref, Z.o_non, Z.o_som, Z.f_nil, Z.f_cons, Z.i_rng, Z.i_ov, Z.k_tru_b, Z.k_tru_i, Z.k_bin, Z.k_add, Z.k_sub, Z.k_mul, Z.k_fdiv, Z.k_mod, Z.k_pow, Z.k_app, Z.k_lapp, Z.k_cmp, Z.c_lt, Z.c_le, Z.c_gt, Z.c_ge, Z.c_eqi, Z.c_nei, Z.c_eqs, Z.c_nes, Z.c_ins, Z.c_int, Z.k_neg, Z.k_isN, Z.nn_0t, Z.nn_1t, Z.nn_0i, Z.nn_1i, Z.nn_0s, Z.nn_1s, Z.nn_0b, Z.nn_1b, Z.nn_0l, Z.nn_1l, Z.nn_0n, Z.nn_1n, Z.k_nt, Z.k_ntT, Z.k_an1, Z.k_an0, Z.k_anT1, Z.k_anT0, Z.k_or1, Z.k_or0, Z.k_orT1, Z.k_orT0, Z.k_ite1, Z.k_ite0, Z.k_ix, Z.k_ix2, Z.k_ixR, Z.k_ixr, Z.k_ref, Z.k_ref_i, Z.k_ref_s, Z.k_ref_b, Z.k_ref_n, Z.k_ref_t, Z.i_lst, Z.i_tup, Z.i_scr, Z.i_str, Z.i_dcs, Z.i_dci, Z.l_hit, Z.at_0, Z.at_1, Z.at_2, Z.at_3, Z.k_sl, Z.k_sl2, Z.k_sl3, Z.k_tup, Z.k_tup2, Z.k_lst, Z.k_lst2, Z.k_dct, Z.k_dct2, Z.v_nil, Z.v_cons, Z.k_pv, Z.k_c1, Z.k_c2, Z.k_c2k, Z.k_cb, Z.k_tk, Z.k_ret, Z.k_retX, Z.k_put, Z.k_putX, Z.tk_nil, Z.tk_v, Z.tk_r, Z.k_tv, Z.k_tr, Z.p_nil, Z.p_v0, Z.p_v1, Z.p_r, Z.r_nil, Z.r_in, Z.r_no, Z.k_bi, Z.pk_nil0, Z.pk_v, Z.pk_r, Z.some_bind, Z.b_lens, Z.b_lenl, Z.b_lent, Z.b_lenc, Z.b_inti, Z.b_str, Z.b_abs, Z.b_max, Z.b_min, Z.b_gcd, Z.b_all, Z.b_any, Z.k_isi, Z.k_isr, Z.k_mt, Z.k_mt2, Z.m_sw, Z.k_lc2, Z.k_a, Z.k_a2, Z.k_ar, Z.k_aref, Z.k_o, Z.k_f, Z.k_f2, Z.fm_s, Z.fm_i, Z.k_rng, Z.k_ov, Z.o_some, Z.x_nil, Z.x_cons, Z.k_sq, Z.k_sqr, Z.k_sqb, Z.k_sqc, Z.x_ex, Z.k_ex0, Z.x_set, Z.k_set, Z.x_mset, Z.k_ms, Z.k_ms2, Z.sm_nil, Z.sm_cons, Z.x_par, Z.k_par, Z.k_par2, Z.x_aug, Z.k_aug, Z.k_aug2a, Z.k_aug2s, Z.x_si, Z.k_si, Z.k_si1, Z.k_si2, Z.k_si3_0, Z.k_si3_1, Z.k_si3_2, Z.x_ret, Z.k_ret1, Z.x_retR, Z.k_retR, Z.x_retN, Z.x_if, Z.k_if1, Z.k_if0, Z.k_w0, Z.k_w1, Z.k_w2n, Z.k_w2c, Z.k_w2b, Z.k_w2r, Z.x_for, Z.fo_nil, Z.k_fon, Z.k_foc, Z.k_fob, Z.k_for2, Z.g_for, Z.g_lc, Z.x_brk, Z.x_cnt, Z.x_pas, Z.lk_0, Z.lk_S, Z.set_0, Z.set_S, Z.fz_i, Z.fz_s, Z.fz_b, Z.fz_n, Z.fz_t, Z.fz_l, Z.fz_c, Z.fl_nil, Z.fl_cons, Z.e_ret, Z.e_nx, ↓reduceIte, List.length_cons, List.length_nil, Nat.reduceAdd, Nat.reduceLeDiff, Nat.zero_le, List.mem_cons, List.not_mem_nil, or_false, or_true, false_or, true_or, Nat.reduceEqDiff, not_false_eq_true, reduceCtorEq, Option.map_some, List.cons.injEq, and_true, true_and, and_false, false_and, decide_true, decide_false, Bool.not_true, Bool.not_false, ne_eq, Nat.reduceMul, Nat.reduceSub, List.map_cons, List.map_nil, List.replicate, List.cons_append, List.nil_append, List.append_nil, List.length_append, Nat.zero_add, List.append_assoc, d1, d2, d3, d4, d5, d6]
  rw [Z.e_ret1 rfl]
/-- a pattern's words shown, read, and the same -/
structure Both (K : Nat) (p : Pt) : Prop where
  w : call Φ K 18 [p.D] = .ok (.str p.T) []
  s : call Φ K 10 [p.D] = .ok (.str p.T) []
  r : call Φ K 8 [.str p.T] = .ok p.D []
  e : call Φ K 20 [.str p.T, .str p.T] = .ok (.bl true) []
  f : call Φ K 20 [p.D, p.D] = .ok (.bl true) []
theorem both (k : Nat) {p : Pt} (ho : p.ok) (hd : p.dp ≤ 20) (hz : 24 * p.sz ≤ 16777216) : Both (k + 90) p where
  w := words_ok (k + 88) p ho hz (by omega)
  s := show_ok (k + 88) p ho hz (by omega)
  r := by
    have := read_ok (k + 26) 21 ho (by omega) hz
    exact this
  e := same_ok (k + 89) _ rfl (Nat.zero_le _)
  f := same_pt p (k := k + 89) (by omega)
theorem patterns_right_ok (k : Nat) {n : Nat} {w : D} (h : Wl n w) (hn : n < 2 ^ 36) : ∃ w', call Φ (k + 91) 22 [w] = .ok (.bl true) [w'] ∧ Wl (n + 20000) w' := by
  have k1 : nD 4 = 127 := by decide
  have k2 : nD 11 = 16383 := by decide
  have k3 : nS 4 = 31 := by decide
  have k4 : nS 11 = 4095 := by decide
  obtain ⟨p, w1, r1, d1, h1, h2, h3, h4⟩ := tree_ok 4 (k + 83) n w 10 5 h (by omega) rfl
  have d1 : call Φ (k + 90) 17 [w, .lst true [.int 10], .int 5] = .ok p.D [w1, .lst true [.int r1]] := d1
  obtain ⟨b1, b2, b3, b4, b5⟩ := both k h1 (by omega) (by omega)
  obtain ⟨m, w2, d2, a1, a2, a3⟩ := dip_ok (k + 89) h4 (by omega) (m := 3) (by decide) (by decide)
  have d2 : call Φ (k + 90) 12 [w1, .int 3] = .ok (.int m) [w2] := d2
  have hf := p.fz
  by_cases h0 : 0 < m
  · obtain ⟨q, w3, d3, c1, c2, c3, c4⟩ := chain_ok (k + 87) a3 (by omega)
    have d3 : call Φ (k + 90) 19 [w2] = .ok q.D [w3] := d3
    obtain ⟨e1, e2, e3, e4, e5⟩ := both k c1 c2 (by omega)
    have hf2 := q.fz
    refine ⟨w3, ?_, c4.mono (by omega)⟩
    rw [show k + 91 = k + 90 + 1 from rfl, Z.run_S (fn := ⟨1, [0], 5, b22⟩) rfl rfl]
    simp -implicitDefEqProofs only [b22, Out.bind_ok, Out.bind_exc, Z.s_con, Z.s_var, Z.k_var, Z.s_tup, Z.s_lst, Z.s_dct, Z.s_bin, Z.s_neg, Z.s_cmp, Z.s_isN, Z.s_nt, Z.s_an, Z.s_or, Z.s_ite, Z.s_ixV, Z.s_ixR, Z.s_sl, Z.s_call, Z.s_bi, Z.s_isiV, Z.s_isiR, Z.s_mt, Z.s_fs, Z.s_lc, Z.t_con, Z.t_var, Z.t_bin, Z.t_cmp, Z.t_isN, Z.t_nt, Z.t_an, Z.t_or, Z.t_ixV, Z.t_ixR, Z.t_call, Z.t_bi, Z.t_isiV, Z.t_isiR, Z.t_mt, Z.a_nil, Z.a_val, Z.a_ref, Z.o_non, Z.o_som, Z.f_nil, Z.f_cons, Z.i_rng, Z.i_ov, Z.k_tru_b, Z.k_tru_i, Z.k_bin, Z.k_add, Z.k_sub, Z.k_mul, Z.k_fdiv, Z.k_mod, Z.k_pow, Z.k_app, Z.k_lapp, Z.k_cmp, Z.c_lt, Z.c_le, Z.c_gt, Z.c_ge, Z.c_eqi, Z.c_nei, Z.c_eqs, Z.c_nes, Z.c_ins, Z.c_int, Z.k_neg, Z.k_isN, Z.nn_0t, Z.nn_1t, Z.nn_0i, Z.nn_1i, Z.nn_0s, Z.nn_1s, Z.nn_0b, Z.nn_1b, Z.nn_0l, Z.nn_1l, Z.nn_0n, Z.nn_1n, Z.k_nt, Z.k_ntT, Z.k_an1, Z.k_an0, Z.k_anT1, Z.k_anT0, Z.k_or1, Z.k_or0, Z.k_orT1, Z.k_orT0, Z.k_ite1, Z.k_ite0, Z.k_ix, Z.k_ix2, Z.k_ixR, Z.k_ixr, Z.k_ref, Z.k_ref_i, Z.k_ref_s, Z.k_ref_b, Z.k_ref_n, Z.k_ref_t, Z.i_lst, Z.i_tup, Z.i_scr, Z.i_str, Z.i_dcs, Z.i_dci, Z.l_hit, Z.at_0, Z.at_1, Z.at_2, Z.at_3, Z.k_sl, Z.k_sl2, Z.k_sl3, Z.k_tup, Z.k_tup2, Z.k_lst, Z.k_lst2, Z.k_dct, Z.k_dct2, Z.v_nil, Z.v_cons, Z.k_pv, Z.k_c1, Z.k_c2, Z.k_c2k, Z.k_cb, Z.k_tk, Z.k_ret, Z.k_retX, Z.k_put, Z.k_putX, Z.tk_nil, Z.tk_v, Z.tk_r, Z.k_tv, Z.k_tr, Z.p_nil, Z.p_v0, Z.p_v1, Z.p_r, Z.r_nil, Z.r_in, Z.r_no, Z.k_bi, Z.pk_nil0, Z.pk_v, Z.pk_r, Z.some_bind, Z.b_lens, Z.b_lenl, Z.b_lent, Z.b_lenc, Z.b_inti, Z.b_str, Z.b_abs, Z.b_max, Z.b_min, Z.b_gcd, Z.b_all, Z.b_any, Z.k_isi, Z.k_isr, Z.k_mt, Z.k_mt2, Z.m_sw, Z.k_lc2, Z.k_a, Z.k_a2, Z.k_ar, Z.k_aref, Z.k_o, Z.k_f, Z.k_f2, Z.fm_s, Z.fm_i, Z.k_rng, Z.k_ov, Z.o_some, Z.x_nil, Z.x_cons, Z.k_sq, Z.k_sqr, Z.k_sqb, Z.k_sqc, Z.x_ex, Z.k_ex0, Z.x_set, Z.k_set, Z.x_mset, Z.k_ms, Z.k_ms2, Z.sm_nil, Z.sm_cons, Z.x_par, Z.k_par, Z.k_par2, Z.x_aug, Z.k_aug, Z.k_aug2a, Z.k_aug2s, Z.x_si, Z.k_si, Z.k_si1, Z.k_si2, Z.k_si3_0, Z.k_si3_1, Z.k_si3_2, Z.x_ret, Z.k_ret1, Z.x_retR, Z.k_retR, Z.x_retN, Z.x_if, Z.k_if1, Z.k_if0, Z.k_w0, Z.k_w1, Z.k_w2n, Z.k_w2c, Z.k_w2b, Z.k_w2r, Z.x_for, Z.fo_nil, Z.k_fon, Z.k_foc, Z.k_fob, Z.k_for2, Z.g_for, Z.g_lc, Z.x_brk, Z.x_cnt, Z.x_pas, Z.lk_0, Z.lk_S, Z.set_0, Z.set_S, Z.fz_i, Z.fz_s, Z.fz_b, Z.fz_n, Z.fz_t, Z.fz_l, Z.fz_c, Z.fl_nil, Z.fl_cons, Z.e_ret, Z.e_nx, ↓reduceIte, List.length_cons, List.length_nil, Nat.reduceAdd, Nat.reduceLeDiff, Nat.zero_le, List.mem_cons, List.not_mem_nil, or_false, or_true, false_or, true_or, Nat.reduceEqDiff, not_false_eq_true, reduceCtorEq, Option.map_some, List.cons.injEq, and_true, true_and, and_false, false_and, decide_true, decide_false, Bool.not_true, Bool.not_false, ne_eq, Nat.reduceMul, Nat.reduceSub, List.map_cons, List.map_nil, List.replicate, List.cons_append, List.nil_append, List.append_nil, List.length_append, Nat.zero_add, List.append_assoc, d1, d2, d3, hf, hf2, b1, b2, b3, b4, b5, e1, e2, e3, e4, e5, h0]
    rw [Z.e_ret1 rfl]
  · obtain ⟨q, w3, r3, d3, c1, c2, c3, c4⟩ := tree_ok 11 (k + 76) (n + nD 4 + 1) w2 60 12 a3 (by omega) rfl
    have d3 : call Φ (k + 90) 17 [w2, .lst true [.int 60], .int 12] = .ok q.D [w3, .lst true [.int r3]] := d3
    obtain ⟨e1, e2, e3, e4, e5⟩ := both k c1 (by omega) (by omega)
    have hf2 := q.fz
    refine ⟨w3, ?_, c4.mono (by omega)⟩
    rw [show k + 91 = k + 90 + 1 from rfl, Z.run_S (fn := ⟨1, [0], 5, b22⟩) rfl rfl]
    simp -implicitDefEqProofs only [b22, Out.bind_ok, Out.bind_exc, Z.s_con, Z.s_var, Z.k_var, Z.s_tup, Z.s_lst, Z.s_dct, Z.s_bin, Z.s_neg, Z.s_cmp, Z.s_isN, Z.s_nt, Z.s_an, Z.s_or, Z.s_ite, Z.s_ixV, Z.s_ixR, Z.s_sl, Z.s_call, Z.s_bi, Z.s_isiV, Z.s_isiR, Z.s_mt, Z.s_fs, Z.s_lc, Z.t_con, Z.t_var, Z.t_bin, Z.t_cmp, Z.t_isN, Z.t_nt, Z.t_an, Z.t_or, Z.t_ixV, Z.t_ixR, Z.t_call, Z.t_bi, Z.t_isiV, Z.t_isiR, Z.t_mt, Z.a_nil, Z.a_val, Z.a_ref, Z.o_non, Z.o_som, Z.f_nil, Z.f_cons, Z.i_rng, Z.i_ov, Z.k_tru_b, Z.k_tru_i, Z.k_bin, Z.k_add, Z.k_sub, Z.k_mul, Z.k_fdiv, Z.k_mod, Z.k_pow, Z.k_app, Z.k_lapp, Z.k_cmp, Z.c_lt, Z.c_le, Z.c_gt, Z.c_ge, Z.c_eqi, Z.c_nei, Z.c_eqs, Z.c_nes, Z.c_ins, Z.c_int, Z.k_neg, Z.k_isN, Z.nn_0t, Z.nn_1t, Z.nn_0i, Z.nn_1i, Z.nn_0s, Z.nn_1s, Z.nn_0b, Z.nn_1b, Z.nn_0l, Z.nn_1l, Z.nn_0n, Z.nn_1n, Z.k_nt, Z.k_ntT, Z.k_an1, Z.k_an0, Z.k_anT1, Z.k_anT0, Z.k_or1, Z.k_or0, Z.k_orT1, Z.k_orT0, Z.k_ite1, Z.k_ite0, Z.k_ix, Z.k_ix2, Z.k_ixR, Z.k_ixr, Z.k_ref, Z.k_ref_i, Z.k_ref_s, Z.k_ref_b, Z.k_ref_n, Z.k_ref_t, Z.i_lst, Z.i_tup, Z.i_scr, Z.i_str, Z.i_dcs, Z.i_dci, Z.l_hit, Z.at_0, Z.at_1, Z.at_2, Z.at_3, Z.k_sl, Z.k_sl2, Z.k_sl3, Z.k_tup, Z.k_tup2, Z.k_lst, Z.k_lst2, Z.k_dct, Z.k_dct2, Z.v_nil, Z.v_cons, Z.k_pv, Z.k_c1, Z.k_c2, Z.k_c2k, Z.k_cb, Z.k_tk, Z.k_ret, Z.k_retX, Z.k_put, Z.k_putX, Z.tk_nil, Z.tk_v, Z.tk_r, Z.k_tv, Z.k_tr, Z.p_nil, Z.p_v0, Z.p_v1, Z.p_r, Z.r_nil, Z.r_in, Z.r_no, Z.k_bi, Z.pk_nil0, Z.pk_v, Z.pk_r, Z.some_bind, Z.b_lens, Z.b_lenl, Z.b_lent, Z.b_lenc, Z.b_inti, Z.b_str, Z.b_abs, Z.b_max, Z.b_min, Z.b_gcd, Z.b_all, Z.b_any, Z.k_isi, Z.k_isr, Z.k_mt, Z.k_mt2, Z.m_sw, Z.k_lc2, Z.k_a, Z.k_a2, Z.k_ar, Z.k_aref, Z.k_o, Z.k_f, Z.k_f2, Z.fm_s, Z.fm_i, Z.k_rng, Z.k_ov, Z.o_some, Z.x_nil, Z.x_cons, Z.k_sq, Z.k_sqr, Z.k_sqb, Z.k_sqc, Z.x_ex, Z.k_ex0, Z.x_set, Z.k_set, Z.x_mset, Z.k_ms, Z.k_ms2, Z.sm_nil, Z.sm_cons, Z.x_par, Z.k_par, Z.k_par2, Z.x_aug, Z.k_aug, Z.k_aug2a, Z.k_aug2s, Z.x_si, Z.k_si, Z.k_si1, Z.k_si2, Z.k_si3_0, Z.k_si3_1, Z.k_si3_2, Z.x_ret, Z.k_ret1, Z.x_retR, Z.k_retR, Z.x_retN, Z.x_if, Z.k_if1, Z.k_if0, Z.k_w0, Z.k_w1, Z.k_w2n, Z.k_w2c, Z.k_w2b, Z.k_w2r, Z.x_for, Z.fo_nil, Z.k_fon, Z.k_foc, Z.k_fob, Z.k_for2, Z.g_for, Z.g_lc, Z.x_brk, Z.x_cnt, Z.x_pas, Z.lk_0, Z.lk_S, Z.set_0, Z.set_S, Z.fz_i, Z.fz_s, Z.fz_b, Z.fz_n, Z.fz_t, Z.fz_l, Z.fz_c, Z.fl_nil, Z.fl_cons, Z.e_ret, Z.e_nx, ↓reduceIte, List.length_cons, List.length_nil, Nat.reduceAdd, Nat.reduceLeDiff, Nat.zero_le, List.mem_cons, List.not_mem_nil, or_false, or_true, false_or, true_or, Nat.reduceEqDiff, not_false_eq_true, reduceCtorEq, Option.map_some, List.cons.injEq, and_true, true_and, and_false, false_and, decide_true, decide_false, Bool.not_true, Bool.not_false, ne_eq, Nat.reduceMul, Nat.reduceSub, List.map_cons, List.map_nil, List.replicate, List.cons_append, List.nil_append, List.append_nil, List.length_append, Nat.zero_add, List.append_assoc, d1, d2, d3, hf, hf2, b1, b2, b3, b4, b5, e1, e2, e3, e4, e5, h0]
    rw [Z.e_ret1 rfl]
/-! the law -/
def eTurn : Sts := (.cons (.ite (.orr (.nt (.call 21 [0] (.cons .ref (.var 2) .nil) .nil [])) (.nt (.call 22 [0] (.cons .ref (.var 2) .nil) .nil []))) (.cons (.ret .val (.con (.bl false))) .nil) .nil) .nil)
theorem turn_loop (k : Nat) {s t : Option D} : ∀ (l : List D) (n : Nat) (w : D) (x : Option D), Wl n w → n + 20006 * l.length < 2 ^ 35 → ∃ w' x', forF (Z.gFor 3) (evSs (call Φ (k + 91)) eTurn) l [s, t, some w, x] = .ok .nx [s, t, some w', x'] ∧ Wl (n + 20006 * l.length) w'
  | [], n, w, x, h, _ => ⟨w, x, rfl, h⟩
  | d :: l, n, w, x, h, hn => by
    rw [List.length_cons] at hn
    obtain ⟨w1, d1, h1⟩ := numbers_right_ok k h (by omega)
    obtain ⟨w2, d2, h2⟩ := patterns_right_ok k h1 (by omega)
    obtain ⟨w3, x3, e3, h3⟩ := turn_loop k (s := s) (t := t) l (n + 20006) w2 (some d) h2 (by omega)
    refine ⟨w3, x3, ?_, h3.mono (by rw [List.length_cons]; omega)⟩
    rw [Z.fo_cons]
    have : evSs (call Φ (k + 91)) eTurn (Z.gFor 3 d [s, t, some w, x]) = .ok .nx [s, t, some w2, some d] := by
      simp -implicitDefEqProofs only [eTurn, Out.bind_ok, Out.bind_exc, Z.s_con, Z.s_var, Z.k_var, Z.s_tup, Z.s_lst, Z.s_dct, Z.s_bin, Z.s_neg, Z.s_cmp, Z.s_isN, Z.s_nt, Z.s_an, Z.s_or, Z.s_ite, Z.s_ixV, Z.s_ixR, Z.s_sl, Z.s_call, Z.s_bi, Z.s_isiV, Z.s_isiR, Z.s_mt, Z.s_fs, Z.s_lc, Z.t_con, Z.t_var, Z.t_bin, Z.t_cmp, Z.t_isN, Z.t_nt, Z.t_an, Z.t_or, Z.t_ixV, Z.t_ixR, Z.t_call, Z.t_bi, Z.t_isiV, Z.t_isiR, Z.t_mt, Z.a_nil, Z.a_val, Z.a_ref, Z.o_non, Z.o_som, Z.f_nil, Z.f_cons, Z.i_rng, Z.i_ov, Z.k_tru_b, Z.k_tru_i, Z.k_bin, Z.k_add, Z.k_sub, Z.k_mul, Z.k_fdiv, Z.k_mod, Z.k_pow, Z.k_app, Z.k_lapp, Z.k_cmp, Z.c_lt, Z.c_le, Z.c_gt, Z.c_ge, Z.c_eqi, Z.c_nei, Z.c_eqs, Z.c_nes, Z.c_ins, Z.c_int, Z.k_neg, Z.k_isN, Z.nn_0t, Z.nn_1t, Z.nn_0i, Z.nn_1i, Z.nn_0s, Z.nn_1s, Z.nn_0b, Z.nn_1b, Z.nn_0l, Z.nn_1l, Z.nn_0n, Z.nn_1n, Z.k_nt, Z.k_ntT, Z.k_an1, Z.k_an0, Z.k_anT1, Z.k_anT0, Z.k_or1, Z.k_or0, Z.k_orT1, Z.k_orT0, Z.k_ite1, Z.k_ite0, Z.k_ix, Z.k_ix2, Z.k_ixR, Z.k_ixr, Z.k_ref, Z.k_ref_i, Z.k_ref_s, Z.k_ref_b, Z.k_ref_n, Z.k_ref_t, Z.i_lst, Z.i_tup, Z.i_scr, Z.i_str, Z.i_dcs, Z.i_dci, Z.l_hit, Z.at_0, Z.at_1, Z.at_2, Z.at_3, Z.k_sl, Z.k_sl2, Z.k_sl3, Z.k_tup, Z.k_tup2, Z.k_lst, Z.k_lst2, Z.k_dct, Z.k_dct2, Z.v_nil, Z.v_cons, Z.k_pv, Z.k_c1, Z.k_c2, Z.k_c2k, Z.k_cb, Z.k_tk, Z.k_ret, Z.k_retX, Z.k_put, Z.k_putX, Z.tk_nil, Z.tk_v, Z.tk_r, Z.k_tv, Z.k_tr, Z.p_nil, Z.p_v0, Z.p_v1, Z.p_r, Z.r_nil, Z.r_in, Z.r_no, Z.k_bi, Z.pk_nil0, Z.pk_v, Z.pk_r, Z.some_bind, Z.b_lens, Z.b_lenl, Z.b_lent, Z.b_lenc, Z.b_inti, Z.b_str, Z.b_abs, Z.b_max, Z.b_min, Z.b_gcd, Z.b_all, Z.b_any, Z.k_isi, Z.k_isr, Z.k_mt, Z.k_mt2, Z.m_sw, Z.k_lc2, Z.k_a, Z.k_a2, Z.k_ar, Z.k_aref, Z.k_o, Z.k_f, Z.k_f2, Z.fm_s, Z.fm_i, Z.k_rng, Z.k_ov, Z.o_some, Z.x_nil, Z.x_cons, Z.k_sq, Z.k_sqr, Z.k_sqb, Z.k_sqc, Z.x_ex, Z.k_ex0, Z.x_set, Z.k_set, Z.x_mset, Z.k_ms, Z.k_ms2, Z.sm_nil, Z.sm_cons, Z.x_par, Z.k_par, Z.k_par2, Z.x_aug, Z.k_aug, Z.k_aug2a, Z.k_aug2s, Z.x_si, Z.k_si, Z.k_si1, Z.k_si2, Z.k_si3_0, Z.k_si3_1, Z.k_si3_2, Z.x_ret, Z.k_ret1, Z.x_retR, Z.k_retR, Z.x_retN, Z.x_if, Z.k_if1, Z.k_if0, Z.k_w0, Z.k_w1, Z.k_w2n, Z.k_w2c, Z.k_w2b, Z.k_w2r, Z.x_for, Z.fo_nil, Z.k_fon, Z.k_foc, Z.k_fob, Z.k_for2, Z.g_for, Z.g_lc, Z.x_brk, Z.x_cnt, Z.x_pas, Z.lk_0, Z.lk_S, Z.set_0, Z.set_S, Z.fz_i, Z.fz_s, Z.fz_b, Z.fz_n, Z.fz_t, Z.fz_l, Z.fz_c, Z.fl_nil, Z.fl_cons, Z.e_ret, Z.e_nx, ↓reduceIte, List.length_cons, List.length_nil, Nat.reduceAdd, Nat.reduceLeDiff, Nat.zero_le, List.mem_cons, List.not_mem_nil, or_false, or_true, false_or, true_or, Nat.reduceEqDiff, not_false_eq_true, reduceCtorEq, Option.map_some, List.cons.injEq, and_true, true_and, and_false, false_and, decide_true, decide_false, Bool.not_true, Bool.not_false, ne_eq, Nat.reduceMul, Nat.reduceSub, List.map_cons, List.map_nil, List.replicate, List.cons_append, List.nil_append, List.append_nil, List.length_append, Nat.zero_add, List.append_assoc, d1, d2]
    rw [this, Out.bind_ok, Z.k_fon, e3]
def eSpot : Sts := (.cons (.set 2 (.call 11 [] (.cons .val (.var 0) (.cons .val (.var 1) .nil)) .nil [])) (.cons (.for1 3 (.rng1 (.con (.int 3))) eTurn) .nil))
theorem scr_fz : ∀ ns : List Int, frzL (ns.map D.int) = ns.map D.int
  | [] => Z.fl_nil
  | n :: ns => by rw [List.map_cons, Z.fl_cons, Z.fz_i, scr_fz ns]
theorem spot_loop (k : Nat) {ns : List Int} (hl : ns.length ≤ 63) : ∀ (is : List Nat) (x y z : Option D), (∀ i ∈ is, i < 63) → ∃ x' y' z', forF (Z.gFor 1) (evSs (call Φ (k + 91)) eSpot) (is.map fun (i : Nat) => D.int (i : Int)) [some (.scr (ns.map .int)), x, y, z] = .ok .nx [some (.scr (ns.map .int)), x', y', z']
  | [], x, y, z, _ => ⟨x, y, z, rfl⟩
  | i :: is, x, y, z, h => by
    obtain ⟨w, d1, h1⟩ := well_ok (k + 90) ns hl (h i List.mem_cons_self)
    have d1 : call Φ (k + 91) 11 [.scr (ns.map .int), .int (i : Int)] = .ok w [] := d1
    obtain ⟨w2, z2, e2, h2⟩ := turn_loop k (s := some (.scr (ns.map .int))) (t := some (.int (i : Int))) (rngL 3) 0 w z h1 (by decide)
    obtain ⟨x3, y3, z3, e3⟩ := spot_loop k hl is (some (.int (i : Int))) (some w2) z2 fun j hj => h j (List.mem_cons_of_mem _ hj)
    refine ⟨x3, y3, z3, ?_⟩
    rw [List.map_cons, Z.fo_cons]
    have hr : -(2 ^ 62 : Int) ≤ 3 ∧ (3 : Int) < 2 ^ 62 := by decide
    have hs := scr_fz ns
    have hk : ∀ ρ, Z.kRng (.int 3) ρ = .ok (rngL 3) ρ := fun ρ => Z.k_rng hr
    have : evSs (call Φ (k + 91)) eSpot (Z.gFor 1 (.int (i : Int)) [some (.scr (ns.map .int)), x, y, z]) = .ok .nx [some (.scr (ns.map .int)), some (.int (i : Int)), some w2, z2] := by
      simp -implicitDefEqProofs only [eSpot, Out.bind_ok, Out.bind_exc, Z.s_con, Z.s_var, Z.k_var, Z.s_tup, Z.s_lst, Z.s_dct, Z.s_bin, Z.s_neg, Z.s_cmp, Z.s_isN, Z.s_nt, Z.s_an, Z.s_or, Z.s_ite, Z.s_ixV, Z.s_ixR, Z.s_sl, Z.s_call, Z.s_bi, Z.s_isiV, Z.s_isiR, Z.s_mt, Z.s_fs, Z.s_lc, Z.t_con, Z.t_var, Z.t_bin, Z.t_cmp, Z.t_isN, Z.t_nt, Z.t_an, Z.t_or, Z.t_ixV, Z.t_ixR, Z.t_call, Z.t_bi, Z.t_isiV, Z.t_isiR, Z.t_mt, Z.a_nil, Z.a_val, Z.a_ref, Z.o_non, Z.o_som, Z.f_nil, Z.f_cons, Z.i_rng, Z.i_ov, Z.k_tru_b, Z.k_tru_i, Z.k_bin, Z.k_add, Z.k_sub, Z.k_mul, Z.k_fdiv, Z.k_mod, Z.k_pow, Z.k_app, Z.k_lapp, Z.k_cmp, Z.c_lt, Z.c_le, Z.c_gt, Z.c_ge, Z.c_eqi, Z.c_nei, Z.c_eqs, Z.c_nes, Z.c_ins, Z.c_int, Z.k_neg, Z.k_isN, Z.nn_0t, Z.nn_1t, Z.nn_0i, Z.nn_1i, Z.nn_0s, Z.nn_1s, Z.nn_0b, Z.nn_1b, Z.nn_0l, Z.nn_1l, Z.nn_0n, Z.nn_1n, Z.k_nt, Z.k_ntT, Z.k_an1, Z.k_an0, Z.k_anT1, Z.k_anT0, Z.k_or1, Z.k_or0, Z.k_orT1, Z.k_orT0, Z.k_ite1, Z.k_ite0, Z.k_ix, Z.k_ix2, Z.k_ixR, Z.k_ixr, Z.k_ref, Z.k_ref_i, Z.k_ref_s, Z.k_ref_b, Z.k_ref_n, Z.k_ref_t, Z.i_lst, Z.i_tup, Z.i_scr, Z.i_str, Z.i_dcs, Z.i_dci, Z.l_hit, Z.at_0, Z.at_1, Z.at_2, Z.at_3, Z.k_sl, Z.k_sl2, Z.k_sl3, Z.k_tup, Z.k_tup2, Z.k_lst, Z.k_lst2, Z.k_dct, Z.k_dct2, Z.v_nil, Z.v_cons, Z.k_pv, Z.k_c1, Z.k_c2, Z.k_c2k, Z.k_cb, Z.k_tk, Z.k_ret, Z.k_retX, Z.k_put, Z.k_putX, Z.tk_nil, Z.tk_v, Z.tk_r, Z.k_tv, Z.k_tr, Z.p_nil, Z.p_v0, Z.p_v1, Z.p_r, Z.r_nil, Z.r_in, Z.r_no, Z.k_bi, Z.pk_nil0, Z.pk_v, Z.pk_r, Z.some_bind, Z.b_lens, Z.b_lenl, Z.b_lent, Z.b_lenc, Z.b_inti, Z.b_str, Z.b_abs, Z.b_max, Z.b_min, Z.b_gcd, Z.b_all, Z.b_any, Z.k_isi, Z.k_isr, Z.k_mt, Z.k_mt2, Z.m_sw, Z.k_lc2, Z.k_a, Z.k_a2, Z.k_ar, Z.k_aref, Z.k_o, Z.k_f, Z.k_f2, Z.fm_s, Z.fm_i, Z.k_rng, Z.k_ov, Z.o_some, Z.x_nil, Z.x_cons, Z.k_sq, Z.k_sqr, Z.k_sqb, Z.k_sqc, Z.x_ex, Z.k_ex0, Z.x_set, Z.k_set, Z.x_mset, Z.k_ms, Z.k_ms2, Z.sm_nil, Z.sm_cons, Z.x_par, Z.k_par, Z.k_par2, Z.x_aug, Z.k_aug, Z.k_aug2a, Z.k_aug2s, Z.x_si, Z.k_si, Z.k_si1, Z.k_si2, Z.k_si3_0, Z.k_si3_1, Z.k_si3_2, Z.x_ret, Z.k_ret1, Z.x_retR, Z.k_retR, Z.x_retN, Z.x_if, Z.k_if1, Z.k_if0, Z.k_w0, Z.k_w1, Z.k_w2n, Z.k_w2c, Z.k_w2b, Z.k_w2r, Z.x_for, Z.fo_nil, Z.k_fon, Z.k_foc, Z.k_fob, Z.k_for2, Z.g_for, Z.g_lc, Z.x_brk, Z.x_cnt, Z.x_pas, Z.lk_0, Z.lk_S, Z.set_0, Z.set_S, Z.fz_i, Z.fz_s, Z.fz_b, Z.fz_n, Z.fz_t, Z.fz_l, Z.fz_c, Z.fl_nil, Z.fl_cons, Z.e_ret, Z.e_nx, ↓reduceIte, List.length_cons, List.length_nil, Nat.reduceAdd, Nat.reduceLeDiff, Nat.zero_le, List.mem_cons, List.not_mem_nil, or_false, or_true, false_or, true_or, Nat.reduceEqDiff, not_false_eq_true, reduceCtorEq, Option.map_some, List.cons.injEq, and_true, true_and, and_false, false_and, decide_true, decide_false, Bool.not_true, Bool.not_false, ne_eq, Nat.reduceMul, Nat.reduceSub, List.map_cons, List.map_nil, List.replicate, List.cons_append, List.nil_append, List.append_nil, List.length_append, Nat.zero_add, List.append_assoc, hs, d1, hk, Z.k_for, e2]
    rw [this, Out.bind_ok, Z.k_fon, e3]
theorem law_keeps_k (k : Nat) (ns : List Int) (hl : ns.length ≤ 63) : ∃ ps, call Φ (k + 92) 23 [.scr (ns.map .int)] = .ok (.bl true) ps := by
  refine ⟨[], ?_⟩
  obtain ⟨m, hm⟩ : ∃ m : Int, m = (if (if ((ns.map D.int).length : Int) < 8 then ((ns.map D.int).length : Int) else 8) > 2 then (if ((ns.map D.int).length : Int) < 8 then ((ns.map D.int).length : Int) else 8) else 2) := ⟨_, rfl⟩
  have h0 : 2 ≤ m ∧ m ≤ 8 := by rw [hm]; split <;> split <;> omega
  have hr : -(2 ^ 62 : Int) ≤ m ∧ m < 2 ^ 62 := by omega
  have hk : ∀ ρ, Z.kRng (.int m) ρ = .ok (rngL m.toNat) ρ := fun ρ => Z.k_rng hr
  obtain ⟨x, y, z, e⟩ := spot_loop k hl (List.range m.toNat) none none none fun i hi => by have := List.mem_range.mp hi; omega
  have e : forF (Z.gFor 1) (evSs (call Φ (k + 91)) eSpot) (rngL m.toNat) [some (.scr (ns.map .int)), none, none, none] = .ok .nx [some (.scr (ns.map .int)), x, y, z] := e
  unfold eSpot eTurn at e
  rw [show k + 92 = k + 91 + 1 from rfl, Z.run_S (fn := ⟨1, [], 4, b23⟩) rfl rfl]
  simp -implicitDefEqProofs only [b23, Out.bind_ok, Out.bind_exc, Z.s_con, Z.s_var, Z.k_var, Z.s_tup, Z.s_lst, Z.s_dct, Z.s_bin, Z.s_neg, Z.s_cmp, Z.s_isN, Z.s_nt, Z.s_an, Z.s_or, Z.s_ite, Z.s_ixV, Z.s_ixR, Z.s_sl, Z.s_call, Z.s_bi, Z.s_isiV, Z.s_isiR, Z.s_mt, Z.s_fs, Z.s_lc, Z.t_con, Z.t_var, Z.t_bin, Z.t_cmp, Z.t_isN, Z.t_nt, Z.t_an, Z.t_or, Z.t_ixV, Z.t_ixR, Z.t_call, Z.t_bi, Z.t_isiV, Z.t_isiR, Z.t_mt, Z.a_nil, Z.a_val, Z.a_ref, Z.o_non, Z.o_som, Z.f_nil, Z.f_cons, Z.i_rng, Z.i_ov, Z.k_tru_b, Z.k_tru_i, Z.k_bin, Z.k_add, Z.k_sub, Z.k_mul, Z.k_fdiv, Z.k_mod, Z.k_pow, Z.k_app, Z.k_lapp, Z.k_cmp, Z.c_lt, Z.c_le, Z.c_gt, Z.c_ge, Z.c_eqi, Z.c_nei, Z.c_eqs, Z.c_nes, Z.c_ins, Z.c_int, Z.k_neg, Z.k_isN, Z.nn_0t, Z.nn_1t, Z.nn_0i, Z.nn_1i, Z.nn_0s, Z.nn_1s, Z.nn_0b, Z.nn_1b, Z.nn_0l, Z.nn_1l, Z.nn_0n, Z.nn_1n, Z.k_nt, Z.k_ntT, Z.k_an1, Z.k_an0, Z.k_anT1, Z.k_anT0, Z.k_or1, Z.k_or0, Z.k_orT1, Z.k_orT0, Z.k_ite1, Z.k_ite0, Z.k_ix, Z.k_ix2, Z.k_ixR, Z.k_ixr, Z.k_ref, Z.k_ref_i, Z.k_ref_s, Z.k_ref_b, Z.k_ref_n, Z.k_ref_t, Z.i_lst, Z.i_tup, Z.i_scr, Z.i_str, Z.i_dcs, Z.i_dci, Z.l_hit, Z.at_0, Z.at_1, Z.at_2, Z.at_3, Z.k_sl, Z.k_sl2, Z.k_sl3, Z.k_tup, Z.k_tup2, Z.k_lst, Z.k_lst2, Z.k_dct, Z.k_dct2, Z.v_nil, Z.v_cons, Z.k_pv, Z.k_c1, Z.k_c2, Z.k_c2k, Z.k_cb, Z.k_tk, Z.k_ret, Z.k_retX, Z.k_put, Z.k_putX, Z.tk_nil, Z.tk_v, Z.tk_r, Z.k_tv, Z.k_tr, Z.p_nil, Z.p_v0, Z.p_v1, Z.p_r, Z.r_nil, Z.r_in, Z.r_no, Z.k_bi, Z.pk_nil0, Z.pk_v, Z.pk_r, Z.some_bind, Z.b_lens, Z.b_lenl, Z.b_lent, Z.b_lenc, Z.b_inti, Z.b_str, Z.b_abs, Z.b_max, Z.b_min, Z.b_gcd, Z.b_all, Z.b_any, Z.k_isi, Z.k_isr, Z.k_mt, Z.k_mt2, Z.m_sw, Z.k_lc2, Z.k_a, Z.k_a2, Z.k_ar, Z.k_aref, Z.k_o, Z.k_f, Z.k_f2, Z.fm_s, Z.fm_i, Z.k_rng, Z.k_ov, Z.o_some, Z.x_nil, Z.x_cons, Z.k_sq, Z.k_sqr, Z.k_sqb, Z.k_sqc, Z.x_ex, Z.k_ex0, Z.x_set, Z.k_set, Z.x_mset, Z.k_ms, Z.k_ms2, Z.sm_nil, Z.sm_cons, Z.x_par, Z.k_par, Z.k_par2, Z.x_aug, Z.k_aug, Z.k_aug2a, Z.k_aug2s, Z.x_si, Z.k_si, Z.k_si1, Z.k_si2, Z.k_si3_0, Z.k_si3_1, Z.k_si3_2, Z.x_ret, Z.k_ret1, Z.x_retR, Z.k_retR, Z.x_retN, Z.x_if, Z.k_if1, Z.k_if0, Z.k_w0, Z.k_w1, Z.k_w2n, Z.k_w2c, Z.k_w2b, Z.k_w2r, Z.x_for, Z.fo_nil, Z.k_fon, Z.k_foc, Z.k_fob, Z.k_for2, Z.g_for, Z.g_lc, Z.x_brk, Z.x_cnt, Z.x_pas, Z.lk_0, Z.lk_S, Z.set_0, Z.set_S, Z.fz_i, Z.fz_s, Z.fz_b, Z.fz_n, Z.fz_t, Z.fz_l, Z.fz_c, Z.fl_nil, Z.fl_cons, Z.e_ret, Z.e_nx, ↓reduceIte, List.length_cons, List.length_nil, Nat.reduceAdd, Nat.reduceLeDiff, Nat.zero_le, List.mem_cons, List.not_mem_nil, or_false, or_true, false_or, true_or, Nat.reduceEqDiff, not_false_eq_true, reduceCtorEq, Option.map_some, List.cons.injEq, and_true, true_and, and_false, false_and, decide_true, decide_false, Bool.not_true, Bool.not_false, ne_eq, Nat.reduceMul, Nat.reduceSub, List.map_cons, List.map_nil, List.replicate, List.cons_append, List.nil_append, List.append_nil, List.length_append, Nat.zero_add, List.append_assoc, ← hm, hk, Z.k_for, e]
theorem law_keeps : ∀ ns : List Int, ns.length ≤ 63 → ∃ ps, call Φ 220 23 [.scr (ns.map .int)] = .ok (.bl true) ps := fun ns hl => law_keeps_k 128 ns hl
end K85

namespace K85
open PySem PySem.Spec PyProof.Rows L2 Ev
theorem okG : ∀ d ∈ G.ds, d.Ok := fun d hd => Df.ok_of (List.all_eq_true.mp (by decide +kernel : G.ds.all Df.okB = true) d hd)
section
variable {K : PySem.W.Frag} {mg : Str → Option Value}
theorem at_mk {h : Heap} (X : K.In h) (Gh : h.Ns mainGlobals mg) {od0 an0 : Option Addr} {sl0 : Array (Option Value)} {f0 : Addr} {oc0 kV0 dc0 pm0 cd0 ct0 : Value} {od1 an1 : Option Addr} {sl1 : Array (Option Value)} {f1 : Addr} {oc1 kV1 dc1 pm1 cd1 ct1 : Value} {od2 an2 : Option Addr} {sl2 : Array (Option Value)} {f2 : Addr} {oc2 kV2 dc2 pm2 cd2 ct2 : Value} {od3 an3 : Option Addr} {sl3 : Array (Option Value)} {f3 : Addr} {oc3 kV3 dc3 pm3 cd3 ct3 : Value} {od4 an4 : Option Addr} {sl4 : Array (Option Value)} {f4 : Addr} {oc4 kV4 dc4 pm4 cd4 ct4 : Value} {od5 an5 : Option Addr} {sl5 : Array (Option Value)} {f5 : Addr} {oc5 kV5 dc5 pm5 cd5 ct5 : Value} {od6 an6 : Option Addr} {sl6 : Array (Option Value)} {f6 : Addr} {oc6 kV6 dc6 pm6 cd6 ct6 : Value} {od7 an7 : Option Addr} {sl7 : Array (Option Value)} {f7 : Addr} {oc7 kV7 dc7 pm7 cd7 ct7 : Value} {od8 an8 : Option Addr} {sl8 : Array (Option Value)} {f8 : Addr} {oc8 kV8 dc8 pm8 cd8 ct8 : Value} {od9 an9 : Option Addr} {sl9 : Array (Option Value)} {f9 : Addr} {oc9 kV9 dc9 pm9 cd9 ct9 : Value} {od10 an10 : Option Addr} {sl10 : Array (Option Value)} {f10 : Addr} {oc10 kV10 dc10 pm10 cd10 ct10 : Value} {od11 an11 : Option Addr} {sl11 : Array (Option Value)} {f11 : Addr} {oc11 kV11 dc11 pm11 cd11 ct11 : Value} {od12 an12 : Option Addr} {sl12 : Array (Option Value)} {f12 : Addr} {oc12 kV12 dc12 pm12 cd12 ct12 : Value} {od13 an13 : Option Addr} {sl13 : Array (Option Value)} {f13 : Addr} {oc13 kV13 dc13 pm13 cd13 ct13 : Value} {od14 an14 : Option Addr} {sl14 : Array (Option Value)} {f14 : Addr} {oc14 kV14 dc14 pm14 cd14 ct14 : Value} {od15 an15 : Option Addr} {sl15 : Array (Option Value)} {f15 : Addr} {oc15 kV15 dc15 pm15 cd15 ct15 : Value} {od16 an16 : Option Addr} {sl16 : Array (Option Value)} {f16 : Addr} {oc16 kV16 dc16 pm16 cd16 ct16 : Value} {od17 an17 : Option Addr} {sl17 : Array (Option Value)} {f17 : Addr} {oc17 kV17 dc17 pm17 cd17 ct17 : Value} {od18 an18 : Option Addr} {sl18 : Array (Option Value)} {f18 : Addr} {oc18 kV18 dc18 pm18 cd18 ct18 : Value} {od19 an19 : Option Addr} {sl19 : Array (Option Value)} {f19 : Addr} {oc19 kV19 dc19 pm19 cd19 ct19 : Value} {od20 an20 : Option Addr} {sl20 : Array (Option Value)} {f20 : Addr} {oc20 kV20 dc20 pm20 cd20 ct20 : Value} {od21 an21 : Option Addr} {sl21 : Array (Option Value)} {f21 : Addr} {oc21 kV21 dc21 pm21 cd21 ct21 : Value} {od22 an22 : Option Addr} {sl22 : Array (Option Value)} {f22 : Addr} {oc22 kV22 dc22 pm22 cd22 ct22 : Value} {od23 an23 : Option Addr} {sl23 : Array (Option Value)} {f23 : Addr} {oc23 kV23 dc23 pm23 cd23 ct23 : Value}
    (a0 : PySem.W.nsIn K mainGlobals "is_number" = some (some (.ref f0))) (l0 : K.lookup f0 = some ⟨oc0, od0, .func (PySem.W.fnOf "is_number" "is_number" (defArgs s0) (defBody s0) (defScope s0) .none kV0 dc0 pm0 an0 cd0 ct0), sl0⟩) (c0 : PySem.W.codeIn K cd0 "is_number" = true) (k0 : PySem.W.keepIn K (.ref f0) = true)
    (a1 : PySem.W.nsIn K mainGlobals "whole_of" = some (some (.ref f1))) (l1 : K.lookup f1 = some ⟨oc1, od1, .func (PySem.W.fnOf "whole_of" "whole_of" (defArgs s1) (defBody s1) (defScope s1) .none kV1 dc1 pm1 an1 cd1 ct1), sl1⟩) (c1 : PySem.W.codeIn K cd1 "whole_of" = true) (k1 : PySem.W.keepIn K (.ref f1) = true)
    (a2 : PySem.W.nsIn K mainGlobals "number_of" = some (some (.ref f2))) (l2 : K.lookup f2 = some ⟨oc2, od2, .func (PySem.W.fnOf "number_of" "number_of" (defArgs s2) (defBody s2) (defScope s2) .none kV2 dc2 pm2 an2 cd2 ct2), sl2⟩) (c2 : PySem.W.codeIn K cd2 "number_of" = true) (k2 : PySem.W.keepIn K (.ref f2) = true)
    (a3 : PySem.W.nsIn K mainGlobals "read_number" = some (some (.ref f3))) (l3 : K.lookup f3 = some ⟨oc3, od3, .func (PySem.W.fnOf "read_number" "read_number" (defArgs s3) (defBody s3) (defScope s3) .none kV3 dc3 pm3 an3 cd3 ct3), sl3⟩) (c3 : PySem.W.codeIn K cd3 "read_number" = true) (k3 : PySem.W.keepIn K (.ref f3) = true)
    (a4 : PySem.W.nsIn K mainGlobals "weighed_at" = some (some (.ref f4))) (l4 : K.lookup f4 = some ⟨oc4, od4, .func (PySem.W.fnOf "weighed_at" "weighed_at" (defArgs s4) (defBody s4) (defScope s4) .none kV4 dc4 pm4 an4 cd4 ct4), sl4⟩) (c4 : PySem.W.codeIn K cd4 "weighed_at" = true) (k4 : PySem.W.keepIn K (.ref f4) = true)
    (a5 : PySem.W.nsIn K mainGlobals "pair_at" = some (some (.ref f5))) (l5 : K.lookup f5 = some ⟨oc5, od5, .func (PySem.W.fnOf "pair_at" "pair_at" (defArgs s5) (defBody s5) (defScope s5) .none kV5 dc5 pm5 an5 cd5 ct5), sl5⟩) (c5 : PySem.W.codeIn K cd5 "pair_at" = true) (k5 : PySem.W.keepIn K (.ref f5) = true)
    (a6 : PySem.W.nsIn K mainGlobals "part_at" = some (some (.ref f6))) (l6 : K.lookup f6 = some ⟨oc6, od6, .func (PySem.W.fnOf "part_at" "part_at" (defArgs s6) (defBody s6) (defScope s6) .none kV6 dc6 pm6 an6 cd6 ct6), sl6⟩) (c6 : PySem.W.codeIn K cd6 "part_at" = true) (k6 : PySem.W.keepIn K (.ref f6) = true)
    (a7 : PySem.W.nsIn K mainGlobals "pattern_at" = some (some (.ref f7))) (l7 : K.lookup f7 = some ⟨oc7, od7, .func (PySem.W.fnOf "pattern_at" "pattern_at" (defArgs s7) (defBody s7) (defScope s7) .none kV7 dc7 pm7 an7 cd7 ct7), sl7⟩) (c7 : PySem.W.codeIn K cd7 "pattern_at" = true) (k7 : PySem.W.keepIn K (.ref f7) = true)
    (a8 : PySem.W.nsIn K mainGlobals "read_pattern" = some (some (.ref f8))) (l8 : K.lookup f8 = some ⟨oc8, od8, .func (PySem.W.fnOf "read_pattern" "read_pattern" (defArgs s8) (defBody s8) (defScope s8) .none kV8 dc8 pm8 an8 cd8 ct8), sl8⟩) (c8 : PySem.W.codeIn K cd8 "read_pattern" = true) (k8 : PySem.W.keepIn K (.ref f8) = true)
    (a9 : PySem.W.nsIn K mainGlobals "show_number" = some (some (.ref f9))) (l9 : K.lookup f9 = some ⟨oc9, od9, .func (PySem.W.fnOf "show_number" "show_number" (defArgs s9) (defBody s9) (defScope s9) .none kV9 dc9 pm9 an9 cd9 ct9), sl9⟩) (c9 : PySem.W.codeIn K cd9 "show_number" = true) (k9 : PySem.W.keepIn K (.ref f9) = true)
    (a10 : PySem.W.nsIn K mainGlobals "show_pattern" = some (some (.ref f10))) (l10 : K.lookup f10 = some ⟨oc10, od10, .func (PySem.W.fnOf "show_pattern" "show_pattern" (defArgs s10) (defBody s10) (defScope s10) .none kV10 dc10 pm10 an10 cd10 ct10), sl10⟩) (c10 : PySem.W.codeIn K cd10 "show_pattern" = true) (k10 : PySem.W.keepIn K (.ref f10) = true)
    (a11 : PySem.W.nsIn K mainGlobals "_law_well" = some (some (.ref f11))) (l11 : K.lookup f11 = some ⟨oc11, od11, .func (PySem.W.fnOf "_law_well" "_law_well" (defArgs s11) (defBody s11) (defScope s11) .none kV11 dc11 pm11 an11 cd11 ct11), sl11⟩) (c11 : PySem.W.codeIn K cd11 "_law_well" = true) (k11 : PySem.W.keepIn K (.ref f11) = true)
    (a12 : PySem.W.nsIn K mainGlobals "_law_dip" = some (some (.ref f12))) (l12 : K.lookup f12 = some ⟨oc12, od12, .func (PySem.W.fnOf "_law_dip" "_law_dip" (defArgs s12) (defBody s12) (defScope s12) .none kV12 dc12 pm12 an12 cd12 ct12), sl12⟩) (c12 : PySem.W.codeIn K cd12 "_law_dip" = true) (k12 : PySem.W.keepIn K (.ref f12) = true)
    (a13 : PySem.W.nsIn K mainGlobals "_law_common" = some (some (.ref f13))) (l13 : K.lookup f13 = some ⟨oc13, od13, .func (PySem.W.fnOf "_law_common" "_law_common" (defArgs s13) (defBody s13) (defScope s13) .none kV13 dc13 pm13 an13 cd13 ct13), sl13⟩) (c13 : PySem.W.codeIn K cd13 "_law_common" = true) (k13 : PySem.W.keepIn K (.ref f13) = true)
    (a14 : PySem.W.nsIn K mainGlobals "_law_pair" = some (some (.ref f14))) (l14 : K.lookup f14 = some ⟨oc14, od14, .func (PySem.W.fnOf "_law_pair" "_law_pair" (defArgs s14) (defBody s14) (defScope s14) .none kV14 dc14 pm14 an14 cd14 ct14), sl14⟩) (c14 : PySem.W.codeIn K cd14 "_law_pair" = true) (k14 : PySem.W.keepIn K (.ref f14) = true)
    (a15 : PySem.W.nsIn K mainGlobals "_law_said" = some (some (.ref f15))) (l15 : K.lookup f15 = some ⟨oc15, od15, .func (PySem.W.fnOf "_law_said" "_law_said" (defArgs s15) (defBody s15) (defScope s15) .none kV15 dc15 pm15 an15 cd15 ct15), sl15⟩) (c15 : PySem.W.codeIn K cd15 "_law_said" = true) (k15 : PySem.W.keepIn K (.ref f15) = true)
    (a16 : PySem.W.nsIn K mainGlobals "_law_leaf" = some (some (.ref f16))) (l16 : K.lookup f16 = some ⟨oc16, od16, .func (PySem.W.fnOf "_law_leaf" "_law_leaf" (defArgs s16) (defBody s16) (defScope s16) .none kV16 dc16 pm16 an16 cd16 ct16), sl16⟩) (c16 : PySem.W.codeIn K cd16 "_law_leaf" = true) (k16 : PySem.W.keepIn K (.ref f16) = true)
    (a17 : PySem.W.nsIn K mainGlobals "_law_tree" = some (some (.ref f17))) (l17 : K.lookup f17 = some ⟨oc17, od17, .func (PySem.W.fnOf "_law_tree" "_law_tree" (defArgs s17) (defBody s17) (defScope s17) .none kV17 dc17 pm17 an17 cd17 ct17), sl17⟩) (c17 : PySem.W.codeIn K cd17 "_law_tree" = true) (k17 : PySem.W.keepIn K (.ref f17) = true)
    (a18 : PySem.W.nsIn K mainGlobals "_law_words" = some (some (.ref f18))) (l18 : K.lookup f18 = some ⟨oc18, od18, .func (PySem.W.fnOf "_law_words" "_law_words" (defArgs s18) (defBody s18) (defScope s18) .none kV18 dc18 pm18 an18 cd18 ct18), sl18⟩) (c18 : PySem.W.codeIn K cd18 "_law_words" = true) (k18 : PySem.W.keepIn K (.ref f18) = true)
    (a19 : PySem.W.nsIn K mainGlobals "_law_chain" = some (some (.ref f19))) (l19 : K.lookup f19 = some ⟨oc19, od19, .func (PySem.W.fnOf "_law_chain" "_law_chain" (defArgs s19) (defBody s19) (defScope s19) .none kV19 dc19 pm19 an19 cd19 ct19), sl19⟩) (c19 : PySem.W.codeIn K cd19 "_law_chain" = true) (k19 : PySem.W.keepIn K (.ref f19) = true)
    (a20 : PySem.W.nsIn K mainGlobals "_law_same" = some (some (.ref f20))) (l20 : K.lookup f20 = some ⟨oc20, od20, .func (PySem.W.fnOf "_law_same" "_law_same" (defArgs s20) (defBody s20) (defScope s20) .none kV20 dc20 pm20 an20 cd20 ct20), sl20⟩) (c20 : PySem.W.codeIn K cd20 "_law_same" = true) (k20 : PySem.W.keepIn K (.ref f20) = true)
    (a21 : PySem.W.nsIn K mainGlobals "_law_numbers_right" = some (some (.ref f21))) (l21 : K.lookup f21 = some ⟨oc21, od21, .func (PySem.W.fnOf "_law_numbers_right" "_law_numbers_right" (defArgs s21) (defBody s21) (defScope s21) .none kV21 dc21 pm21 an21 cd21 ct21), sl21⟩) (c21 : PySem.W.codeIn K cd21 "_law_numbers_right" = true) (k21 : PySem.W.keepIn K (.ref f21) = true)
    (a22 : PySem.W.nsIn K mainGlobals "_law_patterns_right" = some (some (.ref f22))) (l22 : K.lookup f22 = some ⟨oc22, od22, .func (PySem.W.fnOf "_law_patterns_right" "_law_patterns_right" (defArgs s22) (defBody s22) (defScope s22) .none kV22 dc22 pm22 an22 cd22 ct22), sl22⟩) (c22 : PySem.W.codeIn K cd22 "_law_patterns_right" = true) (k22 : PySem.W.keepIn K (.ref f22) = true)
    (a23 : PySem.W.nsIn K mainGlobals "law" = some (some (.ref f23))) (l23 : K.lookup f23 = some ⟨oc23, od23, .func (PySem.W.fnOf "law" "law" (defArgs s23) (defBody s23) (defScope s23) .none kV23 dc23 pm23 an23 cd23 ct23), sl23⟩) (c23 : PySem.W.codeIn K cd23 "law" = true) (k23 : PySem.W.keepIn K (.ref f23) = true)
    (z0 : PySem.W.nsIn K mainGlobals "abs" = some none)
    (z1 : PySem.W.nsIn K mainGlobals "all" = some none)
    (z2 : PySem.W.nsIn K mainGlobals "bool" = some none)
    (z3 : PySem.W.nsIn K mainGlobals "int" = some none)
    (z4 : PySem.W.nsIn K mainGlobals "isinstance" = some none)
    (z5 : PySem.W.nsIn K mainGlobals "len" = some none)
    (z6 : PySem.W.nsIn K mainGlobals "list" = some none)
    (z7 : PySem.W.nsIn K mainGlobals "max" = some none)
    (z8 : PySem.W.nsIn K mainGlobals "min" = some none)
    (z9 : PySem.W.nsIn K mainGlobals "range" = some none)
    (z10 : PySem.W.nsIn K mainGlobals "str" = some none)
    (z11 : PySem.W.nsIn K mainGlobals "tuple" = some none)
    {t0 : Nat} (y0 : PySem.W.nsIn K mainGlobals "DIGITS" = some (some (.str "0123456789" t0)))
    {t1 : Nat} (y1 : PySem.W.nsIn K mainGlobals "LETTERS" = some (some (.str "abcdefghijklmnopqrstuvwxyz" t1)))
    {t2 : Nat} (y2 : PySem.W.nsIn K mainGlobals "MOST_DIGITS" = some (some (.int 9 t2)))
    (yg : PySem.W.nsIn K mainGlobals "gcd" = some (some (.builtin "math.gcd")))
    : G.At K mg where
  fn := fun d hd => by
    revert d hd
    simp only [G, List.forall_mem_cons, List.not_mem_nil, false_implies, implies_true, and_true]
    refine ⟨?_, ?_, ?_, ?_, ?_, ?_, ?_, ?_, ?_, ?_, ?_, ?_, ?_, ?_, ?_, ?_, ?_, ?_, ?_, ?_, ?_, ?_, ?_, ?_⟩
    · have F := fun_mk (st := s0) l0 c0 k0
      exact ⟨f0, _, PySem.W.mg_of X Gh a0, F, F.binds (ps := ["value"]) fun _ _ _ _ _ _ us hl => match us, hl with | [_], _ => rfl, fun q hq => nomatch hq⟩
    · have F := fun_mk (st := s1) l1 c1 k1
      exact ⟨f1, _, PySem.W.mg_of X Gh a1, F, F.binds (ps := ["text"]) fun _ _ _ _ _ _ us hl => match us, hl with | [_], _ => rfl, fun q hq => nomatch hq⟩
    · have F := fun_mk (st := s2) l2 c2 k2
      exact ⟨f2, _, PySem.W.mg_of X Gh a2, F, F.binds (ps := ["text"]) fun _ _ _ _ _ _ us hl => match us, hl with | [_], _ => rfl, fun q hq => nomatch hq⟩
    · have F := fun_mk (st := s3) l3 c3 k3
      refine ⟨f3, _, PySem.W.mg_of X Gh a3, F, F.binds (ps := ["text"]) fun _ _ _ _ _ _ us hl => match us, hl with | [_], _ => rfl, ?_⟩
      simp only [d3, List.forall_mem_cons, List.not_mem_nil, false_implies, implies_true, and_true]
      exact fun_kb F (by decide) fun _ _ _ _ _ _ us ws h1 h2 => match us, ws, h1, h2 with | [], [_], _, _ => rfl
    · have F := fun_mk (st := s4) l4 c4 k4
      exact ⟨f4, _, PySem.W.mg_of X Gh a4, F, F.binds (ps := ["text", "at"]) fun _ _ _ _ _ _ us hl => match us, hl with | [_, _], _ => rfl, fun q hq => nomatch hq⟩
    · have F := fun_mk (st := s5) l5 c5 k5
      exact ⟨f5, _, PySem.W.mg_of X Gh a5, F, F.binds (ps := ["text", "at"]) fun _ _ _ _ _ _ us hl => match us, hl with | [_, _], _ => rfl, fun q hq => nomatch hq⟩
    · have F := fun_mk (st := s6) l6 c6 k6
      exact ⟨f6, _, PySem.W.mg_of X Gh a6, F, F.binds (ps := ["text", "at"]) fun _ _ _ _ _ _ us hl => match us, hl with | [_, _], _ => rfl, fun q hq => nomatch hq⟩
    · have F := fun_mk (st := s7) l7 c7 k7
      exact ⟨f7, _, PySem.W.mg_of X Gh a7, F, F.binds (ps := ["text", "at"]) fun _ _ _ _ _ _ us hl => match us, hl with | [_, _], _ => rfl, fun q hq => nomatch hq⟩
    · have F := fun_mk (st := s8) l8 c8 k8
      refine ⟨f8, _, PySem.W.mg_of X Gh a8, F, F.binds (ps := ["text"]) fun _ _ _ _ _ _ us hl => match us, hl with | [_], _ => rfl, ?_⟩
      simp only [d8, List.forall_mem_cons, List.not_mem_nil, false_implies, implies_true, and_true]
      exact fun_kb F (by decide) fun _ _ _ _ _ _ us ws h1 h2 => match us, ws, h1, h2 with | [], [_], _, _ => rfl
    · have F := fun_mk (st := s9) l9 c9 k9
      refine ⟨f9, _, PySem.W.mg_of X Gh a9, F, F.binds (ps := ["number"]) fun _ _ _ _ _ _ us hl => match us, hl with | [_], _ => rfl, ?_⟩
      simp only [d9, List.forall_mem_cons, List.not_mem_nil, false_implies, implies_true, and_true]
      exact fun_kb F (by decide) fun _ _ _ _ _ _ us ws h1 h2 => match us, ws, h1, h2 with | [], [_], _, _ => rfl
    · have F := fun_mk (st := s10) l10 c10 k10
      refine ⟨f10, _, PySem.W.mg_of X Gh a10, F, F.binds (ps := ["pattern"]) fun _ _ _ _ _ _ us hl => match us, hl with | [_], _ => rfl, ?_⟩
      simp only [d10, List.forall_mem_cons, List.not_mem_nil, false_implies, implies_true, and_true]
      exact fun_kb F (by decide) fun _ _ _ _ _ _ us ws h1 h2 => match us, ws, h1, h2 with | [], [_], _, _ => rfl
    · have F := fun_mk (st := s11) l11 c11 k11
      exact ⟨f11, _, PySem.W.mg_of X Gh a11, F, F.binds (ps := ["script", "place"]) fun _ _ _ _ _ _ us hl => match us, hl with | [_, _], _ => rfl, fun q hq => nomatch hq⟩
    · have F := fun_mk (st := s12) l12 c12 k12
      exact ⟨f12, _, PySem.W.mg_of X Gh a12, F, F.binds (ps := ["well", "many"]) fun _ _ _ _ _ _ us hl => match us, hl with | [_, _], _ => rfl, fun q hq => nomatch hq⟩
    · have F := fun_mk (st := s13) l13 c13 k13
      exact ⟨f13, _, PySem.W.mg_of X Gh a13, F, F.binds (ps := ["one", "other"]) fun _ _ _ _ _ _ us hl => match us, hl with | [_, _], _ => rfl, fun q hq => nomatch hq⟩
    · have F := fun_mk (st := s14) l14 c14 k14
      exact ⟨f14, _, PySem.W.mg_of X Gh a14, F, F.binds (ps := ["well"]) fun _ _ _ _ _ _ us hl => match us, hl with | [_], _ => rfl, fun q hq => nomatch hq⟩
    · have F := fun_mk (st := s15) l15 c15 k15
      exact ⟨f15, _, PySem.W.mg_of X Gh a15, F, F.binds (ps := ["pair"]) fun _ _ _ _ _ _ us hl => match us, hl with | [_], _ => rfl, fun q hq => nomatch hq⟩
    · have F := fun_mk (st := s16) l16 c16 k16
      exact ⟨f16, _, PySem.W.mg_of X Gh a16, F, F.binds (ps := ["well"]) fun _ _ _ _ _ _ us hl => match us, hl with | [_], _ => rfl, fun q hq => nomatch hq⟩
    · have F := fun_mk (st := s17) l17 c17 k17
      exact ⟨f17, _, PySem.W.mg_of X Gh a17, F, F.binds (ps := ["well", "room", "deep"]) fun _ _ _ _ _ _ us hl => match us, hl with | [_, _, _], _ => rfl, fun q hq => nomatch hq⟩
    · have F := fun_mk (st := s18) l18 c18 k18
      exact ⟨f18, _, PySem.W.mg_of X Gh a18, F, F.binds (ps := ["tree"]) fun _ _ _ _ _ _ us hl => match us, hl with | [_], _ => rfl, fun q hq => nomatch hq⟩
    · have F := fun_mk (st := s19) l19 c19 k19
      exact ⟨f19, _, PySem.W.mg_of X Gh a19, F, F.binds (ps := ["well"]) fun _ _ _ _ _ _ us hl => match us, hl with | [_], _ => rfl, fun q hq => nomatch hq⟩
    · have F := fun_mk (st := s20) l20 c20 k20
      exact ⟨f20, _, PySem.W.mg_of X Gh a20, F, F.binds (ps := ["told", "due"]) fun _ _ _ _ _ _ us hl => match us, hl with | [_, _], _ => rfl, fun q hq => nomatch hq⟩
    · have F := fun_mk (st := s21) l21 c21 k21
      exact ⟨f21, _, PySem.W.mg_of X Gh a21, F, F.binds (ps := ["well"]) fun _ _ _ _ _ _ us hl => match us, hl with | [_], _ => rfl, fun q hq => nomatch hq⟩
    · have F := fun_mk (st := s22) l22 c22 k22
      exact ⟨f22, _, PySem.W.mg_of X Gh a22, F, F.binds (ps := ["well"]) fun _ _ _ _ _ _ us hl => match us, hl with | [_], _ => rfl, fun q hq => nomatch hq⟩
    · have F := fun_mk (st := s23) l23 c23 k23
      exact ⟨f23, _, PySem.W.mg_of X Gh a23, F, F.binds (ps := ["script"]) fun _ _ _ _ _ _ us hl => match us, hl with | [_], _ => rfl, fun q hq => nomatch hq⟩
  exf := by simp [G]
  con := fun x d hx => by
    simp only [G, List.mem_cons, List.not_mem_nil, or_false, Prod.mk.injEq, Gb.con.injEq, reduceCtorEq, and_false, false_or] at hx
    rcases hx with ⟨rfl, rfl⟩ | ⟨rfl, rfl⟩ | ⟨rfl, rfl⟩
    · exact ⟨rfl, _, PySem.W.mg_of X Gh y0, ⟨t0, rfl⟩⟩
    · exact ⟨rfl, _, PySem.W.mg_of X Gh y1, ⟨t1, rfl⟩⟩
    · exact ⟨rfl, _, PySem.W.mg_of X Gh y2, ⟨t2, rfl⟩⟩
  bi := fun x d hx => by
    simp only [G, List.mem_cons, List.not_mem_nil, or_false, Prod.mk.injEq, Gb.bi.injEq, reduceCtorEq, and_false, false_or] at hx
    obtain ⟨rfl, rfl⟩ := hx
    exact ⟨_, rfl, PySem.W.mg_of X Gh yg⟩
  bl := by
    simp only [G, List.forall_mem_cons, List.not_mem_nil, false_implies, implies_true, and_true]
    exact ⟨PySem.W.mg_none_of X Gh z0, PySem.W.mg_none_of X Gh z1, PySem.W.mg_none_of X Gh z2, PySem.W.mg_none_of X Gh z3, PySem.W.mg_none_of X Gh z4, PySem.W.mg_none_of X Gh z5, PySem.W.mg_none_of X Gh z6, PySem.W.mg_none_of X Gh z7, PySem.W.mg_none_of X Gh z8, PySem.W.mg_none_of X Gh z9, PySem.W.mg_none_of X Gh z10, PySem.W.mg_none_of X Gh z11⟩
end
open PySem.W in
theorem all_mk {l : PySem.W.OpenLaw} {w : World} {K : PySem.W.Frag} {h : Heap} {mg : Str → Option Value} {fa : Addr} {T : Tb} {Φ : Nat → Option Fn} (hΦ : Rd G Φ) (X : K.In h) (Gh : h.Ns mainGlobals mg) (hfa : mg "law" = some (.ref fa)) {od0 an0 : Option Addr} {sl0 : Array (Option Value)} {f0 : Addr} {oc0 kV0 dc0 pm0 cd0 ct0 : Value} {od1 an1 : Option Addr} {sl1 : Array (Option Value)} {f1 : Addr} {oc1 kV1 dc1 pm1 cd1 ct1 : Value} {od2 an2 : Option Addr} {sl2 : Array (Option Value)} {f2 : Addr} {oc2 kV2 dc2 pm2 cd2 ct2 : Value} {od3 an3 : Option Addr} {sl3 : Array (Option Value)} {f3 : Addr} {oc3 kV3 dc3 pm3 cd3 ct3 : Value} {od4 an4 : Option Addr} {sl4 : Array (Option Value)} {f4 : Addr} {oc4 kV4 dc4 pm4 cd4 ct4 : Value} {od5 an5 : Option Addr} {sl5 : Array (Option Value)} {f5 : Addr} {oc5 kV5 dc5 pm5 cd5 ct5 : Value} {od6 an6 : Option Addr} {sl6 : Array (Option Value)} {f6 : Addr} {oc6 kV6 dc6 pm6 cd6 ct6 : Value} {od7 an7 : Option Addr} {sl7 : Array (Option Value)} {f7 : Addr} {oc7 kV7 dc7 pm7 cd7 ct7 : Value} {od8 an8 : Option Addr} {sl8 : Array (Option Value)} {f8 : Addr} {oc8 kV8 dc8 pm8 cd8 ct8 : Value} {od9 an9 : Option Addr} {sl9 : Array (Option Value)} {f9 : Addr} {oc9 kV9 dc9 pm9 cd9 ct9 : Value} {od10 an10 : Option Addr} {sl10 : Array (Option Value)} {f10 : Addr} {oc10 kV10 dc10 pm10 cd10 ct10 : Value} {od11 an11 : Option Addr} {sl11 : Array (Option Value)} {f11 : Addr} {oc11 kV11 dc11 pm11 cd11 ct11 : Value} {od12 an12 : Option Addr} {sl12 : Array (Option Value)} {f12 : Addr} {oc12 kV12 dc12 pm12 cd12 ct12 : Value} {od13 an13 : Option Addr} {sl13 : Array (Option Value)} {f13 : Addr} {oc13 kV13 dc13 pm13 cd13 ct13 : Value} {od14 an14 : Option Addr} {sl14 : Array (Option Value)} {f14 : Addr} {oc14 kV14 dc14 pm14 cd14 ct14 : Value} {od15 an15 : Option Addr} {sl15 : Array (Option Value)} {f15 : Addr} {oc15 kV15 dc15 pm15 cd15 ct15 : Value} {od16 an16 : Option Addr} {sl16 : Array (Option Value)} {f16 : Addr} {oc16 kV16 dc16 pm16 cd16 ct16 : Value} {od17 an17 : Option Addr} {sl17 : Array (Option Value)} {f17 : Addr} {oc17 kV17 dc17 pm17 cd17 ct17 : Value} {od18 an18 : Option Addr} {sl18 : Array (Option Value)} {f18 : Addr} {oc18 kV18 dc18 pm18 cd18 ct18 : Value} {od19 an19 : Option Addr} {sl19 : Array (Option Value)} {f19 : Addr} {oc19 kV19 dc19 pm19 cd19 ct19 : Value} {od20 an20 : Option Addr} {sl20 : Array (Option Value)} {f20 : Addr} {oc20 kV20 dc20 pm20 cd20 ct20 : Value} {od21 an21 : Option Addr} {sl21 : Array (Option Value)} {f21 : Addr} {oc21 kV21 dc21 pm21 cd21 ct21 : Value} {od22 an22 : Option Addr} {sl22 : Array (Option Value)} {f22 : Addr} {oc22 kV22 dc22 pm22 cd22 ct22 : Value} {od23 an23 : Option Addr} {sl23 : Array (Option Value)} {f23 : Addr} {oc23 kV23 dc23 pm23 cd23 ct23 : Value}
    (a0 : PySem.W.nsIn K mainGlobals "is_number" = some (some (.ref f0))) (l0 : K.lookup f0 = some ⟨oc0, od0, .func (PySem.W.fnOf "is_number" "is_number" (defArgs s0) (defBody s0) (defScope s0) .none kV0 dc0 pm0 an0 cd0 ct0), sl0⟩) (c0 : PySem.W.codeIn K cd0 "is_number" = true) (k0 : PySem.W.keepIn K (.ref f0) = true)
    (a1 : PySem.W.nsIn K mainGlobals "whole_of" = some (some (.ref f1))) (l1 : K.lookup f1 = some ⟨oc1, od1, .func (PySem.W.fnOf "whole_of" "whole_of" (defArgs s1) (defBody s1) (defScope s1) .none kV1 dc1 pm1 an1 cd1 ct1), sl1⟩) (c1 : PySem.W.codeIn K cd1 "whole_of" = true) (k1 : PySem.W.keepIn K (.ref f1) = true)
    (a2 : PySem.W.nsIn K mainGlobals "number_of" = some (some (.ref f2))) (l2 : K.lookup f2 = some ⟨oc2, od2, .func (PySem.W.fnOf "number_of" "number_of" (defArgs s2) (defBody s2) (defScope s2) .none kV2 dc2 pm2 an2 cd2 ct2), sl2⟩) (c2 : PySem.W.codeIn K cd2 "number_of" = true) (k2 : PySem.W.keepIn K (.ref f2) = true)
    (a3 : PySem.W.nsIn K mainGlobals "read_number" = some (some (.ref f3))) (l3 : K.lookup f3 = some ⟨oc3, od3, .func (PySem.W.fnOf "read_number" "read_number" (defArgs s3) (defBody s3) (defScope s3) .none kV3 dc3 pm3 an3 cd3 ct3), sl3⟩) (c3 : PySem.W.codeIn K cd3 "read_number" = true) (k3 : PySem.W.keepIn K (.ref f3) = true)
    (a4 : PySem.W.nsIn K mainGlobals "weighed_at" = some (some (.ref f4))) (l4 : K.lookup f4 = some ⟨oc4, od4, .func (PySem.W.fnOf "weighed_at" "weighed_at" (defArgs s4) (defBody s4) (defScope s4) .none kV4 dc4 pm4 an4 cd4 ct4), sl4⟩) (c4 : PySem.W.codeIn K cd4 "weighed_at" = true) (k4 : PySem.W.keepIn K (.ref f4) = true)
    (a5 : PySem.W.nsIn K mainGlobals "pair_at" = some (some (.ref f5))) (l5 : K.lookup f5 = some ⟨oc5, od5, .func (PySem.W.fnOf "pair_at" "pair_at" (defArgs s5) (defBody s5) (defScope s5) .none kV5 dc5 pm5 an5 cd5 ct5), sl5⟩) (c5 : PySem.W.codeIn K cd5 "pair_at" = true) (k5 : PySem.W.keepIn K (.ref f5) = true)
    (a6 : PySem.W.nsIn K mainGlobals "part_at" = some (some (.ref f6))) (l6 : K.lookup f6 = some ⟨oc6, od6, .func (PySem.W.fnOf "part_at" "part_at" (defArgs s6) (defBody s6) (defScope s6) .none kV6 dc6 pm6 an6 cd6 ct6), sl6⟩) (c6 : PySem.W.codeIn K cd6 "part_at" = true) (k6 : PySem.W.keepIn K (.ref f6) = true)
    (a7 : PySem.W.nsIn K mainGlobals "pattern_at" = some (some (.ref f7))) (l7 : K.lookup f7 = some ⟨oc7, od7, .func (PySem.W.fnOf "pattern_at" "pattern_at" (defArgs s7) (defBody s7) (defScope s7) .none kV7 dc7 pm7 an7 cd7 ct7), sl7⟩) (c7 : PySem.W.codeIn K cd7 "pattern_at" = true) (k7 : PySem.W.keepIn K (.ref f7) = true)
    (a8 : PySem.W.nsIn K mainGlobals "read_pattern" = some (some (.ref f8))) (l8 : K.lookup f8 = some ⟨oc8, od8, .func (PySem.W.fnOf "read_pattern" "read_pattern" (defArgs s8) (defBody s8) (defScope s8) .none kV8 dc8 pm8 an8 cd8 ct8), sl8⟩) (c8 : PySem.W.codeIn K cd8 "read_pattern" = true) (k8 : PySem.W.keepIn K (.ref f8) = true)
    (a9 : PySem.W.nsIn K mainGlobals "show_number" = some (some (.ref f9))) (l9 : K.lookup f9 = some ⟨oc9, od9, .func (PySem.W.fnOf "show_number" "show_number" (defArgs s9) (defBody s9) (defScope s9) .none kV9 dc9 pm9 an9 cd9 ct9), sl9⟩) (c9 : PySem.W.codeIn K cd9 "show_number" = true) (k9 : PySem.W.keepIn K (.ref f9) = true)
    (a10 : PySem.W.nsIn K mainGlobals "show_pattern" = some (some (.ref f10))) (l10 : K.lookup f10 = some ⟨oc10, od10, .func (PySem.W.fnOf "show_pattern" "show_pattern" (defArgs s10) (defBody s10) (defScope s10) .none kV10 dc10 pm10 an10 cd10 ct10), sl10⟩) (c10 : PySem.W.codeIn K cd10 "show_pattern" = true) (k10 : PySem.W.keepIn K (.ref f10) = true)
    (a11 : PySem.W.nsIn K mainGlobals "_law_well" = some (some (.ref f11))) (l11 : K.lookup f11 = some ⟨oc11, od11, .func (PySem.W.fnOf "_law_well" "_law_well" (defArgs s11) (defBody s11) (defScope s11) .none kV11 dc11 pm11 an11 cd11 ct11), sl11⟩) (c11 : PySem.W.codeIn K cd11 "_law_well" = true) (k11 : PySem.W.keepIn K (.ref f11) = true)
    (a12 : PySem.W.nsIn K mainGlobals "_law_dip" = some (some (.ref f12))) (l12 : K.lookup f12 = some ⟨oc12, od12, .func (PySem.W.fnOf "_law_dip" "_law_dip" (defArgs s12) (defBody s12) (defScope s12) .none kV12 dc12 pm12 an12 cd12 ct12), sl12⟩) (c12 : PySem.W.codeIn K cd12 "_law_dip" = true) (k12 : PySem.W.keepIn K (.ref f12) = true)
    (a13 : PySem.W.nsIn K mainGlobals "_law_common" = some (some (.ref f13))) (l13 : K.lookup f13 = some ⟨oc13, od13, .func (PySem.W.fnOf "_law_common" "_law_common" (defArgs s13) (defBody s13) (defScope s13) .none kV13 dc13 pm13 an13 cd13 ct13), sl13⟩) (c13 : PySem.W.codeIn K cd13 "_law_common" = true) (k13 : PySem.W.keepIn K (.ref f13) = true)
    (a14 : PySem.W.nsIn K mainGlobals "_law_pair" = some (some (.ref f14))) (l14 : K.lookup f14 = some ⟨oc14, od14, .func (PySem.W.fnOf "_law_pair" "_law_pair" (defArgs s14) (defBody s14) (defScope s14) .none kV14 dc14 pm14 an14 cd14 ct14), sl14⟩) (c14 : PySem.W.codeIn K cd14 "_law_pair" = true) (k14 : PySem.W.keepIn K (.ref f14) = true)
    (a15 : PySem.W.nsIn K mainGlobals "_law_said" = some (some (.ref f15))) (l15 : K.lookup f15 = some ⟨oc15, od15, .func (PySem.W.fnOf "_law_said" "_law_said" (defArgs s15) (defBody s15) (defScope s15) .none kV15 dc15 pm15 an15 cd15 ct15), sl15⟩) (c15 : PySem.W.codeIn K cd15 "_law_said" = true) (k15 : PySem.W.keepIn K (.ref f15) = true)
    (a16 : PySem.W.nsIn K mainGlobals "_law_leaf" = some (some (.ref f16))) (l16 : K.lookup f16 = some ⟨oc16, od16, .func (PySem.W.fnOf "_law_leaf" "_law_leaf" (defArgs s16) (defBody s16) (defScope s16) .none kV16 dc16 pm16 an16 cd16 ct16), sl16⟩) (c16 : PySem.W.codeIn K cd16 "_law_leaf" = true) (k16 : PySem.W.keepIn K (.ref f16) = true)
    (a17 : PySem.W.nsIn K mainGlobals "_law_tree" = some (some (.ref f17))) (l17 : K.lookup f17 = some ⟨oc17, od17, .func (PySem.W.fnOf "_law_tree" "_law_tree" (defArgs s17) (defBody s17) (defScope s17) .none kV17 dc17 pm17 an17 cd17 ct17), sl17⟩) (c17 : PySem.W.codeIn K cd17 "_law_tree" = true) (k17 : PySem.W.keepIn K (.ref f17) = true)
    (a18 : PySem.W.nsIn K mainGlobals "_law_words" = some (some (.ref f18))) (l18 : K.lookup f18 = some ⟨oc18, od18, .func (PySem.W.fnOf "_law_words" "_law_words" (defArgs s18) (defBody s18) (defScope s18) .none kV18 dc18 pm18 an18 cd18 ct18), sl18⟩) (c18 : PySem.W.codeIn K cd18 "_law_words" = true) (k18 : PySem.W.keepIn K (.ref f18) = true)
    (a19 : PySem.W.nsIn K mainGlobals "_law_chain" = some (some (.ref f19))) (l19 : K.lookup f19 = some ⟨oc19, od19, .func (PySem.W.fnOf "_law_chain" "_law_chain" (defArgs s19) (defBody s19) (defScope s19) .none kV19 dc19 pm19 an19 cd19 ct19), sl19⟩) (c19 : PySem.W.codeIn K cd19 "_law_chain" = true) (k19 : PySem.W.keepIn K (.ref f19) = true)
    (a20 : PySem.W.nsIn K mainGlobals "_law_same" = some (some (.ref f20))) (l20 : K.lookup f20 = some ⟨oc20, od20, .func (PySem.W.fnOf "_law_same" "_law_same" (defArgs s20) (defBody s20) (defScope s20) .none kV20 dc20 pm20 an20 cd20 ct20), sl20⟩) (c20 : PySem.W.codeIn K cd20 "_law_same" = true) (k20 : PySem.W.keepIn K (.ref f20) = true)
    (a21 : PySem.W.nsIn K mainGlobals "_law_numbers_right" = some (some (.ref f21))) (l21 : K.lookup f21 = some ⟨oc21, od21, .func (PySem.W.fnOf "_law_numbers_right" "_law_numbers_right" (defArgs s21) (defBody s21) (defScope s21) .none kV21 dc21 pm21 an21 cd21 ct21), sl21⟩) (c21 : PySem.W.codeIn K cd21 "_law_numbers_right" = true) (k21 : PySem.W.keepIn K (.ref f21) = true)
    (a22 : PySem.W.nsIn K mainGlobals "_law_patterns_right" = some (some (.ref f22))) (l22 : K.lookup f22 = some ⟨oc22, od22, .func (PySem.W.fnOf "_law_patterns_right" "_law_patterns_right" (defArgs s22) (defBody s22) (defScope s22) .none kV22 dc22 pm22 an22 cd22 ct22), sl22⟩) (c22 : PySem.W.codeIn K cd22 "_law_patterns_right" = true) (k22 : PySem.W.keepIn K (.ref f22) = true)
    (a23 : PySem.W.nsIn K mainGlobals "law" = some (some (.ref f23))) (l23 : K.lookup f23 = some ⟨oc23, od23, .func (PySem.W.fnOf "law" "law" (defArgs s23) (defBody s23) (defScope s23) .none kV23 dc23 pm23 an23 cd23 ct23), sl23⟩) (c23 : PySem.W.codeIn K cd23 "law" = true) (k23 : PySem.W.keepIn K (.ref f23) = true)
    (z0 : PySem.W.nsIn K mainGlobals "abs" = some none)
    (z1 : PySem.W.nsIn K mainGlobals "all" = some none)
    (z2 : PySem.W.nsIn K mainGlobals "bool" = some none)
    (z3 : PySem.W.nsIn K mainGlobals "int" = some none)
    (z4 : PySem.W.nsIn K mainGlobals "isinstance" = some none)
    (z5 : PySem.W.nsIn K mainGlobals "len" = some none)
    (z6 : PySem.W.nsIn K mainGlobals "list" = some none)
    (z7 : PySem.W.nsIn K mainGlobals "max" = some none)
    (z8 : PySem.W.nsIn K mainGlobals "min" = some none)
    (z9 : PySem.W.nsIn K mainGlobals "range" = some none)
    (z10 : PySem.W.nsIn K mainGlobals "str" = some none)
    (z11 : PySem.W.nsIn K mainGlobals "tuple" = some none)
    {t0 : Nat} (y0 : PySem.W.nsIn K mainGlobals "DIGITS" = some (some (.str "0123456789" t0)))
    {t1 : Nat} (y1 : PySem.W.nsIn K mainGlobals "LETTERS" = some (some (.str "abcdefghijklmnopqrstuvwxyz" t1)))
    {t2 : Nat} (y2 : PySem.W.nsIn K mainGlobals "MOST_DIGITS" = some (some (.int 9 t2)))
    (yg : PySem.W.nsIn K mainGlobals "gcd" = some (some (.builtin "math.gcd")))
    : ∃ fd : FuncData, (∀ (s : Shared) (v : Value), BindsTo s fd ⟨[v], []⟩ [("script", v)]) ∧ ∀ base : Heap, K.In base → base.Ns mainGlobals mg → FnOk l.prog w K mg base (L2.CX l.prog w) 220 fa fd ["script"] (spOf T K (call Φ 220) 23 1 []) := by
  have e := hfa.symm.trans (PySem.W.mg_of X Gh a23)
  cases e
  have F := fun_mk (st := s23) l23 c23 k23
  have A := at_mk X Gh a0 l0 c0 k0 a1 l1 c1 k1 a2 l2 c2 k2 a3 l3 c3 k3 a4 l4 c4 k4 a5 l5 c5 k5 a6 l6 c6 k6 a7 l7 c7 k7 a8 l8 c8 k8 a9 l9 c9 k9 a10 l10 c10 k10 a11 l11 c11 k11 a12 l12 c12 k12 a13 l13 c13 k13 a14 l14 c14 k14 a15 l15 c15 k15 a16 l16 c16 k16 a17 l17 c17 k17 a18 l18 c18 k18 a19 l19 c19 k19 a20 l20 c20 k20 a21 l21 c21 k21 a22 l22 c22 k22 a23 l23 c23 k23 z0 z1 z2 z3 z4 z5 z6 z7 z8 z9 z10 z11 y0 y1 y2 yg
  exact ⟨_, fun s v => .of_eq rfl, fun base _ _ => fn_ok okG A hΦ 220 23 d23 _ _ rfl F⟩
end K85
open PySem PySem.W PyProof.Rows
set_option maxHeartbeats 0 in
theorem PySem.Challenge.cw_wholeworths_k85_whole_patterns_there_and_holds : PySem.Challenge.rw_wholeworths_k85_whole_patterns_there_and.Holds := by
  w_on; o_law; k_head; (case hw => w_witness2)
  k_fill
  refine L2.walk_of (l := PySem.Challenge.rw_wholeworths_k85_whole_patterns_there_and) (n := 63) (k := 220) (x := "script") (CX := fun w => L2.CX PySem.Challenge.pw_wholeworths_k85_whole_patterns_there_and w) (sp := fun w => Ev.spOf ⟨fun _ => 0, fun _ => ""⟩ _ (Ev.call K85.Φ 220) 23 1 []) rfl (by decide) rfl ⟨rfl, by decide, by decide⟩ (fun w h Y => PySem.W.kIn_of Y) ?F (fun w H a ms hl hO hS => Ev.law_sp K85.law_keeps H a ms hl hO hS) (fun _ _ _ _ _ h => Ev.cx_none h)
  case F =>
    intro w mg fa h KX G hmg
    refine' K85.all_mk K85.hΦ KX G hmg ?a0 ?l0 ?c0 ?k0 ?a1 ?l1 ?c1 ?k1 ?a2 ?l2 ?c2 ?k2 ?a3 ?l3 ?c3 ?k3 ?a4 ?l4 ?c4 ?k4 ?a5 ?l5 ?c5 ?k5 ?a6 ?l6 ?c6 ?k6 ?a7 ?l7 ?c7 ?k7 ?a8 ?l8 ?c8 ?k8 ?a9 ?l9 ?c9 ?k9 ?a10 ?l10 ?c10 ?k10 ?a11 ?l11 ?c11 ?k11 ?a12 ?l12 ?c12 ?k12 ?a13 ?l13 ?c13 ?k13 ?a14 ?l14 ?c14 ?k14 ?a15 ?l15 ?c15 ?k15 ?a16 ?l16 ?c16 ?k16 ?a17 ?l17 ?c17 ?k17 ?a18 ?l18 ?c18 ?k18 ?a19 ?l19 ?c19 ?k19 ?a20 ?l20 ?c20 ?k20 ?a21 ?l21 ?c21 ?k21 ?a22 ?l22 ?c22 ?k22 ?a23 ?l23 ?c23 ?k23 ?z0 ?z1 ?z2 ?z3 ?z4 ?z5 ?z6 ?z7 ?z8 ?z9 ?z10 ?z11 ?y0 ?y1 ?y2 ?yg
    (case a0 => k_is); (case l0 => k_is); (case c0 => k_is); (case k0 => k_is); (case a1 => k_is); (case l1 => k_is); (case c1 => k_is); (case k1 => k_is); (case a2 => k_is); (case l2 => k_is); (case c2 => k_is); (case k2 => k_is); (case a3 => k_is); (case l3 => k_is); (case c3 => k_is); (case k3 => k_is); (case a4 => k_is); (case l4 => k_is); (case c4 => k_is); (case k4 => k_is); (case a5 => k_is); (case l5 => k_is); (case c5 => k_is); (case k5 => k_is); (case a6 => k_is); (case l6 => k_is); (case c6 => k_is); (case k6 => k_is); (case a7 => k_is); (case l7 => k_is); (case c7 => k_is); (case k7 => k_is); (case a8 => k_is); (case l8 => k_is); (case c8 => k_is); (case k8 => k_is); (case a9 => k_is); (case l9 => k_is); (case c9 => k_is); (case k9 => k_is); (case a10 => k_is); (case l10 => k_is); (case c10 => k_is); (case k10 => k_is); (case a11 => k_is); (case l11 => k_is); (case c11 => k_is); (case k11 => k_is); (case a12 => k_is); (case l12 => k_is); (case c12 => k_is); (case k12 => k_is); (case a13 => k_is); (case l13 => k_is); (case c13 => k_is); (case k13 => k_is); (case a14 => k_is); (case l14 => k_is); (case c14 => k_is); (case k14 => k_is); (case a15 => k_is); (case l15 => k_is); (case c15 => k_is); (case k15 => k_is); (case a16 => k_is); (case l16 => k_is); (case c16 => k_is); (case k16 => k_is); (case a17 => k_is); (case l17 => k_is); (case c17 => k_is); (case k17 => k_is); (case a18 => k_is); (case l18 => k_is); (case c18 => k_is); (case k18 => k_is); (case a19 => k_is); (case l19 => k_is); (case c19 => k_is); (case k19 => k_is); (case a20 => k_is); (case l20 => k_is); (case c20 => k_is); (case k20 => k_is); (case a21 => k_is); (case l21 => k_is); (case c21 => k_is); (case k21 => k_is); (case a22 => k_is); (case l22 => k_is); (case c22 => k_is); (case k22 => k_is); (case a23 => k_is); (case l23 => k_is); (case c23 => k_is); (case k23 => k_is); (case z0 => k_is); (case z1 => k_is); (case z2 => k_is); (case z3 => k_is); (case z4 => k_is); (case z5 => k_is); (case z6 => k_is); (case z7 => k_is); (case z8 => k_is); (case z9 => k_is); (case z10 => k_is); (case z11 => k_is); (case y0 => k_is); (case y1 => k_is); (case y2 => k_is); (case yg => k_is)

