import PyProof.Rows.All
import Wide.All
import OpenK.AllK
import Wide.FinOn
import PySem.Challenge.RW_mapround_k11_pieces_of_words
import HandS.ForMost
import HandS.ForExc
import HandS.Deep
import HandS.Wide
import HandS.SetFor
import HandS.More
import HandS.Rev
import HandS.CallSlots
import HandS.WordsExc
import HandS.IsInst
import KE.SortData
import HandS.RaiseMore
set_option Elab.async false
set_option linter.all false
set_option autoImplicit false
set_option maxRecDepth 100000
set_option maxHeartbeats 4000000
namespace TL
open PySem PySem.Spec L2

/-! ## Trees: what a value is, told apart from where it lies -/
inductive Kd where
  | lst | tup
  | dct (ks : List Key)
  | dtp (ks : List (List Key))
  | ins (C : Addr) (fs : List Str)
  | exd (fs : List Str)
  /-- the script: read alone -/
  | scr
  deriving DecidableEq

inductive T where
  | atm (v : V)
  | box (o : Bool) (k : Kd) (xs : List T)
inductive AT where
  | atm (v : V)
  | box (o : Bool) (k : Kd) (a : Addr) (xs : List AT)

def AT.val : AT → V
  | .atm v => v
  | .box _ _ a _ => .ref a
def isAtm : V → Bool
  | .ref _ => false
  | _ => true

mutual
def AT.er : AT → T
  | .atm v => .atm v
  | .box o k _ xs => .box o k (AT.erL xs)
def AT.erL : List AT → List T
  | [] => []
  | x :: xs => x.er :: AT.erL xs
end
mutual
/-- how often an address is owned in a tree -/
def AT.cn (b : Addr) : AT → Nat
  | .atm _ => 0
  | .box o _ a xs => if o = true then (if b = a then 1 else 0) + AT.cnL b xs else 0
def AT.cnL (b : Addr) : List AT → Nat
  | [] => 0
  | x :: xs => x.cn b + AT.cnL b xs
end
mutual
/-- all frozen -/
def T.allF : T → Bool
  | .atm _ => true
  | .box o _ xs => !o && T.allFL xs
def T.allFL : List T → Bool
  | [] => true
  | x :: xs => x.allF && T.allFL xs
end
mutual
/-- all owned -/
def T.allO : T → Bool
  | .atm _ => true
  | .box o _ xs => o && T.allOL xs
def T.allOL : List T → Bool
  | [] => true
  | x :: xs => x.allO && T.allOL xs
end
mutual
def T.fz : T → T
  | .atm v => .atm v
  | .box _ k xs => .box false k (T.fzL xs)
def T.fzL : List T → List T
  | [] => []
  | x :: xs => x.fz :: T.fzL xs
end
mutual
def AT.fz : AT → AT
  | .atm v => .atm v
  | .box _ k a xs => .box false k a (AT.fzL xs)
def AT.fzL : List AT → List AT
  | [] => []
  | x :: xs => x.fz :: AT.fzL xs
end

/-- what stands at the address of a box -/
def Hold (H : Hp) (a : Addr) : Kd → List V → Prop
  | .lst, vs => H a = some (.lst vs)
  | .tup, vs => H a = some (.tup vs)
  | .dct ks, vs => ks.length = vs.length ∧ H a = some (.dK (ks.zip vs))
  | .dtp ks, vs => ks.length = vs.length ∧ H a = some (.dT (ks.zip vs))
  | .ins C fs, vs => fs.length = vs.length ∧ ∃ dx, H a = some (.ins C dx (fs.zip vs))
  | .exd fs, vs => fs.length = vs.length ∧ H a = some (.xd (fs.zip vs))
  | .scr, _ => False
/-- a list of the written part -/
def Wr (K : PySem.W.Frag) (a : Addr) (xs : List V) : Prop :=
  ∃ (o : Obj) (its : Array Value) (n : Nat), K.lookup a = some o ∧ o.cls = .type "list" ∧ o.dict = none ∧ o.data = .seq its n ∧ its.size ≤ sizeLine ∧ Vals xs its.toList
def Hfz (K : PySem.W.Frag) (R : Addr → Prop) (H : Hp) (a : Addr) (k : Kd) (vs : List V) : Prop :=
  match k with
  | .scr => Wr K a vs ∨ (R a ∧ Rd H a (.lst vs))
  | k => R a ∧ Hold H a k vs
def AtB (K : PySem.W.Frag) (o : Bool) (R : Addr → Prop) (H : Hp) (a : Addr) (k : Kd) (vs : List V) : Prop :=
  if o = true then ¬ R a ∧ Hold H a k vs else Hfz K R H a k vs
mutual
def AT.ok (K : PySem.W.Frag) (R : Addr → Prop) (H : Hp) : AT → Prop
  | .atm v => isAtm v = true
  | .box o k a xs => AtB K o R H a k (xs.map AT.val) ∧ AT.okL K R H xs ∧ (o = false → T.allFL (AT.erL xs) = true)
def AT.okL (K : PySem.W.Frag) (R : Addr → Prop) (H : Hp) : List AT → Prop
  | [] => True
  | x :: xs => x.ok K R H ∧ AT.okL K R H xs
end

theorem erL_map : ∀ xs : List AT, AT.erL xs = xs.map AT.er
  | [] => rfl
  | x :: xs => by simp [AT.erL, erL_map xs]
theorem fzL_map : ∀ xs : List T, T.fzL xs = xs.map T.fz
  | [] => rfl
  | x :: xs => by simp [T.fzL, fzL_map xs]
theorem afzL_map : ∀ xs : List AT, AT.fzL xs = xs.map AT.fz
  | [] => rfl
  | x :: xs => by simp [AT.fzL, afzL_map xs]
theorem okL_iff {K : PySem.W.Frag} {R : Addr → Prop} {H : Hp} : ∀ {xs : List AT}, AT.okL K R H xs ↔ ∀ x ∈ xs, x.ok K R H
  | [] => by simp [AT.okL]
  | x :: xs => by simp [AT.okL, okL_iff (xs := xs)]
theorem allFL_iff : ∀ {xs : List T}, T.allFL xs = true ↔ ∀ x ∈ xs, x.allF = true
  | [] => by simp [T.allFL]
  | x :: xs => by simp [T.allFL, allFL_iff (xs := xs)]
theorem allOL_iff : ∀ {xs : List T}, T.allOL xs = true ↔ ∀ x ∈ xs, x.allO = true
  | [] => by simp [T.allOL]
  | x :: xs => by simp [T.allOL, allOL_iff (xs := xs)]
theorem cnL_append (b : Addr) : ∀ xs ys : List AT, AT.cnL b (xs ++ ys) = AT.cnL b xs + AT.cnL b ys
  | [], ys => by simp [AT.cnL]
  | x :: xs, ys => by simp [AT.cnL, cnL_append b xs ys, Nat.add_assoc]
theorem okL_append {K : PySem.W.Frag} {R : Addr → Prop} {H : Hp} {xs ys : List AT} : AT.okL K R H (xs ++ ys) ↔ AT.okL K R H xs ∧ AT.okL K R H ys := by
  simp only [okL_iff, List.mem_append]
  exact ⟨fun h => ⟨fun x hx => h x (.inl hx), fun x hx => h x (.inr hx)⟩, fun ⟨h1, h2⟩ x hx => hx.elim (h1 x) (h2 x)⟩
theorem cnL_mem {b : Addr} : ∀ {xs : List AT} {x : AT}, x ∈ xs → x.cn b ≤ AT.cnL b xs
  | y :: ys, x, h => by
    rcases List.mem_cons.mp h with e | e
    · subst e; simp [AT.cnL]
    · have := cnL_mem (b := b) e; simp [AT.cnL]; omega
theorem erL_append (xs ys : List AT) : AT.erL (xs ++ ys) = AT.erL xs ++ AT.erL ys := by simp [erL_map]
theorem erL_length (xs : List AT) : (AT.erL xs).length = xs.length := by simp [erL_map]

/- size for inductions -/
mutual
theorem allF_cn (b : Addr) : ∀ t : AT, t.er.allF = true → t.cn b = 0
  | .atm _, _ => rfl
  | .box o k a xs, h => by
    simp only [AT.er, T.allF, Bool.and_eq_true, Bool.not_eq_true'] at h
    simp [AT.cn, h.1]
theorem allFL_cn (b : Addr) : ∀ xs : List AT, T.allFL (AT.erL xs) = true → AT.cnL b xs = 0
  | [], _ => rfl
  | x :: xs, h => by
    simp only [AT.erL, T.allFL, Bool.and_eq_true] at h
    simp [AT.cnL, allF_cn b x h.1, allFL_cn b xs h.2]
end
theorem Rd_mono {H H' : Hp} {a : Addr} {u : HO} (h : ∀ w, H a = some w → H' a = some w) (r : Rd H a u) : Rd H' a u := by
  rcases r with r | ⟨o, r⟩
  · exact .inl (h _ r)
  · exact .inr ⟨o, h _ r⟩
theorem Hold_mono {H H' : Hp} {a : Addr} {k : Kd} {vs : List V} (h : ∀ w, H a = some w → H' a = some w) (r : Hold H a k vs) : Hold H' a k vs := by
  cases k with
  | lst => exact h _ r
  | tup => exact h _ r
  | dct ks => exact ⟨r.1, h _ r.2⟩
  | dtp ks => exact ⟨r.1, h _ r.2⟩
  | ins C fs => obtain ⟨l, dx, r⟩ := r; exact ⟨l, dx, h _ r⟩
  | exd fs => exact ⟨r.1, h _ r.2⟩
  | scr => exact r
theorem Hold_there {H : Hp} {a : Addr} {k : Kd} {vs : List V} (r : Hold H a k vs) : H a ≠ none := by
  cases k with
  | lst => rw [show H a = _ from r]; simp
  | tup => rw [show H a = _ from r]; simp
  | dct ks => rw [r.2]; simp
  | dtp ks => rw [r.2]; simp
  | ins C fs => obtain ⟨_, _, r⟩ := r; rw [r]; simp
  | exd fs => rw [r.2]; simp
  | scr => exact r.elim
theorem Hfz_mono {K : PySem.W.Frag} {R R' : Addr → Prop} {H H' : Hp} {a : Addr} {k : Kd} {vs : List V} (hR : R a → R' a) (h : R a → ∀ w, H a = some w → H' a = some w) (r : Hfz K R H a k vs) : Hfz K R' H' a k vs := by
  cases k with
  | scr =>
    rcases r with r | ⟨ra, r⟩
    · exact .inl r
    · exact .inr ⟨hR ra, Rd_mono (h ra) r⟩
  | lst => exact ⟨hR r.1, Hold_mono (h r.1) r.2⟩
  | tup => exact ⟨hR r.1, Hold_mono (h r.1) r.2⟩
  | dct ks => exact ⟨hR r.1, Hold_mono (h r.1) r.2⟩
  | dtp ks => exact ⟨hR r.1, Hold_mono (h r.1) r.2⟩
  | ins C fs => exact ⟨hR r.1, Hold_mono (h r.1) r.2⟩
  | exd fs => exact ⟨hR r.1, Hold_mono (h r.1) r.2⟩
theorem Hfz_of {K : PySem.W.Frag} {R : Addr → Prop} {H : Hp} {a : Addr} {k : Kd} {vs : List V} (ra : R a) (r : Hold H a k vs) : Hfz K R H a k vs := by
  cases k with
  | scr => exact r.elim
  | _ => exact ⟨ra, r⟩
section
variable {K : PySem.W.Frag}
mutual
theorem ok_mono {R R' : Addr → Prop} {H H' : Hp} : ∀ {t : AT}, t.ok K R H → (∀ a, R a → R' a) → (∀ a, 0 < t.cn a → ¬ R' a) → (∀ a u, (R a ∨ 0 < t.cn a) → H a = some u → H' a = some u) → t.ok K R' H'
  | .atm v, h, _, _, _ => h
  | .box true k a xs, h, hR, hO, hH => by
    obtain ⟨h1, h3, h4⟩ := h
    simp only [AtB, if_true] at h1
    have c : 0 < (AT.box true k a xs).cn a := by simp [AT.cn]; omega
    refine ⟨?_, okL_mono h3 hR (fun b hb => hO b ?_) fun b u hb e => hH b u ?_ e, by simp⟩
    · simp only [AtB, if_true]; exact ⟨hO a c, Hold_mono (fun w e => hH a w (.inr c) e) h1.2⟩
    · simp only [AT.cn, if_true]; omega
    · rcases hb with hb | hb
      · exact .inl hb
      · right; simp only [AT.cn, if_true]; omega
  | .box false k a xs, h, hR, hO, hH => by
    obtain ⟨h1, h3, h4⟩ := h
    simp only [AtB, Bool.false_eq_true, if_false] at h1
    have z := fun b => allFL_cn b xs (h4 rfl)
    refine ⟨by simp only [AtB, Bool.false_eq_true, if_false]; exact Hfz_mono (hR a) (fun ra w e => hH a w (.inl ra) e) h1, okL_mono h3 hR (fun b hb => by rw [z b] at hb; omega) fun b u hb e => hH b u ?_ e, h4⟩
    rcases hb with hb | hb
    · exact .inl hb
    · rw [z b] at hb; omega
theorem okL_mono {R R' : Addr → Prop} {H H' : Hp} : ∀ {xs : List AT}, AT.okL K R H xs → (∀ a, R a → R' a) → (∀ a, 0 < AT.cnL a xs → ¬ R' a) → (∀ a u, (R a ∨ 0 < AT.cnL a xs) → H a = some u → H' a = some u) → AT.okL K R' H' xs
  | [], _, _, _, _ => trivial
  | x :: xs, h, hR, hO, hH => by
    refine ⟨ok_mono h.1 hR (fun a ha => hO a ?_) fun a u ha => hH a u ?_, okL_mono h.2 hR (fun a ha => hO a ?_) fun a u ha => hH a u ?_⟩
    · simp only [AT.cnL]; omega
    · rcases ha with ha | ha
      · exact .inl ha
      · right; simp only [AT.cnL]; omega
    · simp only [AT.cnL]; omega
    · rcases ha with ha | ha
      · exact .inl ha
      · right; simp only [AT.cnL]; omega
end
/-- the heap grows -/
theorem ok_ext {R : Addr → Prop} {H H' : Hp} {t : AT} (h : t.ok K R H) (hH : ∀ a u, H a = some u → H' a = some u) (hc : ∀ a, 0 < t.cn a → ¬ R a) : t.ok K R H' :=
  ok_mono h (fun _ x => x) hc fun a u _ => hH a u
mutual
theorem ok_notR {R : Addr → Prop} {H : Hp} : ∀ {t : AT}, t.ok K R H → ∀ a, 0 < t.cn a → ¬ R a
  | .atm v, _, a, h => by simp [AT.cn] at h
  | .box true k b xs, h, a, ha => by
    obtain ⟨h1, h3, _⟩ := h
    simp only [AtB, if_true] at h1
    simp only [AT.cn, if_true] at ha
    by_cases e : a = b
    · subst e; exact h1.1
    · rw [if_neg e] at ha; exact okL_notR h3 a (by omega)
  | .box false k b xs, h, a, ha => by simp [AT.cn] at ha
theorem okL_notR {R : Addr → Prop} {H : Hp} : ∀ {xs : List AT}, AT.okL K R H xs → ∀ a, 0 < AT.cnL a xs → ¬ R a
  | [], _, a, h => by simp [AT.cnL] at h
  | x :: xs, h, a, ha => by
    simp only [AT.cnL] at ha
    by_cases e : 0 < x.cn a
    · exact ok_notR h.1 a e
    · exact okL_notR h.2 a (by omega)
end
mutual
theorem ok_there {R : Addr → Prop} {H : Hp} : ∀ {t : AT}, t.ok K R H → ∀ a, 0 < t.cn a → H a ≠ none
  | .atm v, _, a, h => by simp [AT.cn] at h
  | .box true k b xs, h, a, ha => by
    obtain ⟨h2, h3, _⟩ := h
    simp only [AtB, if_true] at h2
    simp only [AT.cn, if_true] at ha
    by_cases e : a = b
    · subst e; exact Hold_there h2.2
    · rw [if_neg e] at ha; exact okL_there h3 a (by omega)
  | .box false k b xs, h, a, ha => by simp [AT.cn] at ha
theorem okL_there {R : Addr → Prop} {H : Hp} : ∀ {xs : List AT}, AT.okL K R H xs → ∀ a, 0 < AT.cnL a xs → H a ≠ none
  | [], _, a, h => by simp [AT.cnL] at h
  | x :: xs, h, a, ha => by
    simp only [AT.cnL] at ha
    by_cases e : 0 < x.cn a
    · exact ok_there h.1 a e
    · exact okL_there h.2 a (by omega)
end
end
theorem fz_val : ∀ t : AT, t.fz.val = t.val
  | .atm v => by simp [AT.fz]
  | .box _ _ _ _ => by simp [AT.fz, AT.val]
mutual
theorem fz_er : ∀ t : AT, t.fz.er = t.er.fz
  | .atm v => by simp [AT.fz, AT.er, T.fz]
  | .box o k a xs => by simp [AT.fz, AT.er, T.fz, fzL_er xs]
theorem fzL_er : ∀ xs : List AT, AT.erL (AT.fzL xs) = T.fzL (AT.erL xs)
  | [] => by simp [AT.fzL, AT.erL, T.fzL]
  | x :: xs => by simp [AT.fzL, AT.erL, T.fzL, fz_er x, fzL_er xs]
end
mutual
theorem fz_allF : ∀ t : T, t.fz.allF = true
  | .atm v => by simp [T.fz, T.allF]
  | .box o k xs => by simp [T.fz, T.allF, fzL_allF xs]
theorem fzL_allF : ∀ xs : List T, T.allFL (T.fzL xs) = true
  | [] => by simp [T.fzL, T.allFL]
  | x :: xs => by simp [T.fzL, T.allFL, fz_allF x, fzL_allF xs]
end
mutual
theorem fz_of_allF : ∀ t : T, t.allF = true → t.fz = t
  | .atm v, _ => by simp [T.fz]
  | .box o k xs, h => by
    simp only [T.allF, Bool.and_eq_true, Bool.not_eq_true'] at h
    simp [T.fz, h.1, fzL_of_allF xs h.2]
theorem fzL_of_allF : ∀ xs : List T, T.allFL xs = true → T.fzL xs = xs
  | [], _ => by simp [T.fzL]
  | x :: xs, h => by
    simp only [T.allFL, Bool.and_eq_true] at h
    simp [T.fzL, fz_of_allF x h.1, fzL_of_allF xs h.2]
end
section
variable {K : PySem.W.Frag}
mutual
/-- frozen: its own addresses are taken into the frozen ones -/
theorem fz_ok {R R' : Addr → Prop} {H : Hp} : ∀ {t : AT}, t.ok K R H → (∀ a, R a → R' a) → (∀ a, 0 < t.cn a → R' a) → t.fz.ok K R' H
  | .atm v, h, _, _ => by simpa [AT.fz, AT.ok] using h
  | .box o k a xs, h, hR, hO => by
    obtain ⟨h1, h3, h4⟩ := h
    have hv : (AT.fzL xs).map AT.val = xs.map AT.val := by
      rw [afzL_map, List.map_map]; congr 1; funext t; exact fz_val t
    have ra : Hfz K R' H a k (xs.map AT.val) := by
      cases o with
      | true =>
        simp only [AtB, if_true] at h1
        exact Hfz_of (hO a (by simp [AT.cn]; omega)) h1.2
      | false =>
        simp only [AtB, Bool.false_eq_true, if_false] at h1
        exact Hfz_mono (hR a) (fun _ _ e => e) h1
    have hc : ∀ b, 0 < AT.cnL b xs → R' b := by
      intro b hb
      cases o with
      | true => exact hO b (by simp only [AT.cn, if_true]; omega)
      | false => rw [allFL_cn b xs (h4 rfl)] at hb; omega
    simp only [AT.fz, AT.ok, AtB, Bool.false_eq_true, if_false]
    exact ⟨by rw [hv]; exact ra, fzL_ok h3 hR hc, fun _ => by rw [fzL_er]; exact fzL_allF _⟩
theorem fzL_ok {R R' : Addr → Prop} {H : Hp} : ∀ {xs : List AT}, AT.okL K R H xs → (∀ a, R a → R' a) → (∀ a, 0 < AT.cnL a xs → R' a) → AT.okL K R' H (AT.fzL xs)
  | [], _, _, _ => by simp [AT.fzL, AT.okL]
  | x :: xs, h, hR, hO => by
    simp only [AT.fzL, AT.okL]
    exact ⟨fz_ok h.1 hR fun a ha => hO a (by simp only [AT.cnL]; omega), fzL_ok h.2 hR fun a ha => hO a (by simp only [AT.cnL]; omega)⟩
end
end
theorem fz_cn (b : Addr) (t : AT) : t.fz.cn b = 0 := allF_cn b _ (by rw [fz_er]; exact fz_allF _)
end TL
namespace TL
open PySem PySem.Spec L2

/-! ## States: slots and hidden roots -/
inductive Rt where
  | sl (i : Nat) | hd (k : Nat)
  deriving DecidableEq
inductive Sl (α : Type) where
  | no | t (x : α) | al (r : Rt) (p : List Nat)
structure SS (α : Type) where
  sl : List (Sl α)
  hd : List α
abbrev S := SS T
abbrev AS := SS AT
def Sl.er : Sl AT → Sl T
  | .no => .no
  | .t x => .t x.er
  | .al r p => .al r p
def SS.er (A : AS) : S := ⟨A.sl.map Sl.er, AT.erL A.hd⟩
def SS.root {α : Type} (s : SS α) : Rt → Option α
  | .sl i => match s.sl[i]? with
    | some (.t x) => some x
    | _ => none
  | .hd k => s.hd[k]?
def T.get : T → List Nat → Option T
  | t, [] => some t
  | .atm _, _ :: _ => none
  | .box _ _ xs, i :: p => match xs[i]? with
    | some x => x.get p
    | none => none
def AT.get : AT → List Nat → Option AT
  | t, [] => some t
  | .atm _, _ :: _ => none
  | .box _ _ _ xs, i :: p => match xs[i]? with
    | some x => x.get p
    | none => none
def SS.gt (s : S) (r : Rt) (p : List Nat) : Option T := match s.root r with
  | some t => t.get p
  | none => none
def SS.ga (A : AS) (r : Rt) (p : List Nat) : Option AT := match A.root r with
  | some t => t.get p
  | none => none
def Sl.cn (b : Addr) : Sl AT → Nat
  | .t x => x.cn b
  | _ => 0
def cnS (b : Addr) : List (Sl AT) → Nat
  | [] => 0
  | x :: xs => x.cn b + cnS b xs
def SS.cn (A : AS) (b : Addr) : Nat := cnS b A.sl + AT.cnL b A.hd

/-- the ground of a def's run: the heap at its entry, what it was lent to change, what was frozen -/
structure Gr where
  H : Hp
  M : Addr → Prop
  R : Addr → Prop
structure Rel (K : PySem.W.Frag) (G : Gr) (A : AS) (Z : List AT) (R : Addr → Prop) (σ : St) (H : Hp) : Prop where
  okS : ∀ (i : Nat) (at' : AT), A.sl[i]? = some (Sl.t at') → at'.ok K R H
  okH : AT.okL K R H A.hd
  okZ : AT.okL K R H Z
  nd : ∀ b, A.cn b + AT.cnL b Z ≤ 1
  tr : ∀ a, R a → H a ≠ none
  len : σ.length = A.sl.length
  slT : ∀ (i : Nat) (at' : AT), A.sl[i]? = some (Sl.t at') → σ[i]? = some (some at'.val)
  slA : ∀ (i : Nat) (r : Rt) (p : List Nat), A.sl[i]? = some (Sl.al r p) → ∃ at', A.ga r p = some at' ∧ σ[i]? = some (some at'.val)
  gH : ∀ a u, G.H a = some u → ¬ G.M a → H a = some u
  gO : ∀ b, 0 < A.cn b + AT.cnL b Z → G.H b = none ∨ G.M b
  gR : ∀ a, R a → G.R a ∨ G.H a = none ∨ G.M a
  gS : ∀ a, G.R a → R a

theorem er_root (A : AS) (r : Rt) : A.er.root r = (A.root r).map AT.er := by
  cases r with
  | sl i =>
    simp only [SS.root, SS.er, List.getElem?_map]
    cases h : A.sl[i]? with
    | none => rfl
    | some x => cases x <;> rfl
  | hd k => simp [SS.root, SS.er, erL_map]
theorem er_get : ∀ (p : List Nat) (t : AT), t.er.get p = (t.get p).map AT.er
  | [], t => by simp [T.get, AT.get]
  | i :: p, .atm v => by simp [AT.er, T.get, AT.get]
  | i :: p, .box o k a xs => by
    simp only [AT.er, T.get, AT.get, erL_map, List.getElem?_map]
    cases xs[i]? with
    | none => rfl
    | some x => exact er_get p x
theorem er_ga (A : AS) (r : Rt) (p : List Nat) : A.er.gt r p = (A.ga r p).map AT.er := by
  simp only [SS.gt, SS.ga, er_root]
  cases A.root r with
  | none => rfl
  | some t => exact er_get p t
theorem ga_of {A : AS} {r : Rt} {p : List Nat} {t : T} (h : A.er.gt r p = some t) : ∃ a, A.ga r p = some a ∧ a.er = t := by
  rw [er_ga] at h
  cases e : A.ga r p with
  | none => rw [e] at h; cases h
  | some a => rw [e] at h; exact ⟨a, rfl, Option.some.inj h⟩
theorem cnS_mem {b : Addr} : ∀ {l : List (Sl AT)} {i : Nat} {t : AT}, l[i]? = some (Sl.t t) → t.cn b ≤ cnS b l
  | [], i, t, h => by simp at h
  | x :: xs, 0, t, h => by
    simp at h; subst h; simp [cnS, Sl.cn]
  | x :: xs, i + 1, t, h => by
    have := cnS_mem (b := b) (l := xs) (i := i) (t := t) (by simpa using h)
    simp [cnS]; omega
theorem root_cn {A : AS} {r : Rt} {t : AT} (b : Addr) (h : A.root r = some t) : t.cn b ≤ A.cn b := by
  cases r with
  | sl i =>
    simp only [SS.root] at h
    split at h
    · rename_i x e
      cases h
      have := cnS_mem (b := b) e
      unfold SS.cn; omega
    · cases h
  | hd k =>
    have := cnL_mem (b := b) (List.mem_of_getElem? (show A.hd[k]? = some t from h))
    unfold SS.cn; omega
theorem get_cn (b : Addr) : ∀ (p : List Nat) {t u : AT}, t.get p = some u → (t.er.allF = false ∨ True) → u.cn b ≤ t.cn b ∨ t.er.allF = true ∨ True
  | _, _, _, _, _ => .inr (.inr trivial)
section
variable {K : PySem.W.Frag} {G : Gr} {R : Addr → Prop} {H : Hp}
theorem get_ok : ∀ (p : List Nat) {t u : AT}, t.ok K R H → t.get p = some u → u.ok K R H ∧ ∀ b, u.cn b ≤ t.cn b
  | [], t, u, h, e => by
    simp [AT.get] at e; subst e; exact ⟨h, fun _ => Nat.le_refl _⟩
  | i :: p, .atm v, u, h, e => by simp [AT.get] at e
  | i :: p, .box o k a xs, u, h, e => by
    obtain ⟨h1, h3, h4⟩ := h
    simp only [AT.get] at e
    split at e
    · rename_i x ex
      have hm := List.mem_of_getElem? ex
      obtain ⟨g1, g2⟩ := get_ok p (okL_iff.mp h3 x hm) e
      refine ⟨g1, fun b => ?_⟩
      have z := cnL_mem (b := b) hm
      have y := g2 b
      cases o with
      | true => simp only [AT.cn, if_true]; omega
      | false => have := allFL_cn b xs (h4 rfl); omega
    · cases e
theorem Rel.root_ok {A : AS} {Z : List AT} {σ : St} (h : Rel K G A Z R σ H) {r : Rt} {t : AT} (e : A.root r = some t) : t.ok K R H := by
  cases r with
  | sl i =>
    simp only [SS.root] at e
    split at e
    · rename_i x ex; cases e; exact h.okS _ _ ex
    · cases e
  | hd k => exact okL_iff.mp h.okH t (List.mem_of_getElem? e)
theorem Rel.ga_ok {A : AS} {Z : List AT} {σ : St} (h : Rel K G A Z R σ H) {r : Rt} {p : List Nat} {t : AT} (e : A.ga r p = some t) : t.ok K R H ∧ ∀ b, t.cn b ≤ A.cn b := by
  simp only [SS.ga] at e
  split at e
  · rename_i x ex
    obtain ⟨g1, g2⟩ := get_ok p (h.root_ok ex) e
    exact ⟨g1, fun b => Nat.le_trans (g2 b) (root_cn b ex)⟩
  · cases e
end

/-! ### keeping -/
/-- what an expression did to the state: nothing; froze something; shrank the tree at a root -/
inductive Md where
  | pure | fz | pop (r : Rt) | many
  deriving DecidableEq
def Md.seq : Md → Md → Md
  | .pure, m => m
  | m, .pure => m
  | .fz, m => m
  | m, .fz => m
  | .pop r, .pop r' => if r = r' then .pop r else .many
  | _, _ => .many
/-- the hidden roots' values -/
def hdv (A : AS) : List V := A.hd.map AT.val
def Keep : Md → AS → AS → Prop
  | .pure, A, A' => A' = A
  | .fz, A, A' => (∀ r p at', A.ga r p = some at' → ∃ au, A'.ga r p = some au ∧ au.val = at'.val) ∧ hdv A' = hdv A
  | .pop r0, A, A' => (∀ r p at', A.ga r p = some at' → (r = r0 → p = []) → ∃ au, A'.ga r p = some au ∧ au.val = at'.val) ∧ hdv A' = hdv A
  | .many, A, A' => hdv A' = hdv A
theorem Keep.hdv {m : Md} {A A' : AS} (h : Keep m A A') : hdv A' = hdv A := by
  cases m with
  | pure => have z : A' = A := h; rw [z]
  | fz => exact h.2
  | pop r => exact h.2
  | many => exact h
inductive Ev where
  | v (t : T) | p (r : Rt) (q : List Nat)
def surv : Ev → Md → Bool
  | .v _, _ => true
  | .p _ _, .pure => true
  | .p _ _, .fz => true
  | .p r q, .pop r0 => decide (r ≠ r0) || q.isEmpty
  | .p _ _, .many => false
theorem Keep.at {m : Md} {A A' : AS} {r : Rt} {q : List Nat} {a : AT} (h : Keep m A A') (hs : surv (.p r q) m = true) (e : A.ga r q = some a) : ∃ au, A'.ga r q = some au ∧ au.val = a.val := by
  cases m with
  | pure => have z : A' = A := h; subst z; exact ⟨a, e, rfl⟩
  | fz => exact h.1 r q a e
  | pop r0 =>
    refine h.1 r q a e fun z => ?_
    simp only [surv, Bool.or_eq_true, decide_eq_true_eq] at hs
    rcases hs with hs | hs
    · exact absurd z hs
    · simpa using hs
  | many => simp [surv] at hs
theorem Keep.trans {m m' : Md} {A B C : AS} (h : Keep m A B) (h' : Keep m' B C) : Keep (m.seq m') A C := by
  have tr : ∀ (c c' d : Rt → List Nat → Prop), (∀ r p a, A.ga r p = some a → c r p → ∃ au, B.ga r p = some au ∧ au.val = a.val) → (∀ r p a, B.ga r p = some a → c' r p → ∃ au, C.ga r p = some au ∧ au.val = a.val) →
      (∀ r p, d r p → c r p ∧ c' r p) → ∀ r p a, A.ga r p = some a → d r p → ∃ au, C.ga r p = some au ∧ au.val = a.val := by
    intro c c' d h1 h2 h3 r p a e hd
    obtain ⟨u, e1, v1⟩ := h1 r p a e (h3 r p hd).1
    obtain ⟨w, e2, v2⟩ := h2 r p u e1 (h3 r p hd).2
    exact ⟨w, e2, v2.trans v1⟩
  have hh : TL.hdv C = TL.hdv A := h'.hdv.trans h.hdv
  cases m with
  | pure => have z : B = A := h; subst z; cases m' <;> exact h'
  | fz =>
    cases m' with
    | pure => have z : C = B := h'; subst z; exact h
    | fz => exact ⟨fun r p a e => tr (fun _ _ => True) (fun _ _ => True) (fun _ _ => True) (fun r p a e _ => h.1 r p a e) (fun r p a e _ => h'.1 r p a e) (fun _ _ _ => ⟨trivial, trivial⟩) r p a e trivial, hh⟩
    | pop r0 => exact ⟨fun r p a e => tr (fun _ _ => True) (fun r p => r = r0 → p = []) (fun r p => r = r0 → p = []) (fun r p a e _ => h.1 r p a e) (fun r p a e => h'.1 r p a e) (fun _ _ z => ⟨trivial, z⟩) r p a e, hh⟩
    | many => exact hh
  | pop r0 =>
    cases m' with
    | pure => have z : C = B := h'; subst z; exact h
    | fz => exact ⟨fun r p a e => tr (fun r p => r = r0 → p = []) (fun _ _ => True) (fun r p => r = r0 → p = []) (fun r p a e => h.1 r p a e) (fun r p a e _ => h'.1 r p a e) (fun _ _ z => ⟨z, trivial⟩) r p a e, hh⟩
    | pop r1 =>
      by_cases e : r0 = r1
      · subst e
        simp only [Md.seq, if_true]
        exact ⟨fun r p a e => tr (fun r p => r = r0 → p = []) (fun r p => r = r0 → p = []) (fun r p => r = r0 → p = []) (fun r p a e => h.1 r p a e) (fun r p a e => h'.1 r p a e) (fun _ _ z => ⟨z, z⟩) r p a e, hh⟩
      · simp only [Md.seq, if_neg e]; exact hh
    | many => exact hh
  | many =>
    cases m' with
    | pure => have z : C = B := h'; subst z; exact h
    | fz => exact hh
    | pop r => exact hh
    | many => exact hh

/-! ### what an expression does, what is wanted behind it -/
abbrev Xf := List (Str × Int)
inductive RE where
  | ok (e : Ev) (m : Md) (s : S)
  | ex (C : Addr) (fs : Xf) (s : S)
  | fail
/-- an exception's own dict, told as a tree -/
def xdT (d : Addr) (fs : Xf) : AT := .box true (.exd (fs.map (·.1))) d (fs.map fun p => .atm (.int p.2))
/-- what is wanted of exceptions, and the ground -/
structure Wh where
  x : WX
  G : Gr
def SatX (K : PySem.W.Frag) (W : Wh) (A : AS) (σ : St) (C : Addr) (fs : Xf) (s : S) : Prop :=
  ∀ A' R' H' d, A'.er = s → hdv A' = hdv A → Rel K W.G A' [xdT d fs] R' σ H' → W.x (.ref C) (some d) σ H'
theorem SatX.of {K : PySem.W.Frag} {W : Wh} {A A' : AS} {σ : St} {C : Addr} {fs : Xf} {s : S} {m : Md} (k : Keep m A A') (h : SatX K W A σ C fs s) : SatX K W A' σ C fs s := fun A2 R2 H2 d e hh r => h A2 R2 H2 d e (hh.trans k.hdv) r
def SatE (K : PySem.W.Frag) (W : Wh) (A : AS) (Z : List AT) (σ : St) (Q : VK) : RE → Prop
  | .ok (.v t) m s => ∀ A' R' H' au, A'.er = s → Keep m A A' → au.er = t → Rel K W.G A' (au :: Z) R' σ H' → Q au.val H'
  | .ok (.p r q) m s => ∀ A' R' H' au, A'.er = s → Keep m A A' → A'.ga r q = some au → Rel K W.G A' Z R' σ H' → Q au.val H'
  | .ex C fs s => SatX K W A σ C fs s
  | .fail => False
def tE (K : PySem.W.Frag) (W : Wh) (g : S → RE) : TE := fun σ H Q => ∃ A Z R, Rel K W.G A Z R σ H ∧ SatE K W A Z σ Q (g A.er)
structure IE (X : Cx) (W : Wh) (e : Expr) (g : S → RE) : Prop where
  pe : PE X e (tE X.K W g)
theorem PE.mono {X : Cx} {e : Expr} {t t' : TE} (h : PE X e t) (m : ∀ σ H Q, t' σ H Q → t σ H Q) : PE X e t' := ⟨fun pins s σ H Q I q => h.run pins s σ H Q I (m σ H Q q)⟩
theorem PT.mono {X : Cx} {e : Expr} {t t' : TT} (h : PT X e t) (m : ∀ σ H Q, t' σ H Q → t σ H Q) : PT X e t' := ⟨fun pins s σ H Q I q => h.run pins s σ H Q I (m σ H Q q)⟩
theorem PS.mono {X : Cx} {e : Stmt} {t t' : TS} (h : PS X e t) (m : ∀ D σ H, t' D σ H → t D σ H) : PS X e t' := ⟨fun pins s σ H D I q => h.run pins s σ H D I (m D σ H q)⟩
theorem PSs.mono {X : Cx} {e : List Stmt} {t t' : TS} (h : PSs X e t) (m : ∀ D σ H, t' D σ H → t D σ H) : PSs X e t' := ⟨fun pins s σ H D I q => h.run pins s σ H D I (m D σ H q)⟩
theorem PA.mono {X : Cx} {e : List Expr} {t t' : TA} (h : PA X e t) (m : ∀ σ H Q, t' σ H Q → t σ H Q) : PA X e t' := ⟨fun pos pins s σ H Q I q => h.run pos pins s σ H Q I (m σ H Q q)⟩

section
variable {K : PySem.W.Frag} {G : Gr} {A : AS} {Z : List AT} {R : Addr → Prop} {σ : St} {H : Hp} {W : Wh}
/-- a frozen thing, or an atom, once more -/
theorem Rel.dup (h : Rel K G A Z R σ H) {au : AT} (ok : au.ok K R H) (hc : au.er.allF = true) : Rel K G A (au :: Z) R σ H :=
  ⟨h.okS, h.okH, ⟨ok, h.okZ⟩, fun b => by simp only [AT.cnL, allF_cn b au hc]; have := h.nd b; omega, h.tr, h.len, h.slT, h.slA, h.gH, fun b hb => h.gO b (by simpa only [AT.cnL, allF_cn b au hc, Nat.zero_add] using hb), h.gR, h.gS⟩
theorem Rel.atm (h : Rel K G A Z R σ H) {v : V} (hv : isAtm v = true) : Rel K G A (.atm v :: Z) R σ H := h.dup (by simpa [AT.ok] using hv) rfl
theorem Rel.drop {au : AT} (h : Rel K G A (au :: Z) R σ H) : Rel K G A Z R σ H :=
  ⟨h.okS, h.okH, h.okZ.2, fun b => by have := h.nd b; simp only [AT.cnL] at this; omega, h.tr, h.len, h.slT, h.slA, h.gH, fun b hb => h.gO b (by simp only [AT.cnL]; omega), h.gR, h.gS⟩
theorem Rel.head {au : AT} (h : Rel K G A (au :: Z) R σ H) : au.ok K R H := h.okZ.1
/-- temps exchanged -/
theorem Rel.temps {Z' : List AT} (h : Rel K G A Z R σ H) (ok : AT.okL K R H Z') (hc : ∀ b, AT.cnL b Z' ≤ AT.cnL b Z) : Rel K G A Z' R σ H :=
  ⟨h.okS, h.okH, ok, fun b => by have := h.nd b; have := hc b; omega, h.tr, h.len, h.slT, h.slA, h.gH, fun b hb => h.gO b (by have := hc b; omega), h.gR, h.gS⟩
/-- the tracked heap grows by what is nobody's -/
theorem Rel.ext {H' : Hp} (h : Rel K G A Z R σ H) (hH : ∀ a u, H a = some u → H' a = some u) : Rel K G A Z R σ H' := by
  refine ⟨fun i a e => ok_mono (h.okS i a e) (fun _ x => x) (ok_notR (h.okS i a e)) fun a u _ => hH a u, okL_mono h.okH (fun _ x => x) (okL_notR h.okH) fun a u _ => hH a u, okL_mono h.okZ (fun _ x => x) (okL_notR h.okZ) fun a u _ => hH a u, h.nd, fun a ha => ?_, h.len, h.slT, h.slA, fun a u e m => hH a u (h.gH a u e m), h.gO, h.gR, h.gS⟩
  cases e : H a with
  | none => exact absurd e (h.tr a ha)
  | some u => rw [hH a u e]; simp
theorem upd_keep {H : Hp} {p : Addr} {o : HO} (hp : H p = none) : ∀ a u, H a = some u → upd H p o a = some u := fun a u e => by
  rw [upd_ne (ne_of_none e hp)]; exact e
/-- nothing is owned where nothing is tracked -/
theorem Rel.free (h : Rel K G A Z R σ H) {b : Addr} (hp : H b = none) : A.cn b = 0 ∧ AT.cnL b Z = 0 := by
  constructor
  · by_cases q : 0 < A.cn b
    · exfalso
      unfold SS.cn at q
      by_cases q1 : 0 < AT.cnL b A.hd
      · exact okL_there h.okH b q1 hp
      · have q2 : 0 < cnS b A.sl := by omega
        have : ∀ (l : List (Sl AT)), (∀ (i : Nat) (t : AT), l[i]? = some (Sl.t t) → t.ok K R H) → ¬ 0 < cnS b l := by
          intro l
          induction l with
          | nil => intro _ w; simp [cnS] at w
          | cons x xs ih =>
            intro hl w
            simp only [cnS] at w
            by_cases w1 : 0 < x.cn b
            · cases x with
              | t y => exact ok_there (hl 0 y rfl) b w1 hp
              | no => simp [Sl.cn] at w1
              | al _ _ => simp [Sl.cn] at w1
            · exact ih (fun i t e => hl (i + 1) t (by simpa using e)) (by omega)
        exact this A.sl h.okS q2
    · omega
  · by_cases q : 0 < AT.cnL b Z
    · exact absurd hp (okL_there h.okZ b q)
    · omega
/-- a new address: nothing stood there ahead, or it was lent -/
theorem Rel.fresh (h : Rel K G A Z R σ H) {b : Addr} (hp : H b = none) : G.H b = none ∨ G.M b := by
  by_cases m : G.M b
  · exact .inr m
  · left
    cases q : G.H b with
    | none => rfl
    | some u => exact absurd hp (by rw [h.gH b u q m]; simp)
/-- a new box over things in hand; hc: what it takes from the temps -/
theorem Rel.new {Z' : List AT} {p : Addr} {k : Kd} {xs : List AT} {o : HO} (h : Rel K G A Z R σ H) (hp : H p = none) (hk : Hold (upd H p o) p k (xs.map AT.val)) (okx : AT.okL K R H xs) (okz : AT.okL K R H Z')
    (hc : ∀ b, AT.cnL b xs + AT.cnL b Z' ≤ AT.cnL b Z) : Rel K G A (.box true k p xs :: Z') R σ (upd H p o) := by
  have nR : ¬ R p := fun r => h.tr p r hp
  have z := upd_keep (o := o) hp
  have h' := h.ext z
  obtain ⟨z1, z2⟩ := h.free hp
  refine ⟨h'.okS, h'.okH, ⟨⟨by simp only [AtB, if_true]; exact ⟨nR, hk⟩, okL_mono okx (fun _ x => x) (okL_notR okx) fun a u _ => z a u, by simp⟩, okL_mono okz (fun _ x => x) (okL_notR okz) fun a u _ => z a u⟩, fun b => ?_, h'.tr, h'.len, h'.slT, h'.slA, h'.gH, fun b hb => ?_, h'.gR, h'.gS⟩
  · have c1 := h.nd b
    have c2 := hc b
    simp only [AT.cnL, AT.cn, if_true]
    by_cases e : b = p
    · subst e; rw [if_pos rfl]; omega
    · rw [if_neg e]; omega
  · have c2 := hc b
    simp only [AT.cnL, AT.cn, if_true] at hb
    by_cases e : b = p
    · subst e; exact h.fresh hp
    · rw [if_neg e] at hb
      exact h.gO b (by omega)
end
end TL
namespace TL
open PySem PySem.Spec L2

/-! ## Argument lists, operations by values -/
inductive RA where
  | ok (es : List Ev) (m : Md) (s : S)
  | ex (C : Addr) (fs : Xf) (s : S)
  | fail
/-- what the arguments' events tell: the trees, and which are temps -/
def ArgsAt (A : AS) : List Ev → List AT → List AT → Prop
  | [], aus, tz => aus = [] ∧ tz = []
  | .v t :: es, aus, tz => ∃ au aus' tz', aus = au :: aus' ∧ tz = au :: tz' ∧ au.er = t ∧ ArgsAt A es aus' tz'
  | .p r q :: es, aus, tz => ∃ au aus', aus = au :: aus' ∧ A.ga r q = some au ∧ ArgsAt A es aus' tz
def SatA (K : PySem.W.Frag) (W : Wh) (A : AS) (Z : List AT) (σ : St) (Q : List V → Hp → Prop) : RA → Prop
  | .ok es m s => ∀ A' R' H' aus tz, A'.er = s → Keep m A A' → ArgsAt A' es aus tz → Rel K W.G A' (tz ++ Z) R' σ H' → Q (aus.map AT.val) H'
  | .ex C fs s => SatX K W A σ C fs s
  | .fail => False
def tA (K : PySem.W.Frag) (W : Wh) (g : S → RA) : TA := fun σ H Q => ∃ A Z R, Rel K W.G A Z R σ H ∧ SatA K W A Z σ Q (g A.er)
def survs (m : Md) (es : List Ev) : Bool := es.all fun e => surv e m
def argsG : List (S → RE) → S → RA
  | [], s => .ok [] .pure s
  | g :: gs, s => match g s with
    | .ok e m s1 => match argsG gs s1 with
      | .ok es m' s2 => if surv e m' = true then .ok (e :: es) (m.seq m') s2 else .fail
      | .ex C fs s' => .ex C fs s'
      | .fail => .fail
    | .ex C fs s' => .ex C fs s'
    | .fail => .fail
theorem tA_nil {K : PySem.W.Frag} {W : Wh} {σ : St} {H : Hp} {Q : List V → Hp → Prop} (h : tA K W (argsG []) σ H Q) : tNil σ H Q := by
  obtain ⟨A, Z, R, r, s⟩ := h
  exact s A R H [] [] rfl rfl ⟨rfl, rfl⟩ (by simpa using r)
theorem tA_cons {K : PySem.W.Frag} {W : Wh} {g : S → RE} {gs : List (S → RE)} {σ : St} {H : Hp} {Q : List V → Hp → Prop} (h : tA K W (argsG (g :: gs)) σ H Q) :
    tE K W g σ H fun x H1 => tA K W (argsG gs) σ H1 fun xs H2 => Q (x :: xs) H2 := by
  obtain ⟨A, Z, R, r, s⟩ := h
  refine ⟨A, Z, R, r, ?_⟩
  simp only [argsG] at s
  cases e1 : g A.er with
  | fail => rw [e1] at s; exact s
  | ex C fs s1 => rw [e1] at s; exact s
  | ok e m s1 =>
    rw [e1] at s
    simp only at s
    cases e with
    | v t =>
      intro A' R' H' au ea k et r'
      refine ⟨A', au :: Z, R', r', ?_⟩
      rw [ea]
      cases e2 : argsG gs s1 with
      | fail => rw [e2] at s; exact s
      | ex C fs s2 => rw [e2] at s; exact s.of k
      | ok es m' s2 =>
        rw [e2] at s
        simp only [surv, if_true] at s
        intro A2 R2 H2 aus tz ea2 k2 at2 r2
        refine s A2 R2 H2 (au :: aus) (au :: tz) ea2 (k.trans k2) ⟨au, aus, tz, rfl, rfl, et, at2⟩ (r2.temps ?_ fun b => ?_)
        · have := r2.okZ
          rw [okL_append] at this
          exact ⟨this.2.1, okL_append.mpr ⟨this.1, this.2.2⟩⟩
        · simp only [List.cons_append, AT.cnL, cnL_append]; omega
    | p p q =>
      intro A' R' H' au ea k ga r'
      refine ⟨A', Z, R', r', ?_⟩
      rw [ea]
      cases e2 : argsG gs s1 with
      | fail => rw [e2] at s; exact s
      | ex C fs s2 => rw [e2] at s; exact s.of k
      | ok es m' s2 =>
        rw [e2] at s
        simp only at s
        by_cases hs : surv (.p p q) m' = true
        · rw [if_pos hs] at s
          intro A2 R2 H2 aus tz ea2 k2 at2 r2
          obtain ⟨au2, g2, v2⟩ := k2.at hs ga
          have := s A2 R2 H2 (au2 :: aus) tz ea2 (k.trans k2) ⟨au2, aus, rfl, g2, at2⟩ r2
          rw [List.map_cons, v2] at this
          exact this
        · rw [if_neg hs] at s; exact s.elim

/-! ### the trees that events tell -/
def view (s : S) : Ev → Option T
  | .v t => some t
  | .p r q => s.gt r q
def views (s : S) : List Ev → Option (List T)
  | [] => some []
  | e :: es => match view s e with
    | some t => match views s es with
      | some ts => some (t :: ts)
      | none => none
    | none => none
theorem views_at {A : AS} : ∀ {es : List Ev} {aus tz : List AT} {ts : List T}, ArgsAt A es aus tz → views A.er es = some ts → AT.erL aus = ts
  | [], aus, tz, ts, h, e => by
    obtain ⟨rfl, _⟩ := h
    simp only [views, Option.some.injEq] at e; subst e; rfl
  | .v t :: es, aus, tz, ts, h, e => by
    obtain ⟨au, aus', tz', rfl, _, et, h⟩ := h
    simp only [views, view] at e
    cases e2 : views A.er es with
    | none => rw [e2] at e; cases e
    | some us =>
      rw [e2] at e
      simp only [Option.some.injEq] at e; subst e
      simp only [AT.erL, et, views_at h e2]
  | .p r q :: es, aus, tz, ts, h, e => by
    obtain ⟨au, aus', rfl, g, h⟩ := h
    simp only [views, view, er_ga, g, Option.map_some] at e
    cases e2 : views A.er es with
    | none => rw [e2] at e; cases e
    | some us =>
      rw [e2] at e
      simp only [Option.some.injEq] at e; subst e
      simp only [AT.erL, views_at h e2]
theorem args_ok {K : PySem.W.Frag} {G : Gr} {A : AS} {Z : List AT} {R : Addr → Prop} {σ : St} {H : Hp} : ∀ {es : List Ev} {aus tz : List AT}, ArgsAt A es aus tz → Rel K G A (tz ++ Z) R σ H → AT.okL K R H aus := by
  intro es aus tz h r
  have : ∀ (es : List Ev) (aus tz : List AT), ArgsAt A es aus tz → AT.okL K R H tz → AT.okL K R H aus := by
    intro es
    induction es with
    | nil => intro aus tz h _; obtain ⟨rfl, _⟩ := h; trivial
    | cons e es ih =>
      intro aus tz h ok
      cases e with
      | v t =>
        obtain ⟨au, aus', tz', rfl, rfl, et, h⟩ := h
        exact ⟨ok.1, ih _ _ h ok.2⟩
      | p p q =>
        obtain ⟨au, aus', rfl, g, h⟩ := h
        exact ⟨(r.ga_ok g).1, ih _ _ h ok⟩
  exact this es aus tz h (okL_append.mp r.okZ).1

/-! ### results by values -/
/-- what stands at a new box -/
def Kd.ho : Kd → List V → HO
  | .lst, vs => .lst vs
  | .tup, vs => .tup vs
  | .dct ks, vs => .dK (ks.zip vs)
  | .dtp ks, vs => .dT (ks.zip vs)
  | .ins C fs, vs => .ins C 0 (fs.zip vs)
  | .exd fs, vs => .xd (fs.zip vs)
  | .scr, vs => .lst vs
def Kd.fits : Kd → Nat → Prop
  | .lst, _ => True
  | .tup, _ => True
  | .dct ks, n => ks.length = n
  | .dtp ks, n => ks.length = n
  | .ins _ _, _ => False
  | .exd fs, n => fs.length = n
  | .scr, _ => False
theorem hold_new {k : Kd} {vs : List V} {H : Hp} {p : Addr} (h : k.fits vs.length) : Hold (upd H p (k.ho vs)) p k vs := by
  cases k with
  | lst => exact upd_same
  | tup => exact upd_same
  | dct ks => exact ⟨h, upd_same⟩
  | dtp ks => exact ⟨h, upd_same⟩
  | ins C fs => exact h.elim
  | exd fs => exact ⟨h, upd_same⟩
  | scr => exact h.elim
inductive RV where
  | a (v : V)
  | n (k : Kd) (xs : List T)
abbrev RN := List V → Hp → VK → Prop
/-- what a result by values asks: G is the reading's own question -/
def Out (K : PySem.W.Frag) (R : Addr → Prop) (H : Hp) (Q : VK) (G : Prop) : Option RV → Prop
  | none => True
  | some (.a v) => isAtm v = true ∧ (Q v H → G)
  | some (.n k xs) => ∃ ys : List AT, AT.erL ys = xs ∧ AT.okL K R H ys ∧ k.fits ys.length ∧ ((∀ p, H p = none → Q (.ref p) (upd H p (k.ho (ys.map AT.val)))) → G)
/-- an operation's reading by values does what f tells of trees; it takes nothing over: what it shares is frozen -/
def VOK (K : PySem.W.Frag) (r : RN) (f : List T → Option RV) : Prop := ∀ (R : Addr → Prop) (H : Hp) (aus : List AT) (Q : VK), AT.okL K R H aus → Out K R H Q (r (aus.map AT.val) H Q) (f (AT.erL aus))
def opE (f : List T → Option RV) (g : S → RA) (s : S) : RE := match g s with
  | .ok es m s1 => match views s1 es with
    | some ts => match f ts with
      | some (.a v) => .ok (.v (.atm v)) m s1
      | some (.n k xs) => if T.allFL xs = true then .ok (.v (.box true k xs)) m s1 else .fail
      | none => .fail
    | none => .fail
  | .ex C fs s' => .ex C fs s'
  | .fail => .fail
theorem Rel.tail_of {K : PySem.W.Frag} {G : Gr} {A : AS} {tz Z : List AT} {R : Addr → Prop} {σ : St} {H : Hp} (r : Rel K G A (tz ++ Z) R σ H) : Rel K G A Z R σ H :=
  r.temps (okL_append.mp r.okZ).2 fun b => by rw [cnL_append]; omega
theorem op_sat {K : PySem.W.Frag} {W : Wh} {r : RN} {f : List T → Option RV} {g : S → RA} (v : VOK K r f) {σ : St} {H : Hp} {Q : VK} (h : tE K W (opE f g) σ H Q) : tA K W g σ H fun vs H' => r vs H' Q := by
  obtain ⟨A, Z, R, rel, s⟩ := h
  refine ⟨A, Z, R, rel, ?_⟩
  simp only [opE] at s
  cases e1 : g A.er with
  | fail => rw [e1] at s; exact s
  | ex C fs s1 => rw [e1] at s; exact s
  | ok es m s1 =>
    rw [e1] at s
    simp only at s
    intro A' R' H' aus tz ea k at' r'
    subst ea
    cases e2 : views A'.er es with
    | none => rw [e2] at s; exact s.elim
    | some ts =>
      rw [e2] at s
      simp only at s
      have z := v R' H' aus Q (args_ok at' r')
      rw [views_at at' e2] at z
      cases e3 : f ts with
      | none => rw [e3] at s; exact s.elim
      | some rv =>
        rw [e3] at s z
        simp only [Out] at z
        cases rv with
        | a v => exact z.2 (s A' R' H' (.atm v) rfl k rfl (r'.tail_of.atm z.1))
        | n kk xs =>
          simp only at s z
          by_cases hf : T.allFL xs = true
          · rw [if_pos hf] at s
            obtain ⟨ys, ey, oky, fit, z⟩ := z
            refine z fun p hp => ?_
            subst ey
            refine s A' R' _ (.box true kk p ys) rfl k (by simp [AT.er]) (r'.tail_of.new (Z := Z) hp (hold_new (by simpa using fit)) oky r'.tail_of.okZ fun b => ?_)
            rw [allFL_cn b ys hf]; omega
          · rw [if_neg hf] at s; exact s.elim

/-! ### tests -/
inductive RT where
  | ok (b : Bool) (m : Md) (s : S)
  | ex (C : Addr) (fs : Xf) (s : S)
  | fail
def SatT (K : PySem.W.Frag) (W : Wh) (A : AS) (Z : List AT) (σ : St) (Q : Bool → Hp → Prop) : RT → Prop
  | .ok b m s => ∀ A' R' H', A'.er = s → Keep m A A' → Rel K W.G A' Z R' σ H' → Q b H'
  | .ex C fs s => SatX K W A σ C fs s
  | .fail => False
def tT (K : PySem.W.Frag) (W : Wh) (g : S → RT) : TT := fun σ H Q => ∃ A Z R, Rel K W.G A Z R σ H ∧ SatT K W A Z σ Q (g A.er)
structure IT (X : Cx) (W : Wh) (e : Expr) (g : S → RT) : Prop where
  pt : PT X e (tT X.K W g)
/-- a value that is a truth, as a test -/
def tstE (g : S → RE) (s : S) : RT := match g s with
  | .ok (.v (.atm (.bl b))) m s1 => .ok b m s1
  | .ex C fs s' => .ex C fs s'
  | _ => .fail
theorem tst_sat {K : PySem.W.Frag} {W : Wh} {g : S → RE} {σ : St} {H : Hp} {Q : Bool → Hp → Prop} (h : tT K W (tstE g) σ H Q) : tE K W g σ H fun x H1 => ∃ c, x = .bl c ∧ Q c H1 := by
  obtain ⟨A, Z, R, rel, s⟩ := h
  refine ⟨A, Z, R, rel, ?_⟩
  simp only [tstE] at s
  cases e1 : g A.er with
  | fail => rw [e1] at s; exact s
  | ex C fs s1 => rw [e1] at s; exact s
  | ok e m s1 =>
    rw [e1] at s
    cases e with
    | p r q => exact s.elim
    | v t =>
      cases t with
      | box o k xs => exact s.elim
      | atm v =>
        cases v with
        | bl b =>
          intro A' R' H' au ea k et r'
          cases au with
          | box o k a xs => simp [AT.er] at et
          | atm v =>
            simp only [AT.er, T.atm.injEq] at et
            subst et
            exact ⟨b, rfl, s A' R' H' ea k r'.drop⟩
        | _ => exact s.elim
/-- truth of a value: None, a number, a text, a list, a tuple, a dict -/
def T.truth : T → Option Bool
  | .atm .non => some false
  | .atm (.bl b) => some b
  | .atm (.int i) => some (i != 0)
  | .box _ .lst xs => some (!xs.isEmpty)
  | .box _ .tup xs => some (!xs.isEmpty)
  | .box _ .scr xs => some (!xs.isEmpty)
  | .box _ (.dct ks) _ => some (!ks.isEmpty)
  | _ => none
def truE (g : S → RE) (s : S) : RT := match g s with
  | .ok e m s1 => match view s1 e with
    | some t => match t.truth with
      | some b => .ok b m s1
      | none => .fail
    | none => .fail
  | .ex C fs s' => .ex C fs s'
  | .fail => .fail
theorem er_isEmpty (xs : List AT) : (AT.erL xs).isEmpty = (xs.map AT.val).isEmpty := by cases xs <;> simp [AT.erL]
/-- what may be read of a box's list, tuple -/
theorem ok_list {K : PySem.W.Frag} {R : Addr → Prop} {H : Hp} {o : Bool} {a : Addr} {xs : List AT} (h : (AT.box o .lst a xs).ok K R H) : H a = some (.lst (xs.map AT.val)) := by
  obtain ⟨h, _, _⟩ := h
  unfold AtB at h
  split at h <;> exact h.2
theorem ok_scr {K : PySem.W.Frag} {R : Addr → Prop} {H : Hp} {o : Bool} {a : Addr} {xs : List AT} (h : (AT.box o .scr a xs).ok K R H) : SqL K H a (xs.map AT.val) := by
  obtain ⟨h, _, _⟩ := h
  unfold AtB at h
  split at h
  · exact h.2.elim
  · rcases h with h | h
    · exact .inr h
    · exact .inl h.2
theorem ok_tup {K : PySem.W.Frag} {R : Addr → Prop} {H : Hp} {o : Bool} {a : Addr} {xs : List AT} (h : (AT.box o .tup a xs).ok K R H) : H a = some (.tup (xs.map AT.val)) := by
  obtain ⟨h, _, _⟩ := h
  unfold AtB at h
  split at h <;> exact h.2
theorem ok_dct {K : PySem.W.Frag} {R : Addr → Prop} {H : Hp} {o : Bool} {a : Addr} {ks : List Key} {xs : List AT} (h : (AT.box o (.dct ks) a xs).ok K R H) : ks.length = xs.length ∧ H a = some (.dK (ks.zip (xs.map AT.val))) := by
  obtain ⟨h, _, _⟩ := h
  unfold AtB at h
  split at h <;> exact ⟨by simpa using h.2.1, h.2.2⟩
theorem ok_dtp {K : PySem.W.Frag} {R : Addr → Prop} {H : Hp} {o : Bool} {a : Addr} {ks : List (List Key)} {xs : List AT} (h : (AT.box o (.dtp ks) a xs).ok K R H) : ks.length = xs.length ∧ H a = some (.dT (ks.zip (xs.map AT.val))) := by
  obtain ⟨h, _, _⟩ := h
  unfold AtB at h
  split at h <;> exact ⟨by simpa using h.2.1, h.2.2⟩
theorem truth_ok {K : PySem.W.Frag} {R : Addr → Prop} {H : Hp} {au : AT} (ok : au.ok K R H) {b : Bool} (e : au.er.truth = some b) : TruV K au.val H b := by
  cases au with
  | atm v =>
    cases v <;> simp [AT.er, T.truth] at e <;> subst e <;> simp [AT.val, TruV]
  | box o k a xs =>
    cases k <;> simp only [AT.er, T.truth, Option.some.injEq, reduceCtorEq] at e
    · subst e
      exact .inl ⟨xs.map AT.val, .of (ok_list ok), by rw [er_isEmpty]⟩
    · subst e
      exact .inr (.inl ⟨xs.map AT.val, .of (ok_tup ok), by rw [er_isEmpty]⟩)
    · subst e
      obtain ⟨h1, h2⟩ := ok_dct ok
      refine .inr (.inr ⟨_, h2, ?_⟩)
      rename_i ks
      cases ks with
      | nil => rfl
      | cons x ks => cases xs with
        | nil => simp at h1
        | cons y ys => rfl
    · subst e
      exact .inl ⟨xs.map AT.val, ok_scr ok, by rw [er_isEmpty]⟩
theorem view_at {A : AS} {r : Rt} {q : List Nat} {au : AT} {t : T} (g : A.ga r q = some au) (e : view A.er (.p r q) = some t) : au.er = t := by
  simp only [view, er_ga, g, Option.map_some, Option.some.injEq] at e
  exact e
theorem tru_sat {X : Cx} {W : Wh} {g : S → RE} {σ : St} {H : Hp} {Q : Bool → Hp → Prop} (h : tT X.K W (truE g) σ H Q) : tE X.K W g σ H fun x H1 => ∃ k, TruV X.K x H1 k ∧ Q k H1 := by
  obtain ⟨A, Z, R, rel, s⟩ := h
  refine ⟨A, Z, R, rel, ?_⟩
  simp only [truE] at s
  cases e1 : g A.er with
  | fail => rw [e1] at s; exact s
  | ex C fs s1 => rw [e1] at s; exact s
  | ok e m s1 =>
    rw [e1] at s
    simp only at s
    cases e with
    | v t =>
      intro A' R' H' au ea k et r'
      subst ea
      simp only [view] at s
      subst et
      cases e2 : au.er.truth with
      | none => rw [e2] at s; exact s.elim
      | some b => rw [e2] at s; exact ⟨b, truth_ok r'.head e2, s A' R' H' rfl k r'.drop⟩
    | p r q =>
      intro A' R' H' au ea k ga r'
      subst ea
      simp only [view, er_ga, ga, Option.map_some] at s
      cases e2 : au.er.truth with
      | none => rw [e2] at s; exact s.elim
      | some b => rw [e2] at s; exact ⟨b, truth_ok (r'.ga_ok ga).1 e2, s A' R' H' rfl k r'⟩
end TL
namespace TL
open PySem PySem.Spec L2

/-! ## A node changed in its place -/
def T.md (u : T) : T → List Nat → T
  | _, [] => u
  | .atm v, _ :: _ => .atm v
  | .box o k xs, i :: p => .box o k (xs.modify i fun x => T.md u x p)
def AT.md (u : AT) : AT → List Nat → AT
  | _, [] => u
  | .atm v, _ :: _ => .atm v
  | .box o k a xs, i :: p => .box o k a (xs.modify i fun x => AT.md u x p)
def SS.setR {α : Type} (s : SS α) (r : Rt) (x : α) : SS α := match r with
  | .sl i => { s with sl := s.sl.set i (.t x) }
  | .hd k => { s with hd := s.hd.set k x }
def below (r : Rt) (q : List Nat) (r' : Rt) (p : List Nat) : Bool := decide (r' = r) && q.isPrefixOf p && decide (q.length < p.length)
def Sl.kill {α : Type} (r : Rt) (q : List Nat) : Sl α → Sl α
  | .al r' p => if below r q r' p = true then .no else .al r' p
  | x => x
def SS.kill {α : Type} (s : SS α) (r : Rt) (q : List Nat) : SS α := { s with sl := s.sl.map (Sl.kill r q) }

theorem modify_map {α β : Type} (f : α → β) (g : α → α) (g' : β → β) (h : ∀ x, f (g x) = g' (f x)) : ∀ (xs : List α) (i : Nat), (xs.modify i g).map f = (xs.map f).modify i g'
  | [], i => by simp
  | x :: xs, 0 => by simp [h]
  | x :: xs, i + 1 => by simp [modify_map f g g' h xs i]
theorem md_er (u : AT) : ∀ (p : List Nat) (t : AT), (AT.md u t p).er = T.md u.er t.er p
  | [], t => by simp [AT.md, T.md]
  | i :: p, .atm v => by simp [AT.md, T.md, AT.er]
  | i :: p, .box o k a xs => by
    simp only [AT.md, T.md, AT.er, erL_map]
    rw [modify_map AT.er (fun x => AT.md u x p) (fun x => T.md u.er x p) fun x => md_er u p x]
theorem setR_er (A : AS) (r : Rt) (x : AT) : (A.setR r x).er = A.er.setR r x.er := by
  cases r with
  | sl i => simp [SS.setR, SS.er, List.map_set, Sl.er]
  | hd k => simp [SS.setR, SS.er, erL_map, List.map_set]
theorem kill_er (A : AS) (r : Rt) (q : List Nat) : (A.kill r q).er = A.er.kill r q := by
  simp only [SS.kill, SS.er, List.map_map]
  congr 1
  apply List.map_congr_left
  intro x _
  cases x with
  | no => rfl
  | t x => rfl
  | al r' p => by_cases hb : below r q r' p = true <;> simp [Function.comp, Sl.kill, Sl.er, hb]

theorem modify_val {u u' : AT} {g : AT → AT} : ∀ {xs : List AT} {i : Nat}, xs[i]? = some u → (g u).val = u.val → (xs.modify i g).map AT.val = xs.map AT.val
  | [], i, h, _ => by simp at h
  | x :: xs, 0, h, e => by simp at h; subst h; simp [e]
  | x :: xs, i + 1, h, e => by simp; exact modify_val (u' := u') (by simpa using h) e
theorem modify_get {α : Type} {g : α → α} : ∀ {xs : List α} {i j : Nat}, (xs.modify i g)[j]? = if i = j then (xs[j]?).map g else xs[j]?
  | xs, i, j => by rw [List.getElem?_modify]; split <;> simp_all
theorem md_val {u u' : AT} (hv : u'.val = u.val) : ∀ (q : List Nat) {t : AT}, t.get q = some u → (AT.md u' t q).val = t.val
  | [], t, e => by simp [AT.get] at e; subst e; simpa [AT.md] using hv
  | i :: q, .atm v, e => by simp [AT.get] at e
  | i :: q, .box o k a xs, e => by simp [AT.md, AT.val]
/-- the counts of a changed tree -/
theorem modify_cnL {u : AT} {g : AT → AT} (b : Addr) : ∀ {xs : List AT} {i : Nat}, xs[i]? = some u → AT.cnL b (xs.modify i g) + u.cn b = AT.cnL b xs + (g u).cn b
  | [], i, h => by simp at h
  | x :: xs, 0, h => by simp at h; subst h; simp [AT.cnL]; omega
  | x :: xs, i + 1, h => by
    have := modify_cnL (g := g) b (xs := xs) (i := i) (by simpa using h)
    simp [AT.cnL]; omega
section
variable {K : PySem.W.Frag} {R R' : Addr → Prop} {H H' : Hp}
theorem get_own_parent {o : Bool} {k : Kd} {a : Addr} {xs : List AT} {i : Nat} {q : List Nat} {u : AT} (h : (AT.box o k a xs).ok K R H) (e : (AT.box o k a xs).get (i :: q) = some u) (hu : u.er.allF = false) : o = true := by
  cases o with
  | true => rfl
  | false =>
    exfalso
    have hf := h.2.2 rfl
    have : ∀ (q : List Nat) (t : AT), t.er.allF = true → t.get q = some u → u.er.allF = true := by
      intro q
      induction q with
      | nil => intro t ht e; simp [AT.get] at e; subst e; exact ht
      | cons j q ih =>
        intro t ht e
        cases t with
        | atm v => simp [AT.get] at e
        | box o k a ys =>
          simp only [AT.get] at e
          split at e
          · rename_i y ey
            simp only [AT.er, T.allF, Bool.and_eq_true] at ht
            exact ih y (allFL_iff.mp ht.2 y.er (by rw [erL_map]; exact List.mem_map_of_mem (List.mem_of_getElem? ey))) e
          · cases e
    have z := this (i :: q) (.box false k a xs) (by simp [AT.er, T.allF, hf]) e
    rw [hu] at z; cases z
theorem md_cn {u u' : AT} (b : Addr) : ∀ (q : List Nat) {t : AT}, t.ok K R H → t.get q = some u → u.er.allF = false → (AT.md u' t q).cn b + u.cn b = t.cn b + u'.cn b
  | [], t, _, e, _ => by simp [AT.get] at e; subst e; simp [AT.md]; omega
  | i :: q, .atm v, _, e, _ => by simp [AT.get] at e
  | i :: q, .box o k a xs, h, e, hu => by
    have ho := get_own_parent h e hu
    subst ho
    simp only [AT.get] at e
    split at e
    · rename_i x ex
      have ih := md_cn b (u' := u') q (okL_iff.mp h.2.1 x (List.mem_of_getElem? ex)) e hu
      have z := modify_cnL (g := fun x => AT.md u' x q) b ex
      simp only [AT.md, AT.cn, if_true]
      omega
    · cases e
/-- the changed tree is in order -/
theorem md_ok {u u' : AT} {a0 : Addr} (hv : u'.val = u.val) (ok' : u'.ok K R' H') (hR : ∀ a, R a → R' a) (h0 : ∀ a, R a → a ≠ a0) (hH : ∀ a w, a ≠ a0 → H a = some w → H' a = some w) (hu : u.er.allF = false) (hu0 : 0 < u.cn a0) :
    ∀ (q : List Nat) {t : AT}, t.ok K R H → t.get q = some u → (∀ b, t.cn b ≤ 1) → (∀ b, R' b → u.cn b < t.cn b → False) → (AT.md u' t q).ok K R' H'
  | [], t, _, e, _, _ => by simpa [AT.md] using ok'
  | i :: q, .atm v, _, e, _, _ => by simp [AT.get] at e
  | i :: q, .box o k a xs, h, e, nd, hR2 => by
    have ho := get_own_parent h e hu
    subst ho
    have e0 := e
    simp only [AT.get] at e
    split at e
    · rename_i x ex
      obtain ⟨h1, h3, _⟩ := h
      simp only [AtB, if_true] at h1
      have hx := okL_iff.mp h3 x (List.mem_of_getElem? ex)
      have cx := get_ok q hx e
      have lex : ∀ b, x.cn b ≤ AT.cnL b xs := fun b => cnL_mem (List.mem_of_getElem? ex)
      have na : a ≠ a0 := by
        intro z
        subst z
        have := nd a
        have y := cx.2 a
        have w := lex a
        simp only [AT.cn, if_true] at this
        omega
      have nRa : ¬ R' a := by
        intro r
        have := nd a
        simp only [AT.cn, if_true] at this
        refine hR2 a r ?_
        have y := cx.2 a
        have w := lex a
        simp only [AT.cn, if_true]
        omega
      have ihx := md_ok hv ok' hR h0 hH hu hu0 q hx e (fun b => by have := nd b; simp only [AT.cn, if_true] at this; have := lex b; omega)
        (fun b r l => hR2 b r (by have := lex b; simp only [AT.cn, if_true]; omega))
      refine ⟨?_, ?_, by simp⟩
      · rw [modify_val (u' := u') ex (md_val hv q e)]
        simp only [AtB, if_true]
        exact ⟨nRa, Hold_mono (fun w => hH a w na) h1.2⟩
      · rw [okL_iff]
        intro y hy
        obtain ⟨j, hj⟩ := List.getElem?_of_mem hy
        rw [modify_get] at hj
        by_cases ij : i = j
        · subst ij
          rw [if_pos rfl, ex] at hj
          simp only [Option.map_some, Option.some.injEq] at hj
          subst hj
          exact ihx
        · rw [if_neg ij] at hj
          have hy' := okL_iff.mp h3 y (List.mem_of_getElem? hj)
          have two : ∀ b, x.cn b + y.cn b ≤ AT.cnL b xs := by
            intro b
            have : ∀ (zs : List AT) (i j : Nat), i ≠ j → zs[i]? = some x → zs[j]? = some y → x.cn b + y.cn b ≤ AT.cnL b zs := by
              intro zs
              induction zs with
              | nil => intro i j _ e _; simp at e
              | cons z zs ih =>
                intro i j nij e1 e2
                cases i with
                | zero =>
                  cases j with
                  | zero => exact absurd rfl nij
                  | succ j =>
                    simp at e1; subst e1
                    have := cnL_mem (b := b) (List.mem_of_getElem? (show zs[j]? = some y by simpa using e2))
                    simp only [AT.cnL]; omega
                | succ i =>
                  cases j with
                  | zero =>
                    simp at e2; subst e2
                    have := cnL_mem (b := b) (List.mem_of_getElem? (show zs[i]? = some x by simpa using e1))
                    simp only [AT.cnL]; omega
                  | succ j =>
                    have := ih i j (by omega) (by simpa using e1) (by simpa using e2)
                    simp only [AT.cnL]; omega
            exact this xs i j ij ex hj
          refine ok_mono hy' hR (fun b hb r => hR2 b r ?_) fun b w hb eb => hH b w ?_ eb
          · have := two b; have := nd b; have := cx.2 b; simp only [AT.cn, if_true] at *; omega
          · rcases hb with hb | hb
            · exact h0 b hb
            · intro z
              subst z
              have := two b; have := nd b; have := cx.2 b; simp only [AT.cn, if_true] at *; omega
    · cases e
end

/-- paths in a changed tree -/
theorem md_get {u u' : AT} (hv : u'.val = u.val) : ∀ (q p : List Nat) {t w : AT}, t.get q = some u → t.get p = some w → (q.isPrefixOf p && decide (q.length < p.length)) = false → ∃ w', (AT.md u' t q).get p = some w' ∧ w'.val = w.val
  | [], [], t, w, e, e2, _ => by
    simp only [AT.get, Option.some.injEq] at e e2; subst e; subst e2; exact ⟨u', by simp [AT.md, AT.get], hv⟩
  | [], j :: p, t, w, e, e2, hb => by simp at hb
  | i :: q, [], t, w, e, e2, _ => by
    simp only [AT.get, Option.some.injEq] at e2; subst e2
    exact ⟨_, by simp [AT.get], md_val hv (i :: q) e⟩
  | i :: q, j :: p, .atm v, w, e, e2, _ => by simp [AT.get] at e
  | i :: q, j :: p, .box o k a xs, w, e, e2, hb => by
    simp only [AT.get] at e e2
    simp only [AT.md, AT.get, modify_get]
    by_cases ij : i = j
    · subst ij
      rw [if_pos rfl]
      split at e
      · rename_i x ex
        rw [ex] at e2
        rw [ex]
        simp only [Option.map_some]
        simp only [List.isPrefixOf, BEq.rfl, Bool.true_and, List.length_cons, Nat.add_lt_add_iff_right] at hb
        exact md_get hv q p e e2 hb
      · cases e
    · rw [if_neg ij]
      exact ⟨w, e2, rfl⟩
/-- .. at or below the place -/
theorem md_get_below {u' : AT} : ∀ (q p : List Nat) {t u : AT}, t.get q = some u → (AT.md u' t q).get (q ++ p) = u'.get p ∧ t.get (q ++ p) = u.get p
  | [], p, t, u, e => by simp only [AT.get, Option.some.injEq] at e; subst e; simp [AT.md]
  | i :: q, p, .atm v, u, e => by simp [AT.get] at e
  | i :: q, p, .box o k a xs, u, e => by
    simp only [AT.get] at e
    split at e
    · rename_i x ex
      have := md_get_below (u' := u') q p e
      simp only [List.cons_append, AT.md, AT.get, modify_get, if_true, ex, Option.map_some]
      exact this
    · cases e
theorem prefix_split : ∀ {q p : List Nat}, q.isPrefixOf p = true → ∃ l, p = q ++ l
  | [], p, _ => ⟨p, rfl⟩
  | i :: q, [], h => by simp at h
  | i :: q, j :: p, h => by
    simp only [List.isPrefixOf, Bool.and_eq_true, beq_iff_eq] at h
    obtain ⟨l, e⟩ := prefix_split h.2
    exact ⟨l, by rw [h.1, e]; rfl⟩

theorem root_set_same {A : AS} {r : Rt} {t x : AT} (e : A.root r = some t) : (A.setR r x).root r = some x := by
  cases r with
  | sl i =>
    simp only [SS.root] at e
    simp only [SS.root, SS.setR]
    split at e
    · rename_i y ey
      have hi : i < A.sl.length := (List.getElem?_eq_some_iff.mp ey).1
      rw [List.getElem?_set_self hi]
    · cases e
  | hd k =>
    have hk : k < A.hd.length := (List.getElem?_eq_some_iff.mp (show A.hd[k]? = some t from e)).1
    simp [SS.root, SS.setR, hk]
theorem root_set_ne {A : AS} {r r' : Rt} {x : AT} (h : r' ≠ r) : (A.setR r x).root r' = A.root r' := by
  cases r with
  | sl i =>
    cases r' with
    | sl j =>
      have hij : i ≠ j := fun z => h (by rw [z])
      simp [SS.root, SS.setR, List.getElem?_set_ne hij]
    | hd k => rfl
  | hd k =>
    cases r' with
    | sl j => rfl
    | hd l =>
      have hij : k ≠ l := fun z => h (by rw [z])
      simp [SS.root, SS.setR, List.getElem?_set_ne hij]
theorem root_kill {A : AS} {r r' : Rt} {q : List Nat} : (A.kill r q).root r' = A.root r' := by
  cases r' with
  | sl j =>
    simp only [SS.root, SS.kill, List.getElem?_map]
    cases A.sl[j]? with
    | none => rfl
    | some x =>
      cases x with
      | no => rfl
      | t y => rfl
      | al r2 p => by_cases hb : below r q r2 p = true <;> simp [Sl.kill, hb]
  | hd k => rfl
theorem cnS_set {b : Addr} {t x : AT} : ∀ {l : List (Sl AT)} {i : Nat}, l[i]? = some (Sl.t t) → cnS b (l.set i (.t x)) + t.cn b = cnS b l + x.cn b
  | [], i, h => by simp at h
  | y :: l, 0, h => by simp at h; subst h; simp [cnS, Sl.cn]; omega
  | y :: l, i + 1, h => by
    have := cnS_set (b := b) (x := x) (l := l) (i := i) (by simpa using h)
    simp [cnS]; omega
theorem cnL_set {b : Addr} {t x : AT} : ∀ {l : List AT} {i : Nat}, l[i]? = some t → AT.cnL b (l.set i x) + t.cn b = AT.cnL b l + x.cn b
  | [], i, h => by simp at h
  | y :: l, 0, h => by simp at h; subst h; simp [AT.cnL]; omega
  | y :: l, i + 1, h => by
    have := cnL_set (b := b) (x := x) (l := l) (i := i) (by simpa using h)
    simp [AT.cnL]; omega
theorem setR_cn {A : AS} {r : Rt} {t x : AT} (b : Addr) (e : A.root r = some t) : (A.setR r x).cn b + t.cn b = A.cn b + x.cn b := by
  cases r with
  | sl i =>
    simp only [SS.root] at e
    split at e
    · rename_i y ey
      cases e
      have := cnS_set (b := b) (x := x) ey
      simp only [SS.cn, SS.setR]; omega
    · cases e
  | hd k =>
    have := cnL_set (b := b) (x := x) (show A.hd[k]? = some t from e)
    simp only [SS.cn, SS.setR]; omega
theorem kill_cn {A : AS} {r : Rt} {q : List Nat} (b : Addr) : (A.kill r q).cn b = A.cn b := by
  have : ∀ l : List (Sl AT), cnS b (l.map (Sl.kill r q)) = cnS b l := by
    intro l
    induction l with
    | nil => rfl
    | cons x xs ih =>
      simp only [List.map_cons, cnS, ih]
      congr 1
      cases x with
      | no => rfl
      | t y => rfl
      | al r2 p => simp only [Sl.kill]; split <;> rfl
  simp only [SS.cn, SS.kill, this]
theorem setR_cnx {A : AS} {r : Rt} {x : AT} : (A.setR r x).cn = fun b => (A.setR r x).cn b := rfl

/-- two different roots own apart -/
theorem root_two {A : AS} {r r' : Rt} {t t' : AT} (b : Addr) (h : r ≠ r') (e : A.root r = some t) (e' : A.root r' = some t') : t.cn b + t'.cn b ≤ A.cn b := by
  have h1 := setR_cn (x := AT.atm .non) b e
  have h2 := root_cn b ((root_set_ne (x := AT.atm .non) (Ne.symm h)).trans e')
  simp only [AT.cn] at h1
  omega
/-- THE CHANGE of a node in its place -/
theorem Rel.modify {K : PySem.W.Frag} {G : Gr} {A : AS} {Zc Z : List AT} (Zo : List AT) {R R' : Addr → Prop} {σ : St} {H H' : Hp} {r : Rt} {q : List Nat} {t u u' : AT} {a0 : Addr} (kl : Bool) (h : Rel K G A (Zc ++ Z) R σ H) (e : A.root r = some t) (eu : t.get q = some u) (hu : u.er.allF = false) (hu0 : 0 < u.cn a0)
    (hv : u'.val = u.val) (ok' : u'.ok K R' H') (hR : ∀ a, R a → R' a) (hR2 : ∀ a, R' a → R a ∨ 0 < u.cn a ∨ 0 < AT.cnL a Zc) (hH : ∀ a w, a ≠ a0 → H a = some w → H' a = some w) (hT : ∀ a, R' a → H' a ≠ none)
    (hc : ∀ b, u'.cn b + AT.cnL b Zo ≤ u.cn b + AT.cnL b Zc) (okZo : AT.okL K R' H' Zo) (hk : kl = false → ∀ i p w, u.get (i :: p) = some w → ∃ w', u'.get (i :: p) = some w' ∧ w'.val = w.val) :
    Rel K G (if kl = true then (A.setR r (AT.md u' t q)).kill r q else A.setR r (AT.md u' t q)) (Zo ++ Z) R' σ H' := by
  have tok := h.root_ok e
  have ucn := get_ok q tok eu
  have tcn := fun b => root_cn b e
  have nda : ∀ b, A.cn b + (AT.cnL b Zc + AT.cnL b Z) ≤ 1 := fun b => by have := h.nd b; rwa [cnL_append] at this
  have h0 : ∀ a, R a → a ≠ a0 := fun a ra z => by subst z; exact ok_notR ucn.1 a hu0 ra
  have mcn := fun b => md_cn (u' := u') b q tok eu hu
  -- what is owned elsewhere
  have other : ∀ {w : AT}, (∀ b, w.cn b + t.cn b + AT.cnL b Zc ≤ 1) → w.ok K R H → w.ok K R' H' := fun {w} hw ow => by
    refine ok_mono ow hR (fun b hb r' => ?_) fun b x hb eb => hH b x ?_ eb
    · rcases hR2 b r' with z | z | z
      · exact ok_notR ow b hb z
      · have := hw b; have := ucn.2 b; omega
      · have := hw b; omega
    · rcases hb with hb | hb
      · exact h0 b hb
      · intro z; subst z; have := hw b; have := ucn.2 b; omega
  have zok : AT.okL K R H Z := (okL_append.mp h.okZ).2
  have root' : ∀ r' x, (A.setR r (AT.md u' t q)).root r' = some x → x.ok K R' H' := by
    intro r' x ex
    by_cases hr : r' = r
    · subst hr
      rw [root_set_same e] at ex
      cases ex
      refine md_ok hv ok' hR h0 hH hu hu0 q tok eu (fun b => by have := tcn b; have := nda b; omega) fun b r' l => ?_
      rcases hR2 b r' with z | z | z
      · exact ok_notR tok b (by omega) z
      · have := tcn b; have := nda b; omega
      · have := tcn b; have := nda b; omega
    · rw [root_set_ne hr] at ex
      exact other (fun b => by have := root_two b hr ex e; have := nda b; omega) (h.root_ok ex)
  have zok' : AT.okL K R' H' (Zo ++ Z) := by
    rw [okL_append]
    refine ⟨okZo, ?_⟩
    rw [okL_iff] at zok ⊢
    intro w hw
    refine other (fun b => ?_) (zok w hw)
    have := cnL_mem (b := b) hw; have := tcn b; have := nda b; omega
  have nd' : ∀ b, (A.setR r (AT.md u' t q)).cn b + AT.cnL b (Zo ++ Z) ≤ 1 := fun b => by
    rw [cnL_append]
    have h1 := setR_cn (x := AT.md u' t q) b e
    have h2 := mcn b
    have h3 := hc b
    have h4 := nda b
    have h5 := tcn b
    omega
  have gO' : ∀ b, 0 < (A.setR r (AT.md u' t q)).cn b + AT.cnL b (Zo ++ Z) → G.H b = none ∨ G.M b := fun b hb => h.gO b (by
    rw [cnL_append] at hb ⊢
    have h1 := setR_cn (x := AT.md u' t q) b e
    have h2 := mcn b
    have h3 := hc b
    have h5 := tcn b
    have h6 := ucn.2 b
    omega)
  have gH' : ∀ a u, G.H a = some u → ¬ G.M a → H' a = some u := fun a x ea m => hH a x (fun z => by
    subst z
    rcases h.gO a (by have := tcn a; have := ucn.2 a; omega) with z | z
    · rw [z] at ea; cases ea
    · exact m z) (h.gH a x ea m)
  have gR' : ∀ a, R' a → G.R a ∨ G.H a = none ∨ G.M a := fun a ra => by
    rcases hR2 a ra with z | z | z
    · exact h.gR a z
    · exact .inr (h.gO a (by have := tcn a; have := ucn.2 a; omega))
    · exact .inr (h.gO a (by rw [cnL_append]; omega))
  have gS' : ∀ a, G.R a → R' a := fun a ra => hR a (h.gS a ra)
  have base : (kl = false → Rel K G (A.setR r (AT.md u' t q)) (Zo ++ Z) R' σ H') ∧ Rel K G ((A.setR r (AT.md u' t q)).kill r q) (Zo ++ Z) R' σ H' := by
    have slen : (A.setR r (AT.md u' t q)).sl.length = A.sl.length := by cases r <;> simp [SS.setR]
    have slT' : ∀ (i : Nat) (x : AT), (A.setR r (AT.md u' t q)).sl[i]? = some (Sl.t x) → σ[i]? = some (some x.val) := by
      intro i x ex
      by_cases hi : r = .sl i
      · subst hi
        have e2 : (A.setR (.sl i) (AT.md u' t q)).root (.sl i) = some x := by simp only [SS.root, ex]
        rw [root_set_same e] at e2
        cases e2
        rw [md_val hv q eu]
        simp only [SS.root] at e
        split at e
        · rename_i y ey; cases e; exact h.slT i t ey
        · cases e
      · have e2 : A.sl[i]? = some (Sl.t x) := by
          cases r with
          | sl j =>
            have : j ≠ i := fun z => hi (by rw [z])
            simpa [SS.setR, List.getElem?_set_ne this] using ex
          | hd k => exact ex
        exact h.slT i x e2
    have slA0 : ∀ (i : Nat) (r' : Rt) (p : List Nat), (A.setR r (AT.md u' t q)).sl[i]? = some (Sl.al r' p) → A.sl[i]? = some (Sl.al r' p) := by
      intro i r' p ex
      cases r with
      | sl j =>
        by_cases ji : j = i
        · subst ji
          simp only [SS.setR] at ex
          by_cases hj : j < A.sl.length
          · rw [List.getElem?_set_self hj] at ex; cases ex
          · rw [List.getElem?_eq_none (by simpa using hj)] at ex; cases ex
        · simpa [SS.setR, List.getElem?_set_ne ji] using ex
      | hd k => exact ex
    have ga' : ∀ r' p w, A.ga r' p = some w → below r q r' p = false → ∃ w', (A.setR r (AT.md u' t q)).ga r' p = some w' ∧ w'.val = w.val := by
      intro r' p w ew hb
      simp only [SS.ga] at ew ⊢
      by_cases hr : r' = r
      · subst hr
        rw [e] at ew
        rw [root_set_same e]
        simp only [below, decide_true, Bool.true_and] at hb
        exact md_get hv q p eu ew hb
      · rw [root_set_ne hr]
        exact ⟨w, ew, rfl⟩
    constructor
    · intro hkl
      refine ⟨fun i x ex => root' (.sl i) x (by simp only [SS.root, ex]), ?_, zok', nd', fun a ra => hT a ra, h.len.trans slen.symm, slT', fun i r' p ex => ?_, gH', gO', gR', gS'⟩
      · rw [okL_iff]; intro x hx
        obtain ⟨k, hk'⟩ := List.getElem?_of_mem hx
        exact root' (.hd k) x hk'
      · obtain ⟨w, ew, sw⟩ := h.slA i r' p (slA0 i r' p ex)
        by_cases hb : below r q r' p = false
        · obtain ⟨w', e', v'⟩ := ga' r' p w ew hb
          exact ⟨w', e', by rw [v']; exact sw⟩
        · simp only [below, Bool.not_eq_false, Bool.and_eq_true, decide_eq_true_eq] at hb
          obtain ⟨⟨rfl, hp⟩, hl⟩ := hb
          obtain ⟨l, rfl⟩ := prefix_split hp
          cases l with
          | nil => simp at hl
          | cons i' l =>
            simp only [SS.ga, e] at ew
            obtain ⟨g1, g2⟩ := md_get_below (u' := u') q (i' :: l) eu
            rw [g2] at ew
            obtain ⟨w', e', v'⟩ := hk hkl i' l w ew
            exact ⟨w', by simp only [SS.ga, root_set_same e]; rw [g1]; exact e', by rw [v']; exact sw⟩
    · refine ⟨fun i x ex => root' (.sl i) x ?_, ?_, zok', fun b => by rw [kill_cn]; exact nd' b, fun a ra => hT a ra, ?_, fun i x ex => slT' i x ?_, fun i r' p ex => ?_, gH', fun b hb => gO' b (by rwa [kill_cn] at hb), gR', gS'⟩
      · have : ((A.setR r (AT.md u' t q)).kill r q).root (.sl i) = some x := by simp only [SS.root, ex]
        rwa [root_kill] at this
      · rw [okL_iff]; intro x hx
        obtain ⟨k, hk'⟩ := List.getElem?_of_mem hx
        exact root' (.hd k) x hk'
      · rw [h.len]; simp [SS.kill, slen]
      · simp only [SS.kill, List.getElem?_map] at ex
        cases e3 : (A.setR r (AT.md u' t q)).sl[i]? with
        | none => rw [e3] at ex; cases ex
        | some y =>
          rw [e3] at ex
          cases y with
          | no => cases ex
          | t z => exact ex
          | al r2 p2 => simp only [Option.map_some, Sl.kill] at ex; split at ex <;> cases ex
      · simp only [SS.kill, List.getElem?_map] at ex
        cases e3 : (A.setR r (AT.md u' t q)).sl[i]? with
        | none => rw [e3] at ex; cases ex
        | some y =>
          rw [e3] at ex
          cases y with
          | no => cases ex
          | t z => cases ex
          | al r2 p2 =>
            simp only [Option.map_some, Sl.kill] at ex
            split at ex
            · cases ex
            · rename_i nb
              simp only [Option.some.injEq, Sl.al.injEq] at ex
              obtain ⟨rfl, rfl⟩ := ex
              obtain ⟨w, ew, sw⟩ := h.slA i r2 p2 (slA0 i r2 p2 e3)
              obtain ⟨w', e', v'⟩ := ga' r2 p2 w ew (by simpa using nb)
              refine ⟨w', ?_, by rw [v']; exact sw⟩
              simp only [SS.ga, root_kill]
              exact e'
  cases kl with
  | true => simpa using base.2
  | false => simpa using base.1 rfl
end TL
namespace TL
open PySem PySem.Spec L2

/-! ## Expressions -/
section
variable {X : Cx} {W : Wh} {K : PySem.W.Frag} {G : Gr}
theorem tE.mono {g : S → RE} {σ : St} {H : Hp} {Q Q' : VK} (h : tE K W g σ H Q) (m : ∀ v H, Q v H → Q' v H) : tE K W g σ H Q' := by
  obtain ⟨A, Z, R, r, s⟩ := h
  refine ⟨A, Z, R, r, ?_⟩
  cases e : g A.er with
  | fail => rw [e] at s; exact s
  | ex C fs s1 => rw [e] at s; exact s
  | ok ev md s1 =>
    rw [e] at s
    cases ev with
    | v t => exact fun A' R' H' au a b c d => m _ _ (s A' R' H' au a b c d)
    | p p q => exact fun A' R' H' au a b c d => m _ _ (s A' R' H' au a b c d)
theorem tA_one {g : S → RE} {σ : St} {H : Hp} {Q : List V → Hp → Prop} (h : tA K W (argsG [g]) σ H Q) : tE K W g σ H fun x H1 => Q [x] H1 :=
  (tA_cons h).mono fun _ _ z => tA_nil z
theorem tA_two {ga gb : S → RE} {σ : St} {H : Hp} {Q : List V → Hp → Prop} (h : tA K W (argsG [ga, gb]) σ H Q) : tE K W ga σ H fun x H1 => tE K W gb σ H1 fun y H2 => Q [x, y] H2 :=
  (tA_cons h).mono fun _ _ z => tA_one z
theorem tA_three {ga gb gc : S → RE} {σ : St} {H : Hp} {Q : List V → Hp → Prop} (h : tA K W (argsG [ga, gb, gc]) σ H Q) : tE K W ga σ H fun x H1 => tE K W gb σ H1 fun y H2 => tE K W gc σ H2 fun z H3 => Q [x, y, z] H3 :=
  (tA_cons h).mono fun _ _ z => tA_two z
/-- an argument list of the text -/
structure IA (X : Cx) (W : Wh) (es : List Expr) (gs : List (S → RE)) : Prop where
  pa : PA X es (tA X.K W (argsG gs))
theorem ia_nil : IA X W [] [] := ⟨PA.mono pa_nil fun σ H Q h => tA_nil h⟩
theorem ia_cons {e : Expr} {es : List Expr} {g : S → RE} {gs : List (S → RE)} (h : IE X W e g) (hs : IA X W es gs) (he : starEach (e :: es) X.env = (false, eval e X.env) :: starEach es X.env := by rfl) : IA X W (e :: es) (g :: gs) :=
  ⟨PA.mono (pa_cons h.pe hs.pa he) fun σ H Q h => tA_cons h⟩

/-! ### constants, names -/
def kE (v : V) (s : S) : RE := .ok (.v (.atm v)) .pure s
theorem ie_k {e : Expr} {v : V} (h : PE X e (tC v)) (hv : isAtm v = true := by rfl) : IE X W e (kE v) := by
  refine ⟨PE.mono h fun σ H Q q => ?_⟩
  obtain ⟨A, Z, R, r, s⟩ := q
  exact s A R H (.atm v) rfl rfl rfl (r.atm hv)
theorem ie_int {i : Int} {j pos} : IE X W (.Constant (.int i) j pos) (kE (.int i)) := ie_k pe_int
theorem ie_bl {b j pos} : IE X W (.Constant (.bool b) j pos) (kE (.bl b)) := ie_k pe_bl
theorem ie_non {j pos} : IE X W (.Constant .none j pos) (kE .non) := ie_k pe_non
theorem ie_str {x : Str} {j pos} : IE X W (.Constant (.str x) j pos) (kE (.str x)) := ie_k pe_str
def rdE (i : Nat) (s : S) : RE := match s.sl[i]? with
  | some (.t t) => if t.allF = true then .ok (.v t) .pure s else .ok (.p (.sl i) []) .pure s
  | some (.al r p) => match s.gt r p with
    | some t => if t.allF = true then .ok (.v t) .pure s else .ok (.p r p) .pure s
    | none => .fail
  | _ => .fail
theorem er_sl (A : AS) (i : Nat) : A.er.sl[i]? = (A.sl[i]?).map Sl.er := by simp [SS.er]
theorem rd_sat {i : Nat} {σ : St} {H : Hp} {Q : VK} (h : tE K W (rdE i) σ H Q) : tVar i σ H Q := by
  obtain ⟨A, Z, R, r, s⟩ := h
  simp only [rdE, er_sl] at s
  cases e : A.sl[i]? with
  | none => rw [e] at s; exact s.elim
  | some x =>
    rw [e] at s
    cases x with
    | no => exact s.elim
    | t au =>
      simp only [Option.map_some, Sl.er] at s
      refine ⟨au.val, r.slT i au e, ?_⟩
      by_cases hf : au.er.allF = true
      · rw [if_pos hf] at s
        exact s A R H au rfl rfl rfl (r.dup (r.okS i au e) hf)
      · rw [if_neg hf] at s
        exact s A R H au rfl rfl (by simp [SS.ga, SS.root, e, AT.get]) r
    | al r0 p =>
      simp only [Option.map_some, Sl.er] at s
      obtain ⟨au, ga, sv⟩ := r.slA i r0 p e
      refine ⟨au.val, sv, ?_⟩
      rw [er_ga, ga] at s
      simp only [Option.map_some] at s
      by_cases hf : au.er.allF = true
      · rw [if_pos hf] at s
        exact s A R H au rfl rfl rfl (r.dup (r.ga_ok ga).1 hf)
      · rw [if_neg hf] at s
        exact s A R H au rfl rfl ga r
theorem ie_rd (i : Nat) {x : Str} {pos : Pos} (hN : X.N[i]? = some x := by rfl) (hv : Vis X.env.scope x := by first | exact Or.inl rfl | exact Or.inr (Or.inl rfl) | exact Or.inr (Or.inr rfl)) (hd : (x == ("__debug__" : Str)) = false := by decide)
    (hcd : (x == ("__classdict__" : Str)) = false := by decide) : IE X W (.Name x pos) (rdE i) := ⟨PE.mono (pe_var hN hv hd hcd) fun σ H Q h => rd_sat h⟩

/-! ### freezing -/
def S.fzAt (s : S) (r : Rt) (q : List Nat) : S := match s.root r, s.gt r q with
  | some t, some u => s.setR r (T.md u.fz t q)
  | _, _ => s
def fzE (g : S → RE) (s : S) : RE := match g s with
  | .ok (.v t) m s1 => .ok (.v t.fz) m s1
  | .ok (.p r q) m s1 => match s1.gt r q with
    | some t => .ok (.v t.fz) (m.seq .fz) (s1.fzAt r q)
    | none => .fail
  | .ex C fs s' => .ex C fs s'
  | .fail => .fail
theorem fz_get : ∀ (p : List Nat) {t w : AT}, t.get p = some w → t.fz.get p = some w.fz
  | [], t, w, e => by simp only [AT.get, Option.some.injEq] at e; subst e; cases t <;> simp [AT.fz, AT.get]
  | i :: p, .atm v, w, e => by simp [AT.get] at e
  | i :: p, .box o k a xs, w, e => by
    simp only [AT.get] at e
    split at e
    · rename_i x ex
      simp only [AT.fz, AT.get, afzL_map, List.getElem?_map, ex, Option.map_some]
      exact fz_get p e
    · cases e
theorem md_fz_get {u : AT} (q p : List Nat) {t w : AT} (e : t.get q = some u) (e2 : t.get p = some w) : ∃ w', (AT.md u.fz t q).get p = some w' ∧ w'.val = w.val := by
  by_cases hb : (q.isPrefixOf p && decide (q.length < p.length)) = false
  · exact md_get (fz_val u) q p e e2 hb
  · simp only [Bool.not_eq_false, Bool.and_eq_true, decide_eq_true_eq] at hb
    obtain ⟨l, rfl⟩ := prefix_split hb.1
    obtain ⟨g1, g2⟩ := md_get_below (u' := u.fz) q l e
    rw [g2] at e2
    exact ⟨w.fz, by rw [g1]; exact fz_get l e2, fz_val w⟩
theorem notF_own {t : AT} {R : Addr → Prop} {H : Hp} (ok : t.ok K R H) (h : t.er.allF = false) : ∃ k a xs, t = .box true k a xs := by
  cases t with
  | atm v => simp [AT.er, T.allF] at h
  | box o k a xs =>
    cases o with
    | true => exact ⟨k, a, xs, rfl⟩
    | false => have := ok.2.2 rfl; simp [AT.er, T.allF, this] at h
/-- the hidden roots' values stay where a root's tree keeps its value -/
theorem setR_hdv {A : AS} {r : Rt} {t x : AT} (e : A.root r = some t) (hv : x.val = t.val) : hdv (A.setR r x) = hdv A := by
  cases r with
  | sl i => rfl
  | hd k =>
    simp only [hdv, SS.setR, List.map_set]
    apply List.ext_getElem?
    intro j
    by_cases ij : k = j
    · subst ij
      have ek : A.hd[k]? = some t := e
      have hk : k < (A.hd.map AT.val).length := by simp; exact (List.getElem?_eq_some_iff.mp ek).1
      rw [List.getElem?_set_self hk, List.getElem?_map, ek, hv]; rfl
    · rw [List.getElem?_set_ne ij]
/-- a place is frozen -/
theorem Rel.freeze {A : AS} {Z : List AT} {R : Addr → Prop} {σ : St} {H : Hp} {r : Rt} {q : List Nat} {u : AT} (h : Rel K G A Z R σ H) (e : A.ga r q = some u) :
    ∃ A' R', A'.er = A.er.fzAt r q ∧ Keep .fz A A' ∧ Rel K G A' (u.fz :: Z) R' σ H := by
  have e0 := e
  simp only [SS.ga] at e
  split at e
  · rename_i t et
    have uok := (h.ga_ok e0).1
    have er' : A.er.fzAt r q = A.er.setR r (T.md u.er.fz t.er q) := by
      simp only [S.fzAt, er_root, et, er_ga, e0, Option.map_some]
    by_cases hf : u.er.allF = true
    · refine ⟨A, R, ?_, ⟨fun r p a e => ⟨a, e, rfl⟩, rfl⟩, h.dup (fz_ok uok (fun _ x => x) fun a ha => by rw [allF_cn a u hf] at ha; omega) (by rw [fz_er]; exact fz_allF _)⟩
      rw [er', fz_of_allF _ hf]
      -- nothing changes
      have md_self : ∀ (q : List Nat) (t u : T), t.get q = some u → T.md u t q = t := by
        intro q
        induction q with
        | nil => intro t u e; simp only [T.get, Option.some.injEq] at e; subst e; simp [T.md]
        | cons i q ih =>
          intro t u e
          cases t with
          | atm v => simp [T.get] at e
          | box o k xs =>
            simp only [T.get] at e
            split at e
            · rename_i x ex
              simp only [T.md]
              congr 1
              apply List.ext_getElem?
              intro j
              rw [modify_get]
              split
              · rename_i ij; subst ij; rw [ex]; simp [ih x u e]
              · rfl
            · cases e
      rw [md_self q t.er u.er (by rw [er_get, e]; rfl)]
      cases r with
      | sl i =>
        simp only [SS.setR]
        simp only [SS.root] at et
        split at et
        · rename_i y ey
          cases et
          have : A.er.sl.set i (.t t.er) = A.er.sl := by
            apply List.ext_getElem?
            intro j
            by_cases ij : i = j
            · subst ij
              have hi : i < A.er.sl.length := by simp [SS.er]; exact (List.getElem?_eq_some_iff.mp ey).1
              rw [List.getElem?_set_self hi, er_sl, ey]; rfl
            · rw [List.getElem?_set_ne ij]
          rw [this]
        · cases et
      | hd k =>
        simp only [SS.setR]
        have ek : A.hd[k]? = some t := et
        have : A.er.hd.set k t.er = A.er.hd := by
          apply List.ext_getElem?
          intro j
          by_cases ij : k = j
          · subst ij
            have hi : k < A.er.hd.length := by simp [SS.er, erL_length]; exact (List.getElem?_eq_some_iff.mp ek).1
            rw [List.getElem?_set_self hi]
            simp [SS.er, erL_map, ek]
          · rw [List.getElem?_set_ne ij]
        rw [this]
    · have hf' : u.er.allF = false := by simpa using hf
      obtain ⟨k, a, xs, rfl⟩ := notF_own uok hf'
      have c0 : 0 < (AT.box true k a xs).cn a := by simp [AT.cn]; omega
      have fok : (AT.box true k a xs).fz.ok K (fun b => R b ∨ 0 < (AT.box true k a xs).cn b) H := fz_ok uok (fun _ x => .inl x) fun _ x => .inr x
      have m := Rel.modify (Zc := []) (Z := Z) [] (R' := fun b => R b ∨ 0 < (AT.box true k a xs).cn b) (H' := H) (u' := (AT.box true k a xs).fz) false h et e hf' c0 (fz_val _) fok (fun _ x => .inl x)
        (fun b hb => hb.elim .inl fun z => .inr (.inl z)) (fun _ _ _ e => e) (fun b hb => hb.elim (h.tr b) fun z => ok_there uok b z) (fun b => by rw [fz_cn]; simp [AT.cnL]) trivial
        (fun _ i p w ew => ⟨w.fz, fz_get (i :: p) ew, fz_val w⟩)
      simp only [Bool.false_eq_true, if_false, List.nil_append] at m
      refine ⟨_, _, ?_, ?_, m.dup fok (by rw [fz_er]; exact fz_allF _)⟩
      · rw [setR_er, md_er, fz_er, er']
      · refine ⟨?_, setR_hdv et (md_val (fz_val _) q e)⟩
        intro r' p w ew
        simp only [SS.ga] at ew ⊢
        by_cases hr : r' = r
        · subst hr
          rw [et] at ew
          rw [root_set_same et]
          exact md_fz_get q p e ew
        · rw [root_set_ne hr]
          exact ⟨w, ew, rfl⟩
  · cases e
theorem fz_sat {g : S → RE} {σ : St} {H : Hp} {Q : VK} (h : tE K W (fzE g) σ H Q) : tE K W g σ H Q := by
  obtain ⟨A, Z, R, r, s⟩ := h
  refine ⟨A, Z, R, r, ?_⟩
  simp only [fzE] at s
  cases e1 : g A.er with
  | fail => rw [e1] at s; exact s
  | ex C fs s1 => rw [e1] at s; exact s
  | ok e m s1 =>
    rw [e1] at s
    cases e with
    | v t =>
      intro A' R' H' au ea k et r'
      have hok := r'.head
      have z := s A' (fun b => R' b ∨ 0 < au.cn b) H' au.fz ea k (by rw [fz_er, et]) ?_
      · rwa [fz_val] at z
      · have fok : au.fz.ok K (fun b => R' b ∨ 0 < au.cn b) H' := fz_ok hok (fun _ x => .inl x) fun _ x => .inr x
        have other : ∀ {w : AT}, (∀ b, w.cn b + au.cn b ≤ 1) → w.ok K R' H' → w.ok K (fun b => R' b ∨ 0 < au.cn b) H' := fun {w} hw ow =>
          ok_mono ow (fun _ x => .inl x) (fun b hb z => z.elim (ok_notR ow b hb) fun z => by have := hw b; omega) fun _ _ _ e => e
        have nd := r'.nd
        simp only [AT.cnL] at nd
        refine ⟨fun i w ew => other (fun b => ?_) (r'.okS i w ew), ?_, ⟨fok, ?_⟩, fun b => ?_, fun b hb => hb.elim (r'.tr b) fun z => ok_there hok b z, r'.len, r'.slT, r'.slA, r'.gH, fun b hb => r'.gO b (by simp only [AT.cnL, fz_cn] at hb ⊢; omega), fun b hb => hb.elim (r'.gR b) fun z => .inr (r'.gO b (by simp only [AT.cnL]; omega)), fun b hb => .inl (r'.gS b hb)⟩
        · have := cnS_mem (b := b) ew; have := nd b; unfold SS.cn at this; omega
        · rw [okL_iff]; intro w hw
          exact other (fun b => by have := cnL_mem (b := b) hw; have := nd b; unfold SS.cn at this; omega) (okL_iff.mp r'.okH w hw)
        · rw [okL_iff]; intro w hw
          exact other (fun b => by have := cnL_mem (b := b) hw; have := nd b; omega) (okL_iff.mp r'.okZ.2 w hw)
        · simp only [AT.cnL, fz_cn]; have := nd b; omega
    | p r0 q =>
      intro A' R' H' au ea k ga r'
      subst ea
      simp only [er_ga, ga, Option.map_some] at s
      obtain ⟨A2, R2, e2, k2, r2⟩ := r'.freeze ga
      have z := s A2 R2 H' au.fz e2 (k.trans k2) (fz_er au) r2
      rwa [fz_val] at z
theorem ie_fz {e : Expr} {g : S → RE} (h : IE X W e g) : IE X W e (fzE g) := ⟨PE.mono h.pe fun σ H Q q => fz_sat q⟩
end
end TL
namespace TL
open PySem PySem.Spec L2

/-! ## Operations by values -/
theorem inv0 {aus : List AT} (h : AT.erL aus = []) : aus = [] := by cases aus with | nil => rfl | cons _ _ => simp [AT.erL] at h
theorem inv1 {aus : List AT} {x : T} (h : AT.erL aus = [x]) : ∃ a, aus = [a] ∧ a.er = x := by
  match aus, h with
  | [a], h => simp only [AT.erL, List.cons.injEq, and_true] at h; exact ⟨a, rfl, h⟩
  | [], h => simp [AT.erL] at h
  | _ :: _ :: _, h => simp [AT.erL] at h
theorem inv2 {aus : List AT} {x y : T} (h : AT.erL aus = [x, y]) : ∃ a b, aus = [a, b] ∧ a.er = x ∧ b.er = y := by
  match aus, h with
  | [a, b], h => simp only [AT.erL, List.cons.injEq, and_true] at h; exact ⟨a, b, rfl, h⟩
  | [], h => simp [AT.erL] at h
  | [_], h => simp [AT.erL] at h
  | _ :: _ :: _ :: _, h => simp [AT.erL] at h
theorem inv3 {aus : List AT} {x y z : T} (h : AT.erL aus = [x, y, z]) : ∃ a b c, aus = [a, b, c] ∧ a.er = x ∧ b.er = y ∧ c.er = z := by
  match aus, h with
  | [a, b, c], h => simp only [AT.erL, List.cons.injEq, and_true] at h; exact ⟨a, b, c, rfl, h⟩
  | [], h => simp [AT.erL] at h
  | [_], h => simp [AT.erL] at h
  | [_, _], h => simp [AT.erL] at h
  | _ :: _ :: _ :: _ :: _, h => simp [AT.erL] at h
theorem invA {a : AT} {v : V} (h : a.er = .atm v) : a = .atm v := by
  cases a with
  | atm w => simp only [AT.er, T.atm.injEq] at h; rw [h]
  | box o k p xs => simp [AT.er] at h
theorem invB {a : AT} {o : Bool} {k : Kd} {ts : List T} (h : a.er = .box o k ts) : ∃ p xs, a = .box o k p xs ∧ AT.erL xs = ts := by
  cases a with
  | atm w => simp [AT.er] at h
  | box o' k' p xs => simp only [AT.er, T.box.injEq] at h; obtain ⟨rfl, rfl, rfl⟩ := h; exact ⟨p, xs, rfl, rfl⟩
section
variable {X : Cx} {W : Wh} {K : PySem.W.Frag} {G : Gr}
def r2n (r : V → V → Hp → VK → Prop) : RN := fun vs H Q => ∃ x y, vs = [x, y] ∧ r x y H Q
def r1n (r : V → Hp → VK → Prop) : RN := fun vs H Q => ∃ x, vs = [x] ∧ r x H Q
/-! ### arithmetic -/
def gI (c : Int → Int → Bool) (g : Int → Int → V) : List T → Option RV
  | [.atm (.int i), .atm (.int j)] => if c i j = true then some (.a (g i j)) else none
  | _ => none
theorem vok_gI {r : V → V → Hp → VK → Prop} {c : Int → Int → Bool} {g : Int → Int → V} (ha : ∀ i j, isAtm (g i j) = true) (h : ∀ i j H Q, c i j = true → Q (g i j) H → r (.int i) (.int j) H Q) : VOK K (r2n r) (gI c g) := by
  intro R H aus Q ok
  unfold gI
  split
  · rename_i i j e
    obtain ⟨a, b, rfl, ea, eb⟩ := inv2 e
    obtain rfl := invA ea
    obtain rfl := invA eb
    split
    · rename_i hc
      exact ⟨ha i j, fun q => ⟨_, _, rfl, h i j H Q hc q⟩⟩
    · trivial
  · trivial
def addF : List T → Option RV
  | [.atm (.int i), .atm (.int j)] => some (.a (.int (i + j)))
  | [.atm (.str x), .atm (.str y)] => if x.length + y.length ≤ sizeLine then some (.a (.str (x ++ y))) else none
  | [.box _ .lst xs, .box _ .lst ys] => if xs.length + ys.length ≤ sizeLine then some (.n .lst (xs ++ ys)) else none
  | [.box _ .tup xs, .box _ .tup ys] => if xs ≠ [] ∧ ys ≠ [] ∧ xs.length + ys.length ≤ sizeLine then some (.n .tup (xs ++ ys)) else none
  | _ => none
def rStrAdd : R2 := fun x y H Q => ∃ i j, x = .str i ∧ y = .str j ∧ i.length + j.length ≤ sizeLine ∧ Q (.str (i ++ j)) H
def rAddU (K : PySem.W.Frag) : R2 := fun x y H Q => rI0 (fun i j => .int (i + j)) x y H Q ∨ rStrAdd x y H Q ∨ rCat x y H Q ∨ rCatT K x y H Q
theorem op_addU : OpR X (binaryOp .Add) (rAddU X.K) := OpR.or op_add (OpR.or op_add_str (OpR.or op_cat op_catT))
theorem map_val_nil {xs : List AT} (h : xs.map AT.val = []) : AT.erL xs = [] := by cases xs with | nil => rfl | cons _ _ => simp at h
theorem vok_add : VOK K (r2n (rAddU K)) addF := by
  intro R H aus Q ok
  unfold addF
  split
  · rename_i i j e
    obtain ⟨a, b, rfl, ea, eb⟩ := inv2 e
    obtain rfl := invA ea
    obtain rfl := invA eb
    exact ⟨rfl, fun q => ⟨_, _, rfl, .inl ⟨_, _, rfl, rfl, q⟩⟩⟩
  · rename_i x y e
    obtain ⟨a, b, rfl, ea, eb⟩ := inv2 e
    obtain rfl := invA ea
    obtain rfl := invA eb
    split
    · rename_i hz
      exact ⟨rfl, fun q => ⟨_, _, rfl, .inr (.inl ⟨_, _, rfl, rfl, hz, q⟩)⟩⟩
    · trivial
  · rename_i o1 xs o2 ys e
    obtain ⟨a, b, rfl, ea, eb⟩ := inv2 e
    obtain ⟨p, xs, rfl, rfl⟩ := invB ea
    obtain ⟨q, ys, rfl, rfl⟩ := invB eb
    split
    · rename_i hz
      refine ⟨xs ++ ys, erL_append xs ys, okL_append.mpr ⟨ok.1.2.1, ok.2.1.2.1⟩, trivial, fun h => ⟨_, _, rfl, .inr (.inr (.inl ⟨p, q, _, _, rfl, rfl, ok_list ok.1, ok_list ok.2.1, by simpa [erL_length] using hz, fun z hz => ?_⟩))⟩⟩
      have := h z hz
      simpa [Kd.ho] using this
    · trivial
  · rename_i o1 xs o2 ys e
    obtain ⟨a, b, rfl, ea, eb⟩ := inv2 e
    obtain ⟨p, xs, rfl, rfl⟩ := invB ea
    obtain ⟨q, ys, rfl, rfl⟩ := invB eb
    split
    · rename_i hz
      obtain ⟨n1, n2, hz⟩ := hz
      refine ⟨xs ++ ys, erL_append xs ys, okL_append.mpr ⟨ok.1.2.1, ok.2.1.2.1⟩, trivial, fun h => ⟨_, _, rfl, .inr (.inr (.inr ⟨p, q, xs.map AT.val, ys.map AT.val, rfl, rfl, .of (ok_tup ok.1), .of (ok_tup ok.2.1), fun z => n1 (map_val_nil z), by simpa [erL_length] using hz, fun z => absurd (map_val_nil z) n2, fun _ z hz => ?_⟩))⟩⟩
      have := h z hz
      simpa [Kd.ho] using this
    · trivial
  · trivial
def subF : List T → Option RV := gI (fun _ _ => true) fun i j => .int (i - j)
theorem vok_sub : VOK K (r2n (rI0 fun i j => .int (i - j))) subF := vok_gI (fun _ _ => rfl) fun i j H Q _ q => ⟨i, j, rfl, rfl, q⟩
/-- a bound for a product: one side small, or both wide -/
def mulOk (i j : Int) : Bool := decide (i.natAbs < 2 ^ 64) || decide (j.natAbs < 2 ^ 64) || (decide (i.natAbs < 2 ^ 8000) && decide (j.natAbs < 2 ^ 8000))
def mulF : List T → Option RV := gI mulOk fun i j => .int (i * j)
def rMulU : R2 := fun x y H Q => rI CMul (fun i j => .int (i * j)) x y H Q ∨ rI CMulW (fun i j => .int (i * j)) x y H Q
theorem op_mulU : OpR X (binaryOp .Mult) rMulU := OpR.or op_mul op_mulW
theorem abs_lt {i : Int} {n : Int} (h : (i.natAbs : Int) < n) : -n < i ∧ i < n := by omega
theorem vok_mul : VOK K (r2n rMulU) mulF := vok_gI (fun _ _ => rfl) fun i j H Q hc q => by
  simp only [mulOk, Bool.or_eq_true, Bool.and_eq_true, decide_eq_true_eq] at hc
  have e64 : ((2 ^ 64 : Nat) : Int) = 2 ^ 64 := by norm_cast
  rcases hc with (hc | hc) | hc
  · exact .inl ⟨i, j, rfl, rfl, .inl (abs_lt (by rw [← e64]; exact Int.ofNat_lt.mpr hc)), q⟩
  · exact .inl ⟨i, j, rfl, rfl, .inr (abs_lt (by rw [← e64]; exact Int.ofNat_lt.mpr hc)), q⟩
  · exact .inr ⟨i, j, rfl, rfl, wide_mul hc.1 hc.2 (by decide) (by decide) (by decide), q⟩
def fdivF : List T → Option RV := gI (fun _ j => decide (0 < j) && decide (j.natAbs < 2 ^ 9000)) fun i j => .int (i / j)
theorem vok_fdiv : VOK K (r2n (rI CDivW fun i j => .int (i / j))) fdivF := vok_gI (fun _ _ => rfl) fun i j H Q hc q => by
  simp only [Bool.and_eq_true, decide_eq_true_eq] at hc
  exact ⟨i, j, rfl, rfl, wide_div hc.1 hc.2 (by decide) (Nat.le_refl _), q⟩
def modF : List T → Option RV := gI (fun _ j => decide (0 < j)) fun i j => .int (i % j)
theorem vok_mod : VOK K (r2n (rI (fun _ j => 0 < j) fun i j => .int (i % j))) modF := vok_gI (fun _ _ => rfl) fun i j H Q hc q => ⟨i, j, rfl, rfl, by simpa using hc, q⟩
def powF : List T → Option RV := gI (fun i j => decide (0 ≤ j) && decide (j ≤ 1000000) && decide (i.natAbs < 2 ^ 64)) fun i j => .int (i ^ j.toNat)
theorem vok_pow : VOK K (r2n (rI CPow fun i j => .int (i ^ j.toNat))) powF := vok_gI (fun _ _ => rfl) fun i j H Q hc q => by
  simp only [Bool.and_eq_true, decide_eq_true_eq] at hc
  exact ⟨i, j, rfl, rfl, ⟨hc.1.1, hc.1.2, hc.2⟩, q⟩
theorem ie_bin {op : Operator} {r : R2} {f : List T → Option RV} {a b : Expr} {ga gb : S → RE} {pos : Pos} (ho : OpR X (binaryOp op) r) (hv : VOK X.K (r2n r) f) (ha : IE X W a ga) (hb : IE X W b gb) : IE X W (.BinOp a op b pos) (opE f (argsG [ga, gb])) :=
  ⟨PE.mono (pe_op ho ha.pe hb.pe) fun σ H Q h => (tA_two (op_sat hv h)).mono fun x H1 z => z.mono fun y H2 ⟨_, _, e, q⟩ => by
    simp only [List.cons.injEq, and_true] at e; obtain ⟨rfl, rfl⟩ := e; exact q⟩
theorem ie_add {a b : Expr} {ga gb : S → RE} {pos : Pos} (ha : IE X W a ga) (hb : IE X W b gb) : IE X W (.BinOp a .Add b pos) (opE addF (argsG [ga, gb])) := ie_bin op_addU vok_add ha hb
theorem ie_sub {a b : Expr} {ga gb : S → RE} {pos : Pos} (ha : IE X W a ga) (hb : IE X W b gb) : IE X W (.BinOp a .Sub b pos) (opE subF (argsG [ga, gb])) := ie_bin op_sub vok_sub ha hb
theorem ie_mul {a b : Expr} {ga gb : S → RE} {pos : Pos} (ha : IE X W a ga) (hb : IE X W b gb) : IE X W (.BinOp a .Mult b pos) (opE mulF (argsG [ga, gb])) := ie_bin op_mulU vok_mul ha hb
theorem ie_fdiv {a b : Expr} {ga gb : S → RE} {pos : Pos} (ha : IE X W a ga) (hb : IE X W b gb) : IE X W (.BinOp a .FloorDiv b pos) (opE fdivF (argsG [ga, gb])) := ie_bin op_fdivW vok_fdiv ha hb
theorem ie_mod {a b : Expr} {ga gb : S → RE} {pos : Pos} (ha : IE X W a ga) (hb : IE X W b gb) : IE X W (.BinOp a .Mod b pos) (opE modF (argsG [ga, gb])) := ie_bin op_mod vok_mod ha hb
theorem ie_pow {a b : Expr} {ga gb : S → RE} {pos : Pos} (ha : IE X W a ga) (hb : IE X W b gb) : IE X W (.BinOp a .Pow b pos) (opE powF (argsG [ga, gb])) := ie_bin op_pow vok_pow ha hb
/-! ### one argument -/
def negF : List T → Option RV
  | [.atm (.int i)] => some (.a (.int (-i)))
  | _ => none
theorem vok_neg : VOK K (r1n (rU fun i => .int (-i))) negF := by
  intro R H aus Q ok
  unfold negF
  split
  · rename_i i e
    obtain ⟨a, rfl, ea⟩ := inv1 e
    obtain rfl := invA ea
    exact ⟨rfl, fun q => ⟨_, rfl, i, rfl, q⟩⟩
  · trivial
theorem ie_neg {a : Expr} {ga : S → RE} {pos : Pos} (ha : IE X W a ga) : IE X W (.UnaryOp .USub a pos) (opE negF (argsG [ga])) :=
  ⟨PE.mono (pe_un un_neg ha.pe) fun σ H Q h => (tA_one (op_sat vok_neg h)).mono fun x H1 ⟨_, e, q⟩ => by simp only [List.cons.injEq, and_true] at e; subst e; exact q⟩
/-! ### built-ins by a call -/
theorem CallR.or {f : Value} {r r' : List V → Hp → VK → Prop} (h : CallR X f r) (h' : CallR X f r') : CallR X f (fun vs H Q => r vs H Q ∨ r' vs H Q) := by
  intro pins s σ H xs us Q I rx q
  rcases q with q | q
  · exact h pins s σ H xs us Q I rx q
  · exact h' pins s σ H xs us Q I rx q
theorem ie_callB {id : String} {r : RN} {f : List T → Option RV} {x : Str} {e : Expr} {es : List Expr} {gs : List (S → RE)} {p pos : Pos} (hc : CallR X (.builtin id) r) (hv : VOK X.K r f) (ha : IA X W (e :: es) gs) (hb : bootBuiltins x = some (.builtin id)) (hm : X.mg x = none) (hg : Gl X x := by rfl)
    (hn : x ≠ "__name__" := by decide) (hdb : (x == ("__debug__" : Str)) = false := by decide) (he : starEach (e :: es) X.env = (false, eval e X.env) :: starEach es X.env := by rfl) (hpl : (backTo pos (starEach es X.env)).any (·.1) = false := by rfl) :
    IE X W (.Call (.Name x p) (e :: es) [] pos) (opE f (argsG gs)) := ⟨PE.mono (pe_callB hc hg hm hb ha.pa hn hdb he hpl) fun σ H Q h => op_sat hv h⟩
theorem ie_callT {id : String} {r : RN} {f : List T → Option RV} {x : Str} {e : Expr} {es : List Expr} {gs : List (S → RE)} {p pos : Pos} (hc : CallR X (.type id) r) (hv : VOK X.K r f) (ha : IA X W (e :: es) gs) (hb : bootBuiltins x = some (.type id)) (hm : X.mg x = none) (hg : Gl X x := by rfl)
    (hn : x ≠ "__name__" := by decide) (hdb : (x == ("__debug__" : Str)) = false := by decide) (he : starEach (e :: es) X.env = (false, eval e X.env) :: starEach es X.env := by rfl) (hpl : (backTo pos (starEach es X.env)).any (·.1) = false := by rfl) :
    IE X W (.Call (.Name x p) (e :: es) [] pos) (opE f (argsG gs)) := ⟨PE.mono (pe_callTy hc hg hm hb ha.pa hn hdb he hpl) fun σ H Q h => op_sat hv h⟩
/-! len -/
def lenF : List T → Option RV
  | [.box _ .lst xs] => some (.a (.int xs.length))
  | [.box _ .tup xs] => some (.a (.int xs.length))
  | [.box _ .scr xs] => some (.a (.int xs.length))
  | [.box _ (.dct ks) _] => some (.a (.int ks.length))
  | [.atm (.str x)] => if x.length ≤ sizeLine then some (.a (.int x.length)) else none
  | _ => none
def rLenU (K : PySem.W.Frag) : RN := fun vs H Q => (∃ x n, vs = [x] ∧ LenV K x H n ∧ Q (.int n) H) ∨ (∃ a kvs, vs = [V.ref a] ∧ H a = some (.dK kvs) ∧ Q (.int kvs.length) H)
theorem vok_len : VOK K (rLenU K) lenF := by
  intro R H aus Q ok
  unfold lenF
  split
  · rename_i o xs e
    obtain ⟨a, rfl, ea⟩ := inv1 e
    obtain ⟨p, xs, rfl, rfl⟩ := invB ea
    exact ⟨rfl, fun q => .inl ⟨_, _, rfl, .inl ⟨_, .of (ok_list ok.1), rfl⟩, by simpa [erL_length] using q⟩⟩
  · rename_i o xs e
    obtain ⟨a, rfl, ea⟩ := inv1 e
    obtain ⟨p, xs, rfl, rfl⟩ := invB ea
    exact ⟨rfl, fun q => .inl ⟨_, _, rfl, .inr ⟨_, .of (ok_tup ok.1), rfl⟩, by simpa [erL_length] using q⟩⟩
  · rename_i o xs e
    obtain ⟨a, rfl, ea⟩ := inv1 e
    obtain ⟨p, xs, rfl, rfl⟩ := invB ea
    exact ⟨rfl, fun q => .inl ⟨_, _, rfl, .inl ⟨_, ok_scr ok.1, rfl⟩, by simpa [erL_length] using q⟩⟩
  · rename_i o ks xs e
    obtain ⟨a, rfl, ea⟩ := inv1 e
    obtain ⟨p, xs, rfl, rfl⟩ := invB ea
    obtain ⟨h1, h2⟩ := ok_dct ok.1
    refine ⟨rfl, fun q => .inr ⟨_, _, rfl, h2, ?_⟩⟩
    rw [show (ks.zip (xs.map AT.val)).length = ks.length by simp [h1]]
    exact q
  · rename_i x e
    obtain ⟨a, rfl, ea⟩ := inv1 e
    obtain rfl := invA ea
    split
    · rename_i hz
      exact ⟨rfl, fun q => .inl ⟨_, _, rfl, ⟨hz, rfl⟩, q⟩⟩
    · trivial
  · trivial
theorem ie_len {e : Expr} {g : S → RE} {p pos : Pos} (hm : X.mg "len" = none) (ha : IE X W e g) (hg : Gl X "len" := by rfl) (he : starEach [e] X.env = (false, eval e X.env) :: starEach [] X.env := by rfl) (hpl : (backTo pos (starEach [] X.env)).any (·.1) = false := by rfl) :
    IE X W (.Call (.Name "len" p) [e] [] pos) (opE lenF (argsG [g])) := ie_callB (CallR.or call_len call_lenD) vok_len (ia_cons ha ia_nil he) PySem.boot_len hm hg (by decide) (by decide) he hpl
end
end TL
namespace TL
open PySem PySem.Spec L2

/-! ## Comparisons -/
section
variable {X : Cx} {W : Wh} {K : PySem.W.Frag} {G : Gr}
theorem pc_of {op : CmpOp} {r : R2} {a b : Expr} {ta tb : TE} (ho : OpR X (compareOp op) r) (ha : PE X a ta) (hb : PE X b tb) : PC X op a b (tOp r ta tb) :=
  ⟨fun pins s σ H Q I h => binT ha hb I h fun v u s2 x y H2 I2 rx ry q => ho pins s2 σ H2 x y v u Q I2 rx ry q⟩
theorem PC.mono {op : CmpOp} {a b : Expr} {t t' : TE} (h : PC X op a b t) (m : ∀ σ H Q, t' σ H Q → t σ H Q) : PC X op a b t' := ⟨fun pins s σ H Q I q => h.run pins s σ H Q I (m σ H Q q)⟩
/-- a comparison: as a value (ie_cmp), as a test (it_cmp) -/
structure IC (X : Cx) (W : Wh) (op : CmpOp) (a b : Expr) (g : S → RE) : Prop where
  pc : PC X op a b (tE X.K W g)
theorem ic_op {op : CmpOp} {r : R2} {f : List T → Option RV} {a b : Expr} {ga gb : S → RE} (ho : OpR X (compareOp op) r) (hv : VOK X.K (r2n r) f) (ha : IE X W a ga) (hb : IE X W b gb) : IC X W op a b (opE f (argsG [ga, gb])) :=
  ⟨PC.mono (pc_of ho ha.pe hb.pe) fun σ H Q h => (tA_two (op_sat hv h)).mono fun x H1 z => z.mono fun y H2 ⟨_, _, e, q⟩ => by
    simp only [List.cons.injEq, and_true] at e; obtain ⟨rfl, rfl⟩ := e; exact q⟩
theorem ie_cmp {op : CmpOp} {a b : Expr} {g : S → RE} {pos : Pos} (h : IC X W op a b g) (h1 : behindInMarks op b = false := by first | exact nobehind _ (by decide) (by decide) | rfl) : IE X W (.Compare a [op] [b] pos) g := ⟨pe_cmp h.pc h1⟩
theorem it_cmp {op : CmpOp} {a b : Expr} {g : S → RE} {pos : Pos} (h : IC X W op a b g) (h1 : behindInMarks op b = false := by first | exact nobehind _ (by decide) (by decide) | rfl) : IT X W (.Compare a [op] [b] pos) (tstE g) :=
  ⟨PT.mono (pt_cmp h.pc h1) fun σ H Q q => tst_sat q⟩
theorem it_val {e : Expr} {g : S → RE} (h : IE X W e g) (he : ∀ whole, isTrue e X.env whole = (do let v ← whole; standAt e.pos; holding [v] (truthy v)) := by intro _; rfl) : IT X W e (tstE g) := ⟨PT.mono (pt_val h.pe he) fun σ H Q q => tst_sat q⟩
theorem it_tru {e : Expr} {g : S → RE} (h : IE X W e g) (he : ∀ whole, isTrue e X.env whole = (do let v ← whole; standAt e.pos; holding [v] (truthy v)) := by intro _; rfl) : IT X W e (truE g) := ⟨PT.mono (pt_truth h.pe he) fun σ H Q q => tru_sat q⟩

def ltF : List T → Option RV := gI (fun _ _ => true) fun i j => .bl (decide (i < j))
def leF : List T → Option RV := gI (fun _ _ => true) fun i j => .bl (decide (i ≤ j))
def gtF : List T → Option RV := gI (fun _ _ => true) fun i j => .bl (decide (j < i))
def geF : List T → Option RV := gI (fun _ _ => true) fun i j => .bl (decide (j ≤ i))
theorem vok_cmpI {g : Int → Int → V} (ha : ∀ i j, isAtm (g i j) = true) : VOK K (r2n (rI0 g)) (gI (fun _ _ => true) g) := vok_gI ha fun i j H Q _ q => ⟨i, j, rfl, rfl, q⟩
variable {a b : Expr} {ga gb : S → RE}
theorem ic_lt (ha : IE X W a ga) (hb : IE X W b gb) : IC X W .Lt a b (opE ltF (argsG [ga, gb])) := ic_op op_lt (vok_cmpI fun _ _ => rfl) ha hb
theorem ic_le (ha : IE X W a ga) (hb : IE X W b gb) : IC X W .LtE a b (opE leF (argsG [ga, gb])) := ic_op op_le (vok_cmpI fun _ _ => rfl) ha hb
theorem ic_gt (ha : IE X W a ga) (hb : IE X W b gb) : IC X W .Gt a b (opE gtF (argsG [ga, gb])) := ic_op op_gt (vok_cmpI fun _ _ => rfl) ha hb
theorem ic_ge (ha : IE X W a ga) (hb : IE X W b gb) : IC X W .GtE a b (opE geF (argsG [ga, gb])) := ic_op op_ge (vok_cmpI fun _ _ => rfl) ha hb

/-! ### deep equality -/
mutual
def T.dat : T → PyData
  | .atm .non => .none
  | .atm (.bl b) => .bool b
  | .atm (.int i) => .int i
  | .atm (.str x) => .str x
  | .atm _ => .none
  | .box _ .tup xs => .tuple (T.datL xs)
  | .box _ _ xs => .list (T.datL xs)
def T.datL : List T → List PyData
  | [] => []
  | x :: xs => x.dat :: T.datL xs
end
mutual
/-- lists, tuples, of None, truths, numbers, texts -/
def T.good : T → Bool
  | .atm .non => true
  | .atm (.bl _) => true
  | .atm (.int _) => true
  | .atm (.str _) => true
  | .atm _ => false
  | .box _ .tup xs => T.goodL xs
  | .box _ .lst xs => T.goodL xs
  | .box _ .scr xs => T.goodL xs
  | .box _ _ _ => false
def T.goodL : List T → Bool
  | [] => true
  | x :: xs => x.good && T.goodL xs
end
mutual
theorem dp_of {R : Addr → Prop} {H : Hp} : ∀ {au : AT}, au.ok K R H → au.er.good = true → Dp K H au.val au.er.dat
  | .atm v, _, h => by
    cases v with
    | non => exact .non
    | bl b => exact .bl b
    | int i => exact .int i
    | str x => exact .str x
    | _ => simp [AT.er, T.good] at h
  | .box o .lst a xs, ok, h => by
    simp only [AT.er, T.good] at h
    exact .lst (.of (ok_list ok)) (dpL_of ok.2.1 h)
  | .box o .tup a xs, ok, h => by
    simp only [AT.er, T.good] at h
    exact .tup (.of (ok_tup ok)) (dpL_of ok.2.1 h)
  | .box o .scr a xs, ok, h => by
    simp only [AT.er, T.good] at h
    exact .lst (ok_scr ok) (dpL_of ok.2.1 h)
  | .box o (.dct ks) a xs, ok, h => by simp [AT.er, T.good] at h
  | .box o (.dtp ks) a xs, ok, h => by simp [AT.er, T.good] at h
  | .box o (.ins C fs) a xs, ok, h => by simp [AT.er, T.good] at h
  | .box o (.exd fs) a xs, ok, h => by simp [AT.er, T.good] at h
theorem dpL_of {R : Addr → Prop} {H : Hp} : ∀ {xs : List AT}, AT.okL K R H xs → T.goodL (AT.erL xs) = true → DpAll K H (xs.map AT.val) (T.datL (AT.erL xs))
  | [], _, _ => .nil
  | x :: xs, ok, h => by
    simp only [AT.erL, T.goodL, Bool.and_eq_true] at h
    exact .cons (dp_of ok.1 h.1) (dpL_of ok.2 h.2)
end
def T.fit (t : T) : Bool := t.good && SeqAt.shaped t.dat
def eqF (neg : Bool) : List T → Option RV
  | [x, y] => if x.fit = true ∧ y.fit = true then some (.a (.bl (if neg = true then !PyData.eqv x.dat y.dat else PyData.eqv x.dat y.dat))) else none
  | _ => none
theorem vok_eq : VOK K (r2n (rEqD K)) (eqF false) := by
  intro R H aus Q ok
  unfold eqF
  split
  · rename_i x y e
    obtain ⟨a, b, rfl, rfl, rfl⟩ := inv2 e
    split
    · rename_i h
      simp only [T.fit, Bool.and_eq_true] at h
      exact ⟨rfl, fun q => ⟨_, _, rfl, _, _, dp_of ok.1 h.1.1, dp_of ok.2.1 h.2.1, h.1.2, h.2.2, by simpa using q⟩⟩
    · trivial
  · trivial
theorem vok_ne : VOK K (r2n (rNeD K)) (eqF true) := by
  intro R H aus Q ok
  unfold eqF
  split
  · rename_i x y e
    obtain ⟨a, b, rfl, rfl, rfl⟩ := inv2 e
    split
    · rename_i h
      simp only [T.fit, Bool.and_eq_true] at h
      exact ⟨rfl, fun q => ⟨_, _, rfl, _, _, dp_of ok.1 h.1.1, dp_of ok.2.1 h.2.1, h.1.2, h.2.2, by simpa using q⟩⟩
    · trivial
  · trivial
theorem ic_eq (hu : X.A.units + 64 < cLine) (ha : IE X W a ga) (hb : IE X W b gb) : IC X W .Eq a b (opE (eqF false) (argsG [ga, gb])) := ic_op (op_eqD hu) vok_eq ha hb
theorem ic_ne (hu : X.A.units + 64 < cLine) (ha : IE X W a ga) (hb : IE X W b gb) : IC X W .NotEq a b (opE (eqF true) (argsG [ga, gb])) := ic_op (op_neD hu) vok_ne ha hb
/-! ### is None -/
def isNF (neg : Bool) : List T → Option RV
  | [x, .atm .non] => match x with
    | .atm v => some (.a (.bl (if neg = true then !decide (v = .non) else decide (v = .non))))
    | .box _ _ _ => some (.a (.bl neg))
  | _ => none
theorem vok_isN : VOK K (r2n fun x y H Q => y = .non ∧ Q (.bl (decide (x = .non))) H) (isNF false) := by
  intro R H aus Q ok
  unfold isNF
  split
  · rename_i x e
    obtain ⟨a, b, rfl, rfl, eb⟩ := inv2 e
    obtain rfl := invA eb
    cases a with
    | atm v => exact ⟨rfl, fun q => ⟨_, _, rfl, rfl, by rw [if_neg (by decide)] at q; exact q⟩⟩
    | box o k p xs => exact ⟨rfl, fun q => ⟨_, _, rfl, rfl, by simpa [AT.val] using q⟩⟩
  · trivial
theorem vok_notN : VOK K (r2n fun x y H Q => y = .non ∧ Q (.bl (!decide (x = .non))) H) (isNF true) := by
  intro R H aus Q ok
  unfold isNF
  split
  · rename_i x e
    obtain ⟨a, b, rfl, rfl, eb⟩ := inv2 e
    obtain rfl := invA eb
    cases a with
    | atm v => exact ⟨rfl, fun q => ⟨_, _, rfl, rfl, by rw [if_pos rfl] at q; exact q⟩⟩
    | box o k p xs => exact ⟨rfl, fun q => ⟨_, _, rfl, rfl, by simpa [AT.val] using q⟩⟩
  · trivial
theorem ic_is (ha : IE X W a ga) (hb : IE X W b gb) : IC X W .Is a b (opE (isNF false) (argsG [ga, gb])) := ic_op op_isN vok_isN ha hb
theorem ic_isnot (ha : IE X W a ga) (hb : IE X W b gb) : IC X W .IsNot a b (opE (isNF true) (argsG [ga, gb])) := ic_op op_notN vok_notN ha hb
/-! ### in: a list (deep), a tuple of flat things, a dict, a sign in a text -/
def T.key : T → Option Key
  | .atm (.int i) => some (.inl i)
  | .atm (.str x) => some (.inr x)
  | _ => none
def T.keys : List T → Option (List Key)
  | [] => some []
  | x :: xs => match x.key, T.keys xs with
    | some k, some ks => some (k :: ks)
    | _, _ => none
theorem key_of {au : AT} {k : Key} (h : au.er.key = some k) : au.val = kV k := by
  cases au with
  | atm v => cases v <;> simp [AT.er, T.key] at h <;> subst h <;> rfl
  | box o k p xs => simp [AT.er, T.key] at h
theorem keys_of : ∀ {xs : List AT} {ks : List Key}, T.keys (AT.erL xs) = some ks → xs.map AT.val = ks.map kV
  | [], ks, h => by simp only [AT.erL, T.keys, Option.some.injEq] at h; subst h; rfl
  | x :: xs, ks, h => by
    simp only [AT.erL, T.keys] at h
    split at h
    · rename_i k ks' e1 e2
      simp only [Option.some.injEq] at h; subst h
      simp only [List.map_cons, key_of e1, keys_of e2]
    · cases h
def flatT : T → Option V
  | .atm v => if flatV v = true then some v else none
  | _ => none
def flatTs : List T → Option (List V)
  | [] => some []
  | x :: xs => match flatT x, flatTs xs with
    | some v, some vs => some (v :: vs)
    | _, _ => none
theorem flatT_of {au : AT} {v : V} (h : flatT au.er = some v) : au.val = v ∧ flatV v = true := by
  cases au with
  | atm w => simp only [AT.er, flatT] at h; split at h <;> simp_all [AT.val]
  | box o k p xs => simp [AT.er, flatT] at h
theorem flatTs_of : ∀ {xs : List AT} {vs : List V}, flatTs (AT.erL xs) = some vs → xs.map AT.val = vs ∧ vs.all flatV = true
  | [], vs, h => by simp only [AT.erL, flatTs, Option.some.injEq] at h; subst h; exact ⟨rfl, rfl⟩
  | x :: xs, vs, h => by
    simp only [AT.erL, flatTs] at h
    split at h
    · rename_i v vs' e1 e2
      simp only [Option.some.injEq] at h; subst h
      obtain ⟨a1, a2⟩ := flatT_of e1
      obtain ⟨b1, b2⟩ := flatTs_of e2
      simp [a1, a2, b1, b2]
    · cases h
/-- a tuple's items as a key -/
def T.tkey : T → Option (List Key)
  | .box _ .tup xs => T.keys xs
  | _ => none
def hasK {κ : Type} [DecidableEq κ] (ks : List κ) (k : κ) : Bool := ks.any fun x => decide (x = k)
def inF (neg : Bool) : List T → Option RV
  | [x, .box _ .lst ys] => if x.fit = true ∧ (T.box true .lst ys).fit = true then some (.a (.bl (neg ^^ (T.datL ys).any fun z => PyData.eqv z x.dat))) else none
  | [x, .box _ .tup ys] => match flatT x, flatTs ys with
    | some v, some vs => some (.a (.bl (neg ^^ inV v vs)))
    | _, _ => none
  | [x, .box _ (.dct ks) _] => match x.key with
    | some k => some (.a (.bl (neg ^^ hasK ks k)))
    | none => none
  | [x, .box _ (.dtp ks) _] => match x.tkey with
    | some k => some (.a (.bl (neg ^^ hasK ks k)))
    | none => none
  | [.atm (.str x), .atm (.str z)] => match x.cps.toList with
    | [c] => some (.a (.bl (neg ^^ decide (c ∈ z.cps.toList))))
    | _ => none
  | _ => none
def rInDct : R2 := fun x y H Q => ∃ a o, y = .ref a ∧ DGet H a x o ∧ Q (.bl o.isSome) H
def rNotInDct : R2 := fun x y H Q => ∃ a o, y = .ref a ∧ DGet H a x o ∧ Q (.bl (!o.isSome)) H
theorem op_inDct (hu : X.A.units + 1 < cLine) : OpR X (compareOp .In) rInDct := by
  intro pins s σ H x y v u Q I rx ry ⟨a, o, ey, g, q⟩
  subst ey
  obtain rfl : u = Value.ref a := ry
  exact d_in hu I g rx fun s' I' => ⟨.bl o.isSome, H, I', rfl, q⟩
theorem op_notInDct (hu : X.A.units + 1 < cLine) : OpR X (compareOp .NotIn) rNotInDct := by
  intro pins s σ H x y v u Q I rx ry ⟨a, o, ey, g, q⟩
  subst ey
  obtain rfl : u = Value.ref a := ry
  exact d_notIn hu I g rx fun s' I' => ⟨.bl (!o.isSome), H, I', rfl, q⟩
def rInSign : R2 := fun x y H Q => ∃ (c : Nat) (z : Str), x = .str ⟨#[c]⟩ ∧ y = .str z ∧ Q (.bl (decide (c ∈ z.cps.toList))) H
def rNotInSign : R2 := fun x y H Q => ∃ (c : Nat) (z : Str), x = .str ⟨#[c]⟩ ∧ y = .str z ∧ Q (.bl (!decide (c ∈ z.cps.toList))) H
def rInU (K : PySem.W.Frag) : R2 := fun x y H Q => rInD K x y H Q ∨ rIn K false x y H Q ∨ rInDct x y H Q ∨ rInSign x y H Q
def rNotInU (K : PySem.W.Frag) : R2 := fun x y H Q => rNotInD K x y H Q ∨ rIn K true x y H Q ∨ rNotInDct x y H Q ∨ rNotInSign x y H Q
theorem op_inU (hu : X.A.units + 65 < cLine) : OpR X (compareOp .In) (rInU X.K) := OpR.or (op_inD hu) (OpR.or op_in_seq (OpR.or (op_inDct (by omega)) op_in_sign))
theorem op_notInU (hu : X.A.units + 65 < cLine) : OpR X (compareOp .NotIn) (rNotInU X.K) := OpR.or (op_notInD hu) (OpR.or op_notIn_seq (OpR.or (op_notInDct (by omega)) op_notIn_sign))
theorem valV_isSome {κ : Type} [DecidableEq κ] : ∀ {ks : List κ} {vs : List V} {k : κ}, ks.length = vs.length → (valV (ks.zip vs) k).isSome = hasK ks k
  | [], vs, k, h => by simp [valV, hasK]
  | x :: ks, [], k, h => by simp at h
  | x :: ks, v :: vs, k, h => by
    have ih := valV_isSome (ks := ks) (vs := vs) (k := k) (by simpa using h)
    by_cases e : x = k
    · subst e; simp [valV, hasK]
    · rw [List.zip_cons_cons, valV_neg (p := (x, v)) e, ih]
      simp [hasK, e]
theorem str_one {x : Str} {c : Nat} (h : x.cps.toList = [c]) : x = ⟨#[c]⟩ := by
  obtain ⟨a⟩ := x
  have : a = #[c] := by rw [← Array.toList_inj]; simpa using h
  rw [this]
theorem vok_in : VOK K (r2n (rInU K)) (inF false) := by
  intro R H aus Q ok
  unfold inF
  split
  · rename_i x o ys e
    obtain ⟨a, b, rfl, rfl, eb⟩ := inv2 e
    obtain ⟨p, ys, rfl, rfl⟩ := invB eb
    split
    · rename_i h
      simp only [T.fit, Bool.and_eq_true] at h
      refine ⟨rfl, fun q => ⟨_, _, rfl, .inl ⟨a.er.dat, T.datL (AT.erL ys), dp_of ok.1 h.1.1, ?_, h.1.2, by simpa [T.dat] using h.2.2, by simpa using q⟩⟩⟩
      have := dp_of ok.2.1 (by simpa [AT.er, T.good] using h.2.1)
      simpa [AT.er, T.dat] using this
    · trivial
  · rename_i x o ys e
    obtain ⟨a, b, rfl, rfl, eb⟩ := inv2 e
    obtain ⟨p, ys, rfl, rfl⟩ := invB eb
    split
    · rename_i v vs e1 e2
      obtain ⟨a1, a2⟩ := flatT_of e1
      obtain ⟨b1, b2⟩ := flatTs_of e2
      refine ⟨rfl, fun q => ⟨_, _, rfl, .inr (.inl ⟨p, vs, rfl, .inr (.of (by rw [← b1]; exact ok_tup ok.2.1)), by rw [a1]; exact a2, b2, ?_⟩)⟩⟩
      rw [a1]; simpa using q
    · trivial
  · rename_i x o ks ys e
    obtain ⟨a, b, rfl, rfl, eb⟩ := inv2 e
    obtain ⟨p, ys, rfl, rfl⟩ := invB eb
    split
    · rename_i k ek
      obtain ⟨h1, h2⟩ := ok_dct ok.2.1
      refine ⟨rfl, fun q => ⟨_, _, rfl, .inr (.inr (.inl ⟨p, _, rfl, by rw [key_of ek]; exact .k h2, ?_⟩))⟩⟩
      rw [valV_isSome (by simpa using h1)]; simpa using q
    · trivial
  · rename_i x o ks ys e
    obtain ⟨a, b, rfl, rfl, eb⟩ := inv2 e
    obtain ⟨p, ys, rfl, rfl⟩ := invB eb
    split
    · rename_i k ek
      obtain ⟨h1, h2⟩ := ok_dtp ok.2.1
      cases a with
      | atm v => simp [AT.er, T.tkey] at ek
      | box o2 k2 p2 xs =>
        cases k2 <;> simp only [AT.er, T.tkey, reduceCtorEq] at ek
        have kv := keys_of ek
        refine ⟨rfl, fun q => ⟨_, _, rfl, .inr (.inr (.inl ⟨p, _, rfl, .t h2 (by rw [← kv]; exact ok_tup ok.1), ?_⟩))⟩⟩
        rw [valV_isSome (by simpa using h1)]; simpa using q
    · trivial
  · rename_i x z e
    obtain ⟨a, b, rfl, ea, eb⟩ := inv2 e
    obtain rfl := invA ea
    obtain rfl := invA eb
    split
    · rename_i c ec
      refine ⟨rfl, fun q => ⟨_, _, rfl, .inr (.inr (.inr ⟨c, z, by rw [← str_one ec]; rfl, rfl, by simpa using q⟩))⟩⟩
    · trivial
  · trivial
theorem vok_notIn : VOK K (r2n (rNotInU K)) (inF true) := by
  intro R H aus Q ok
  unfold inF
  split
  · rename_i x o ys e
    obtain ⟨a, b, rfl, rfl, eb⟩ := inv2 e
    obtain ⟨p, ys, rfl, rfl⟩ := invB eb
    split
    · rename_i h
      simp only [T.fit, Bool.and_eq_true] at h
      refine ⟨rfl, fun q => ⟨_, _, rfl, .inl ⟨a.er.dat, T.datL (AT.erL ys), dp_of ok.1 h.1.1, ?_, h.1.2, by simpa [T.dat] using h.2.2, by simpa using q⟩⟩⟩
      have := dp_of ok.2.1 (by simpa [AT.er, T.good] using h.2.1)
      simpa [AT.er, T.dat] using this
    · trivial
  · rename_i x o ys e
    obtain ⟨a, b, rfl, rfl, eb⟩ := inv2 e
    obtain ⟨p, ys, rfl, rfl⟩ := invB eb
    split
    · rename_i v vs e1 e2
      obtain ⟨a1, a2⟩ := flatT_of e1
      obtain ⟨b1, b2⟩ := flatTs_of e2
      refine ⟨rfl, fun q => ⟨_, _, rfl, .inr (.inl ⟨p, vs, rfl, .inr (.of (by rw [← b1]; exact ok_tup ok.2.1)), by rw [a1]; exact a2, b2, ?_⟩)⟩⟩
      rw [a1]; simpa using q
    · trivial
  · rename_i x o ks ys e
    obtain ⟨a, b, rfl, rfl, eb⟩ := inv2 e
    obtain ⟨p, ys, rfl, rfl⟩ := invB eb
    split
    · rename_i k ek
      obtain ⟨h1, h2⟩ := ok_dct ok.2.1
      refine ⟨rfl, fun q => ⟨_, _, rfl, .inr (.inr (.inl ⟨p, _, rfl, by rw [key_of ek]; exact .k h2, ?_⟩))⟩⟩
      rw [valV_isSome (by simpa using h1)]; simpa using q
    · trivial
  · rename_i x o ks ys e
    obtain ⟨a, b, rfl, rfl, eb⟩ := inv2 e
    obtain ⟨p, ys, rfl, rfl⟩ := invB eb
    split
    · rename_i k ek
      obtain ⟨h1, h2⟩ := ok_dtp ok.2.1
      cases a with
      | atm v => simp [AT.er, T.tkey] at ek
      | box o2 k2 p2 xs =>
        cases k2 <;> simp only [AT.er, T.tkey, reduceCtorEq] at ek
        have kv := keys_of ek
        refine ⟨rfl, fun q => ⟨_, _, rfl, .inr (.inr (.inl ⟨p, _, rfl, .t h2 (by rw [← kv]; exact ok_tup ok.1), ?_⟩))⟩⟩
        rw [valV_isSome (by simpa using h1)]; simpa using q
    · trivial
  · rename_i x z e
    obtain ⟨a, b, rfl, ea, eb⟩ := inv2 e
    obtain rfl := invA ea
    obtain rfl := invA eb
    split
    · rename_i c ec
      refine ⟨rfl, fun q => ⟨_, _, rfl, .inr (.inr (.inr ⟨c, z, by rw [← str_one ec]; rfl, rfl, by simpa using q⟩))⟩⟩
    · trivial
  · trivial
theorem ic_in (hu : X.A.units + 65 < cLine) (ha : IE X W a ga) (hb : IE X W b gb) : IC X W .In a b (opE (inF false) (argsG [ga, gb])) := ic_op (op_inU hu) vok_in ha hb
theorem ic_notin (hu : X.A.units + 65 < cLine) (ha : IE X W a ga) (hb : IE X W b gb) : IC X W .NotIn a b (opE (inF true) (argsG [ga, gb])) := ic_op (op_notInU hu) vok_notIn ha hb
/-! ### tests put together -/
def notT (g : S → RT) (s : S) : RT := match g s with
  | .ok b m s1 => .ok (!b) m s1
  | r => r
def andT (g h : S → RT) (s : S) : RT := match g s with
  | .ok true m s1 => match h s1 with
    | .ok b m' s2 => .ok b (m.seq m') s2
    | r => r
  | r => r
def orT (g h : S → RT) (s : S) : RT := match g s with
  | .ok false m s1 => match h s1 with
    | .ok b m' s2 => .ok b (m.seq m') s2
    | r => r
  | r => r
structure IW (X : Cx) (W : Wh) (e : Expr) (g : S → RT) : Prop where
  pw : PW X e (tT X.K W g)
theorem PW.mono {e : Expr} {t t' : TT} (h : PW X e t) (m : ∀ σ H Q, t' σ H Q → t σ H Q) : PW X e t' := ⟨fun wh pins s σ H Q I q => h.run wh pins s σ H Q I (m σ H Q q)⟩
theorem IW.it {e : Expr} {g : S → RT} (h : IW X W e g) : IT X W e g := ⟨h.pw.pt⟩
variable {g h : S → RT} {pos : Pos} {rest : List Expr}
theorem it_not (ha : IT X W a g) : IT X W (.UnaryOp .Not a pos) (notT g) := by
  refine ⟨PT.mono (pt_not ha.pt) fun σ H Q q => ?_⟩
  obtain ⟨A, Z, R, r, s⟩ := q
  refine ⟨A, Z, R, r, ?_⟩
  simp only [notT] at s
  cases e : g A.er with
  | fail => rw [e] at s; exact s
  | ex C fs s1 => rw [e] at s; exact s
  | ok b m s1 => rw [e] at s; exact s
theorem iw_and1 (ha : IT X W a g) : IW X W (.BoolOp .And [a] pos) g := ⟨pw_and1 ha.pt⟩
theorem iw_or1 (ha : IT X W a g) : IW X W (.BoolOp .Or [a] pos) g := ⟨pw_or1 ha.pt⟩
theorem iw_and (ha : IT X W a g) (hb : IW X W (.BoolOp .And (b :: rest) pos) h) : IW X W (.BoolOp .And (a :: b :: rest) pos) (andT g h) := by
  refine ⟨PW.mono (pw_and ha.pt hb.pw) fun σ H Q q => ?_⟩
  obtain ⟨A, Z, R, r, s⟩ := q
  refine ⟨A, Z, R, r, ?_⟩
  simp only [andT] at s
  cases e : g A.er with
  | fail => rw [e] at s; exact s
  | ex C fs s1 => rw [e] at s; exact s
  | ok b m s1 =>
    rw [e] at s
    intro A' R' H' ea k r'
    cases b with
    | false => rw [if_neg (by decide)]; exact s A' R' H' ea k r'
    | true =>
      rw [if_pos rfl]
      refine ⟨A', Z, R', r', ?_⟩
      rw [ea]
      simp only at s
      cases e2 : h s1 with
      | fail => rw [e2] at s; exact s
      | ex C fs s1 => rw [e2] at s; exact SatX.of k s
      | ok b m' s2 => rw [e2] at s; exact fun A2 R2 H2 e3 k2 r2 => s A2 R2 H2 e3 (k.trans k2) r2
theorem iw_or (ha : IT X W a g) (hb : IW X W (.BoolOp .Or (b :: rest) pos) h) : IW X W (.BoolOp .Or (a :: b :: rest) pos) (orT g h) := by
  refine ⟨PW.mono (pw_or ha.pt hb.pw) fun σ H Q q => ?_⟩
  obtain ⟨A, Z, R, r, s⟩ := q
  refine ⟨A, Z, R, r, ?_⟩
  simp only [orT] at s
  cases e : g A.er with
  | fail => rw [e] at s; exact s
  | ex C fs s1 => rw [e] at s; exact s
  | ok b m s1 =>
    rw [e] at s
    intro A' R' H' ea k r'
    cases b with
    | true => rw [if_pos rfl]; exact s A' R' H' ea k r'
    | false =>
      rw [if_neg (by decide)]
      refine ⟨A', Z, R', r', ?_⟩
      rw [ea]
      simp only at s
      cases e2 : h s1 with
      | fail => rw [e2] at s; exact s
      | ex C fs s1 => rw [e2] at s; exact SatX.of k s
      | ok b m' s2 => rw [e2] at s; exact fun A2 R2 H2 e3 k2 r2 => s A2 R2 H2 e3 (k.trans k2) r2
/-! .. as values: all but the last one truths -/
def notE (g : S → RE) (s : S) : RE := match tstE g s with
  | .ok b m s1 => .ok (.v (.atm (.bl (!b)))) m s1
  | .ex C fs s' => .ex C fs s'
  | .fail => .fail
def andE (g : S → RE) (h : S → RE) (s : S) : RE := match tstE g s with
  | .ok true m s1 => match h s1 with
    | .ok e m' s2 => .ok e (m.seq m') s2
    | r => r
  | .ok false m s1 => .ok (.v (.atm (.bl false))) m s1
  | .ex C fs s' => .ex C fs s'
  | .fail => .fail
def orE (g : S → RE) (h : S → RE) (s : S) : RE := match tstE g s with
  | .ok false m s1 => match h s1 with
    | .ok e m' s2 => .ok e (m.seq m') s2
    | r => r
  | .ok true m s1 => .ok (.v (.atm (.bl true))) m s1
  | .ex C fs s' => .ex C fs s'
  | .fail => .fail
/-- g tells a test; behind it r goes on -/
theorem tst_go {g : S → RE} {A : AS} {Z : List AT} {R : Addr → Prop} {σ : St} {H : Hp} {Q : Bool → Hp → Prop} (r : Rel K W.G A Z R σ H) (s : SatT K W A Z σ Q (tstE g A.er)) : tE K W g σ H fun x H1 => ∃ c, x = .bl c ∧ Q c H1 := tst_sat ⟨A, Z, R, r, s⟩
theorem SatE.seq {A A' : AS} {Z : List AT} {σ : St} {Q : VK} {e : Ev} {m m' : Md} {s : S} (k : Keep m A A') (h : SatE K W A Z σ Q (.ok e (m.seq m') s)) : SatE K W A' Z σ Q (.ok e m' s) := by
  cases e with
  | v t => exact fun A2 R2 H2 au e2 k2 et r2 => h A2 R2 H2 au e2 (k.trans k2) et r2
  | p r q => exact fun A2 R2 H2 au e2 k2 et r2 => h A2 R2 H2 au e2 (k.trans k2) et r2
theorem ie_not {ga : S → RE} (ha : IE X W a ga) : IE X W (.UnaryOp .Not a pos) (notE ga) := by
  refine ⟨PE.mono (pe_not ha.pe) fun σ H Q q => ?_⟩
  obtain ⟨A, Z, R, r, s⟩ := q
  refine tst_go r (W := W) (Q := fun c H1 => Q (.bl (!c)) H1) ?_
  simp only [notE] at s
  cases e : tstE ga A.er with
  | fail => rw [e] at s; exact s
  | ex C fs s1 => rw [e] at s; exact s
  | ok b m s1 => rw [e] at s; exact fun A' R' H' ea k r' => s A' R' H' (.atm (.bl !b)) ea k rfl (r'.atm rfl)
theorem ie_and1 {ga : S → RE} {op} (ha : IE X W a ga) : IE X W (.BoolOp op [a] pos) ga := ⟨pe_one ha.pe⟩
theorem ie_and {ga gb : S → RE} (ha : IE X W a ga) (hb : IE X W (.BoolOp .And (b :: rest) pos) gb) : IE X W (.BoolOp .And (a :: b :: rest) pos) (andE ga gb) := by
  refine ⟨PE.mono (pe_and ha.pe hb.pe) fun σ H Q q => ?_⟩
  obtain ⟨A, Z, R, r, s⟩ := q
  refine tst_go r (W := W) (Q := fun c H1 => if c = true then tE X.K W gb σ H1 Q else Q (.bl false) H1) ?_
  simp only [andE] at s
  cases e : tstE ga A.er with
  | fail => rw [e] at s; exact s
  | ex C fs s1 => rw [e] at s; exact s
  | ok b m s1 =>
    rw [e] at s
    intro A' R' H' ea k r'
    cases b with
    | false => rw [if_neg (by decide)]; exact s A' R' H' (.atm (.bl false)) ea k rfl (r'.atm rfl)
    | true =>
      rw [if_pos rfl]
      refine ⟨A', Z, R', r', ?_⟩
      rw [ea]
      simp only at s
      cases e2 : gb s1 with
      | fail => rw [e2] at s; exact s
      | ex C fs s1 => rw [e2] at s; exact SatX.of k s
      | ok b m' s2 => rw [e2] at s; exact s.seq k
theorem ie_or {ga gb : S → RE} (ha : IE X W a ga) (hb : IE X W (.BoolOp .Or (b :: rest) pos) gb) : IE X W (.BoolOp .Or (a :: b :: rest) pos) (orE ga gb) := by
  refine ⟨PE.mono (pe_or ha.pe hb.pe) fun σ H Q q => ?_⟩
  obtain ⟨A, Z, R, r, s⟩ := q
  refine tst_go r (W := W) (Q := fun c H1 => if c = true then Q (.bl true) H1 else tE X.K W gb σ H1 Q) ?_
  simp only [orE] at s
  cases e : tstE ga A.er with
  | fail => rw [e] at s; exact s
  | ex C fs s1 => rw [e] at s; exact s
  | ok b m s1 =>
    rw [e] at s
    intro A' R' H' ea k r'
    cases b with
    | true => rw [if_pos rfl]; exact s A' R' H' (.atm (.bl true)) ea k rfl (r'.atm rfl)
    | false =>
      rw [if_neg (by decide)]
      refine ⟨A', Z, R', r', ?_⟩
      rw [ea]
      simp only at s
      cases e2 : gb s1 with
      | fail => rw [e2] at s; exact s
      | ex C fs s1 => rw [e2] at s; exact SatX.of k s
      | ok b m' s2 => rw [e2] at s; exact s.seq k
/-- a if t else b -/
def ifE (t : S → RT) (ga gb : S → RE) (s : S) : RE := match t s with
  | .ok b m s1 => match (if b = true then ga s1 else gb s1) with
    | .ok e m' s2 => .ok e (m.seq m') s2
    | r => r
  | .ex C fs s' => .ex C fs s'
  | .fail => .fail
theorem ie_if {c : Expr} {t : S → RT} {ga gb : S → RE} (hc : IT X W c t) (ha : IE X W a ga) (hb : IE X W b gb) : IE X W (.IfExp c a b pos) (ifE t ga gb) := by
  refine ⟨PE.mono (pe_ifExp hc.pt ha.pe hb.pe) fun σ H Q q => ?_⟩
  obtain ⟨A, Z, R, r, s⟩ := q
  refine ⟨A, Z, R, r, ?_⟩
  simp only [ifE] at s
  cases e : t A.er with
  | fail => rw [e] at s; exact s
  | ex C fs s1 => rw [e] at s; exact s
  | ok b m s1 =>
    rw [e] at s
    intro A' R' H' ea k r'
    cases b with
    | true =>
      rw [if_pos rfl]
      refine ⟨A', Z, R', r', ?_⟩
      rw [ea]
      simp only [if_true] at s
      cases e2 : ga s1 with
      | fail => rw [e2] at s; exact s
      | ex C fs s1 => rw [e2] at s; exact SatX.of k s
      | ok b m' s2 => rw [e2] at s; exact s.seq k
    | false =>
      rw [if_neg (by decide)]
      refine ⟨A', Z, R', r', ?_⟩
      rw [ea]
      simp only [Bool.false_eq_true, if_false] at s
      cases e2 : gb s1 with
      | fail => rw [e2] at s; exact s
      | ex C fs s1 => rw [e2] at s; exact SatX.of k s
      | ok b m' s2 => rw [e2] at s; exact s.seq k
end
end TL
namespace TL
open PySem PySem.Spec L2

/-! ## Subscripts, slices, displays -/
section
variable {X : Cx} {W : Wh} {K : PySem.W.Frag} {G : Gr}
/-- what two arguments tell, at the end -/
theorem two_at {A : AS} {e1 e2 : Ev} {aus tz : List AT} {t1 t2 : T} (h : ArgsAt A [e1, e2] aus tz) (v1 : view A.er e1 = some t1) (v2 : view A.er e2 = some t2) :
    ∃ a1 a2, aus = [a1, a2] ∧ a1.er = t1 ∧ a2.er = t2 ∧ (∀ r q, e1 = .p r q → A.ga r q = some a1) ∧ (∀ t, e1 = .v t → ∃ l, tz = a1 :: l) := by
  have hv : views A.er [e1, e2] = some [t1, t2] := by simp [views, v1, v2]
  have he := views_at h hv
  obtain ⟨a1, a2, rfl, h1, h2⟩ := inv2 he
  refine ⟨a1, a2, rfl, h1, h2, fun r q e => ?_, fun t e => ?_⟩
  · subst e
    obtain ⟨au, aus', e, g, _⟩ := h
    cases e; exact g
  · subst e
    obtain ⟨au, aus', tz', e, e', _, _⟩ := h
    cases e; exact ⟨tz', e'⟩
def idxK {κ : Type} [DecidableEq κ] : List κ → κ → Option Nat
  | [], _ => none
  | x :: ks, k => if x = k then some 0 else (idxK ks k).map (· + 1)
theorem valV_idx {κ : Type} [DecidableEq κ] : ∀ {ks : List κ} {vs : List V} {k : κ} {j : Nat} {v : V}, idxK ks k = some j → vs[j]? = some v → valV (ks.zip vs) k = some v
  | [], vs, k, j, v, h, _ => by simp [idxK] at h
  | x :: ks, [], k, j, v, h, e => by simp at e
  | x :: ks, y :: vs, k, j, v, h, e => by
    simp only [idxK] at h
    split at h
    · rename_i hx
      simp only [Option.some.injEq] at h; subst h
      simp only [List.getElem?_cons_zero, Option.some.injEq] at e
      rw [List.zip_cons_cons, valV_pos (p := (x, y)) hx, e]
    · rename_i hx
      cases e2 : idxK ks k with
      | none => rw [e2] at h; cases h
      | some i =>
        rw [e2] at h
        simp only [Option.map_some, Option.some.injEq] at h; subst h
        rw [List.zip_cons_cons, valV_neg (p := (x, y)) hx]
        exact valV_idx e2 (by simpa using e)
/-- the place that a subscript tells -/
def posT (k : Kd) (n : Nat) (t : T) : Option Nat := match k, t with
  | .lst, .atm (.int i) => ixN n i
  | .tup, .atm (.int i) => ixN n i
  | .scr, .atm (.int i) => ixN n i
  | .dct ks, t => match t.key with
    | some x => idxK ks x
    | none => none
  | .dtp ks, t => match t.tkey with
    | some x => idxK ks x
    | none => none
  | _, _ => none
def idxE (g : S → RA) (s : S) : RE := match g s with
  | .ok [e1, e2] m s1 => match view s1 e1, view s1 e2 with
    | some (.box o k xs), some t => match posT k xs.length t with
      | some j => match xs[j]? with
        | some c => if c.allF = true then .ok (.v c) m s1 else match e1 with
          | .v _ => .ok (.v c) m s1
          | .p r q => .ok (.p r (q ++ [j])) m s1
        | none => .fail
      | none => .fail
    | some (.atm (.str z)), some (.atm (.int i)) => match atI z.cps.toList i with
      | some c => if z.length ≤ sizeLine then .ok (.v (.atm (.str ⟨#[c]⟩))) m s1 else .fail
      | none => .fail
    | _, _ => .fail
  | .ok _ _ _ => .fail
  | .ex C fs s' => .ex C fs s'
  | .fail => .fail
def rIxDct : R2 := fun x y H Q => ∃ a v, x = .ref a ∧ DGet H a y (some v) ∧ Q v H
theorem ix_dct (hu : X.A.units + 1 < cLine) : IxR X rIxDct := by
  intro value slice pins s σ H x y v u Q I rx ry ⟨a, w, ex, g, q⟩ hs
  subst ex
  obtain rfl : v = Value.ref a := rx
  exact PyProof.Rows.tail_any (dict_typeIs I g) PySem.F.slot_dict_getitem.lookup (d_getItem hu I g ry fun w' s' I' r' => ⟨w, H, I', r', q⟩) hs
def rIxU (K : PySem.W.Frag) : R2 := fun x y H Q => rIx K x y H Q ∨ rIxDct x y H Q
theorem ix_U (hu : X.A.units + 1 < cLine) : IxR X (rIxU X.K) := IxR.or ix_seq (ix_dct hu)
/-- a child's value is what the reading tells -/
theorem pos_child {R : Addr → Prop} {H : Hp} {o : Bool} {k : Kd} {p : Addr} {xs : List AT} {b c : AT} {j : Nat} {Q : VK} (ok : (AT.box o k p xs).ok K R H) (okb : b.ok K R H) (hp : posT k xs.length b.er = some j) (hc : xs[j]? = some c) (q : Q c.val H) :
    rIxU K (.ref p) b.val H Q := by
  have hv : (xs.map AT.val)[j]? = some c.val := by rw [List.getElem?_map, hc]; rfl
  have hat : ∀ i, ixN xs.length i = some j → atI (xs.map AT.val) i = some c.val := by
    intro i e; unfold atI; rw [List.length_map, e]; exact hv
  cases k with
  | lst =>
    cases b with
    | box o2 k2 p2 ys => simp [AT.er, posT] at hp
    | atm v =>
      cases v <;> simp only [AT.er, posT, reduceCtorEq] at hp
      exact .inl (.inl ⟨p, _, _, _, rfl, rfl, .of (ok_list ok), hat _ hp, q⟩)
  | scr =>
    cases b with
    | box o2 k2 p2 ys => simp [AT.er, posT] at hp
    | atm v =>
      cases v <;> simp only [AT.er, posT, reduceCtorEq] at hp
      exact .inl (.inl ⟨p, _, _, _, rfl, rfl, ok_scr ok, hat _ hp, q⟩)
  | tup =>
    cases b with
    | box o2 k2 p2 ys => simp [AT.er, posT] at hp
    | atm v =>
      cases v <;> simp only [AT.er, posT, reduceCtorEq] at hp
      exact .inl (.inr (.inl ⟨p, _, _, _, rfl, rfl, .of (ok_tup ok), hat _ hp, q⟩))
  | dct ks =>
    simp only [posT] at hp
    split at hp
    · rename_i x ex
      obtain ⟨_, h2⟩ := ok_dct ok
      refine .inr ⟨p, c.val, rfl, ?_, q⟩
      rw [key_of ex, ← valV_idx hp hv]
      exact .k h2
    · cases hp
  | dtp ks =>
    simp only [posT] at hp
    split at hp
    · rename_i x ex
      obtain ⟨_, h2⟩ := ok_dtp ok
      cases b with
      | atm v => simp [AT.er, T.tkey] at ex
      | box o2 k2 p2 ys =>
        cases k2 <;> simp only [AT.er, T.tkey, reduceCtorEq] at ex
        refine .inr ⟨p, c.val, rfl, ?_, q⟩
        rw [← valV_idx hp hv]
        exact .t h2 (by rw [← keys_of ex]; exact ok_tup okb)
    · cases hp
  | ins C fs => simp [posT] at hp
  | exd fs => simp [posT] at hp
theorem child_cn (b : Addr) {xs : List AT} {j : Nat} {c : AT} (h : xs[j]? = some c) : c.cn b ≤ AT.cnL b xs := cnL_mem (List.mem_of_getElem? h)
theorem get_append : ∀ (q : List Nat) {t u : AT} {p : List Nat}, t.get q = some u → t.get (q ++ p) = u.get p
  | [], t, u, p, e => by simp only [AT.get, Option.some.injEq] at e; subst e; rfl
  | i :: q, .atm v, u, p, e => by simp [AT.get] at e
  | i :: q, .box o k a xs, u, p, e => by
    simp only [AT.get] at e
    split at e
    · rename_i x ex
      simp only [List.cons_append, AT.get, ex]
      exact get_append q e
    · cases e
theorem idx_sat {ga gb : S → RE} {σ : St} {H : Hp} {Q : VK} (h : tE K W (idxE (argsG [ga, gb])) σ H Q) : tE K W ga σ H fun x H1 => tE K W gb σ H1 fun y H2 => rIxU K x y H2 Q := by
  refine (tA_two (Q := fun vs H2 => ∃ x y, vs = [x, y] ∧ rIxU K x y H2 Q) ?_).mono fun x H1 z => z.mono fun y H2 ⟨_, _, e, q⟩ => by
    simp only [List.cons.injEq, and_true] at e; obtain ⟨rfl, rfl⟩ := e; exact q
  obtain ⟨A, Z, R, rel, s⟩ := h
  refine ⟨A, Z, R, rel, ?_⟩
  simp only [idxE] at s
  cases e1 : argsG [ga, gb] A.er with
  | fail => rw [e1] at s; exact s
  | ex C fs s1 => rw [e1] at s; exact s
  | ok es m s1 =>
    rw [e1] at s
    intro A' R' H' aus tz ea k at' r'
    subst ea
    match es, at', s with
    | [], _, s => exact s.elim
    | [_], _, s => exact s.elim
    | _ :: _ :: _ :: _, _, s => exact s.elim
    | [e1, e2], at', s =>
      simp only at s
      cases v1 : view A'.er e1 with
      | none => rw [v1] at s; exact s.elim
      | some t1 =>
        cases v2 : view A'.er e2 with
        | none => rw [v1, v2] at s; cases t1 with
          | atm v => cases v <;> exact s.elim
          | box _ _ _ => exact s.elim
        | some t2 =>
          rw [v1, v2] at s
          have okL := args_ok at' r'
          obtain ⟨a1, a2, rfl, ea1, ea2, hp, ht⟩ := two_at at' v1 v2
          subst ea1 ea2
          refine ⟨_, _, rfl, ?_⟩
          cases a1 with
          | atm v =>
            cases v with
            | str z =>
              cases a2 with
              | box o k p xs => exact s.elim
              | atm w =>
                cases w with
                | int i =>
                  simp only [AT.er] at s
                  cases e3 : atI z.cps.toList i with
                  | none => rw [e3] at s; exact s.elim
                  | some c =>
                    rw [e3] at s
                    simp only at s
                    by_cases hz : z.length ≤ sizeLine
                    · rw [if_pos hz] at s
                      exact .inl (.inr (.inr ⟨z, i, c, rfl, rfl, hz, e3, s A' R' H' (.atm (.str ⟨#[c]⟩)) rfl k rfl (r'.tail_of.atm rfl)⟩))
                    · rw [if_neg hz] at s; exact s.elim
                | _ => exact s.elim
            | _ => exact s.elim
          | box o kk p xs =>
            simp only [AT.er] at s
            rw [erL_length] at s
            cases e3 : posT kk xs.length a2.er with
            | none => rw [e3] at s; exact s.elim
            | some j =>
              rw [e3] at s
              simp only [erL_map, List.getElem?_map] at s
              cases e4 : xs[j]? with
              | none => rw [e4] at s; exact s.elim
              | some c =>
                rw [e4] at s
                simp only [Option.map_some] at s
                have okc := okL_iff.mp okL.1.2.1 c (List.mem_of_getElem? e4)
                refine pos_child okL.1 okL.2.1 e3 e4 ?_
                by_cases hf : c.er.allF = true
                · rw [if_pos hf] at s
                  exact s A' R' H' c rfl k rfl (r'.tail_of.dup okc hf)
                · rw [if_neg hf] at s
                  cases e1 with
                  | v t =>
                    obtain ⟨l, rfl⟩ := ht t rfl
                    refine s A' R' H' c rfl k rfl (r'.temps ⟨okc, r'.tail_of.okZ⟩ fun b => ?_)
                    have c1 := child_cn b e4
                    cases o with
                    | true => simp only [List.cons_append, AT.cnL, AT.cn, if_true, cnL_append]; omega
                    | false =>
                      have := allFL_cn b xs (okL.1.2.2 rfl)
                      simp only [List.cons_append, AT.cnL, cnL_append]; omega
                  | p r q =>
                    refine s A' R' H' c rfl k ?_ r'.tail_of
                    have g := hp r q rfl
                    simp only [SS.ga] at g ⊢
                    split at g
                    · rename_i t et
                      rw [get_append q g]
                      simp only [AT.get, e4]
                    · cases g
theorem ie_ix {a b : Expr} {ga gb : S → RE} {pos : Pos} (hu : X.A.units + 1 < cLine) (ha : IE X W a ga) (hb : IE X W b gb) (hs : PlainIx b := by exact fun _ _ => rfl) : IE X W (.Subscript a b pos) (idxE (argsG [ga, gb])) :=
  ⟨PE.mono (pe_ix (ix_U hu) ha.pe hb.pe hs) fun σ H Q h => idx_sat h⟩

/-! ### slices -/
def cutT {α : Type} (xs : List α) (lo hi : Option Int) : List α := (xs.drop (HT.sIx xs.length 0 lo)).take (HT.sIx xs.length xs.length hi - HT.sIx xs.length 0 lo)
def cutF (t : T) (lo hi : Option Int) : Option RV := match t with
  | .box _ .lst xs => some (.n .lst (cutT xs lo hi))
  | .box _ .scr xs => some (.n .lst (cutT xs lo hi))
  | .box _ .tup xs => if HT.sIx xs.length 0 lo = 0 ∧ HT.sIx xs.length xs.length hi = xs.length then none else some (.n .tup (cutT xs lo hi))
  | .atm (.str z) => if z.length ≤ sizeLine then some (.a (.str (cutS z lo hi))) else none
  | _ => none
def rSlU (K : PySem.W.Frag) : V → Option Int → Option Int → Hp → VK → Prop := fun x lo hi H Q => rSlL K x lo hi H Q ∨ rSlT K x lo hi H Q ∨ rSlS x lo hi H Q
theorem sl_U : SlR X (rSlU X.K) := SlR.or sl_list (SlR.or sl_tup sl_str)
theorem cut_ok {R : Addr → Prop} {H : Hp} {Q : VK} {au : AT} {lo hi : Option Int} (ok : au.ok K R H) : Out K R H Q (rSlU K au.val lo hi H Q) (cutF au.er lo hi) := by
  have sub : ∀ {xs : List AT}, AT.okL K R H xs → AT.okL K R H (cutT xs lo hi) := fun {xs} h => by
    rw [okL_iff] at h ⊢
    exact fun x hx => h x (List.mem_of_mem_drop (List.mem_of_mem_take hx))
  have er : ∀ xs : List AT, AT.erL (cutT xs lo hi) = cutT (AT.erL xs) lo hi := fun xs => by
    simp only [cutT, erL_map, List.map_take, List.map_drop, List.length_map]
  have vl : ∀ xs : List AT, (cutT xs lo hi).map AT.val = cutV (xs.map AT.val) lo hi := fun xs => by
    simp only [cutT, cutV, List.map_take, List.map_drop, List.length_map]
  cases au with
  | atm v =>
    cases v with
    | str z =>
      simp only [AT.er, cutF]
      by_cases hz : z.length ≤ sizeLine
      · rw [if_pos hz]; exact ⟨rfl, fun q => .inr (.inr ⟨_, rfl, hz, q⟩)⟩
      · rw [if_neg hz]; trivial
    | _ => trivial
  | box o k p xs =>
    cases k <;> simp only [AT.er, cutF, Out]
    · exact ⟨cutT xs lo hi, er xs, sub ok.2.1, trivial, fun h => .inl ⟨p, _, rfl, .of (ok_list ok), fun z hz => by have := h z hz; rw [vl] at this; exact this⟩⟩
    · split
      · rename_i h; split at h <;> simp_all
      · rename_i h; split at h <;> simp_all
      · rename_i k' xs' h
        split at h
        · cases h
        · rename_i hw
          simp only [Option.some.injEq, RV.n.injEq] at h
          obtain ⟨rfl, rfl⟩ := h
          refine ⟨cutT xs lo hi, er xs, sub ok.2.1, trivial, fun h => .inr (.inl ⟨p, _, rfl, .of (ok_tup ok), ?_, fun z hz => ?_⟩)⟩
          · simpa [erL_length] using hw
          · have := h z hz; rw [vl] at this; exact this
    · exact ⟨cutT xs lo hi, er xs, sub ok.2.1, trivial, fun h => .inl ⟨p, _, rfl, ok_scr ok, fun z hz => by have := h z hz; rw [vl] at this; exact this⟩⟩
def slLF : List T → Option RV
  | [x, .atm (.int i)] => cutF x (some i) none
  | _ => none
def slUF : List T → Option RV
  | [x, .atm (.int i)] => cutF x none (some i)
  | _ => none
def slLUF : List T → Option RV
  | [x, .atm (.int i), .atm (.int j)] => cutF x (some i) (some j)
  | _ => none
theorem Out.imp {R : Addr → Prop} {H : Hp} {Q : VK} {G G' : Prop} (hG : G → G') : ∀ {o : Option RV}, Out K R H Q G o → Out K R H Q G' o
  | none, _ => trivial
  | some (.a v), h => ⟨h.1, fun q => hG (h.2 q)⟩
  | some (.n k xs), h => let ⟨ys, a, b, c, d⟩ := h; ⟨ys, a, b, c, fun q => hG (d q)⟩
theorem vok_slL : VOK K (fun vs H Q => ∃ x i, vs = [x, .int i] ∧ rSlU K x (some i) none H Q) slLF := by
  intro R H aus Q ok
  unfold slLF
  split
  · rename_i x i e
    obtain ⟨a, b, rfl, rfl, eb⟩ := inv2 e
    obtain rfl := invA eb
    exact (cut_ok ok.1).imp fun q => ⟨_, _, rfl, q⟩
  · trivial
theorem vok_slU : VOK K (fun vs H Q => ∃ x i, vs = [x, .int i] ∧ rSlU K x none (some i) H Q) slUF := by
  intro R H aus Q ok
  unfold slUF
  split
  · rename_i x i e
    obtain ⟨a, b, rfl, rfl, eb⟩ := inv2 e
    obtain rfl := invA eb
    exact (cut_ok ok.1).imp fun q => ⟨_, _, rfl, q⟩
  · trivial
theorem vok_slLU : VOK K (fun vs H Q => ∃ x i j, vs = [x, .int i, .int j] ∧ rSlU K x (some i) (some j) H Q) slLUF := by
  intro R H aus Q ok
  unfold slLUF
  split
  · rename_i x i j e
    obtain ⟨a, b, c, rfl, rfl, eb, ec⟩ := inv3 e
    obtain rfl := invA eb
    obtain rfl := invA ec
    exact (cut_ok ok.1).imp fun q => ⟨_, _, _, rfl, q⟩
  · trivial
theorem ie_slL {a l : Expr} {ga gl : S → RE} {pos p2 : Pos} (ha : IE X W a ga) (hl : IE X W l gl) : IE X W (.Subscript a (.Slice (some l) none none p2) pos) (opE slLF (argsG [ga, gl])) :=
  ⟨PE.mono (pe_slice sl_U ha.pe (po_some hl.pe) po_none) fun σ H Q h => (tA_two (op_sat vok_slL h)).mono fun x H1 z => z.mono fun y H2 ⟨_, i, e, q⟩ => by
    simp only [List.cons.injEq, and_true] at e; obtain ⟨rfl, rfl⟩ := e; exact ⟨i, rfl, q⟩⟩
theorem ie_slU {a l : Expr} {ga gl : S → RE} {pos p2 : Pos} (ha : IE X W a ga) (hl : IE X W l gl) : IE X W (.Subscript a (.Slice none (some l) none p2) pos) (opE slUF (argsG [ga, gl])) :=
  ⟨PE.mono (pe_slice sl_U ha.pe po_none (po_some hl.pe)) fun σ H Q h => (tA_two (op_sat vok_slU h)).mono fun x H1 z => z.mono fun y H2 ⟨_, i, e, q⟩ => by
    simp only [List.cons.injEq, and_true] at e; obtain ⟨rfl, rfl⟩ := e; exact ⟨i, rfl, q⟩⟩
/-- a number, told as one -/
def intE (g : S → RE) (s : S) : RE := match g s with
  | .ok (.v (.atm (.int i))) m s1 => .ok (.v (.atm (.int i))) m s1
  | .ex C fs s' => .ex C fs s'
  | _ => .fail
theorem int_sat {g : S → RE} {σ : St} {H : Hp} {Q : VK} (h : tE K W (intE g) σ H Q) : tE K W g σ H fun y H1 => ∃ i, y = .int i ∧ Q y H1 := by
  obtain ⟨A, Z, R, rel, s⟩ := h
  refine ⟨A, Z, R, rel, ?_⟩
  simp only [intE] at s
  cases e1 : g A.er with
  | fail => rw [e1] at s; exact s
  | ex C fs s1 => rw [e1] at s; exact s
  | ok e m s1 =>
    rw [e1] at s
    cases e with
    | p r q => exact s.elim
    | v t =>
      cases t with
      | box o k xs => exact s.elim
      | atm v =>
        cases v with
        | int i =>
          intro A' R' H' au ea k et r'
          obtain rfl := invA et
          exact ⟨i, rfl, s A' R' H' (.atm (.int i)) ea k rfl r'⟩
        | _ => exact s.elim
theorem ie_slLU {a l u : Expr} {ga gl gu : S → RE} {pos p2 : Pos} (ha : IE X W a ga) (hl : IE X W l gl) (hu : IE X W u gu) : IE X W (.Subscript a (.Slice (some l) (some u) none p2) pos) (opE slLUF (argsG [ga, intE gl, gu])) :=
  ⟨PE.mono (pe_slice sl_U ha.pe (po_some hl.pe) (po_some hu.pe)) fun σ H Q h => (tA_three (op_sat vok_slLU h)).mono fun x H1 z => (int_sat z).mono fun y H2 ⟨i, ey, z2⟩ => ⟨i, ey, z2.mono fun w H3 ⟨_, i', j, e, q⟩ => by
    simp only [List.cons.injEq, and_true] at e; obtain ⟨rfl, e2, rfl⟩ := e
    rw [ey] at e2; cases e2; exact ⟨j, rfl, q⟩⟩⟩

/-! ### displays: all parts are temps -/
def tvs : List Ev → Option (List T)
  | [] => some []
  | .v t :: es => match tvs es with
    | some ts => some (t :: ts)
    | none => none
  | .p _ _ :: _ => none
theorem tvs_at {A : AS} : ∀ {es : List Ev} {aus tz : List AT} {ts : List T}, tvs es = some ts → ArgsAt A es aus tz → aus = tz ∧ AT.erL aus = ts
  | [], aus, tz, ts, h, e => by obtain ⟨rfl, rfl⟩ := e; simp only [tvs, Option.some.injEq] at h; subst h; exact ⟨rfl, rfl⟩
  | .p _ _ :: _, aus, tz, ts, h, e => by simp [tvs] at h
  | .v t :: es, aus, tz, ts, h, e => by
    obtain ⟨au, aus', tz', rfl, rfl, et, e⟩ := e
    simp only [tvs] at h
    cases e2 : tvs es with
    | none => rw [e2] at h; cases h
    | some us =>
      rw [e2] at h
      simp only [Option.some.injEq] at h; subst h
      obtain ⟨rfl, e3⟩ := tvs_at e2 e
      exact ⟨rfl, by simp only [AT.erL, et, e3]⟩
def dspE (k : Kd) (g : S → RA) (s : S) : RE := match g s with
  | .ok es m s1 => match tvs es with
    | some ts => if ts.length ≤ 1000 then .ok (.v (.box true k ts)) m s1 else .fail
    | none => .fail
  | .ex C fs s' => .ex C fs s'
  | .fail => .fail
theorem small_line {n : Nat} (h : n ≤ 1000) : n ≤ sizeLine := Nat.le_trans h (by rw [sizeLine_eq]; decide)
theorem dsp_sat {k : Kd} {g : S → RA} (hk : ∀ n, k.fits n) {σ : St} {H : Hp} {Q : VK} (h : tE K W (dspE k g) σ H Q) : tA K W g σ H fun xs H1 => xs.length ≤ sizeLine ∧ ∀ p, H1 p = none → Q (.ref p) (upd H1 p (k.ho xs)) := by
  obtain ⟨A, Z, R, rel, s⟩ := h
  refine ⟨A, Z, R, rel, ?_⟩
  simp only [dspE] at s
  cases e1 : g A.er with
  | fail => rw [e1] at s; exact s
  | ex C fs s1 => rw [e1] at s; exact s
  | ok es m s1 =>
    rw [e1] at s
    simp only at s
    intro A' R' H' aus tz ea k' at' r'
    cases e2 : tvs es with
    | none => rw [e2] at s; exact s.elim
    | some ts =>
      rw [e2] at s
      obtain ⟨rfl, e3⟩ := tvs_at e2 at'
      simp only at s
      by_cases hz : ts.length ≤ 1000
      · rw [if_pos hz] at s
        have hl : aus.length = ts.length := by rw [← e3, erL_length]
        refine ⟨by rw [List.length_map, hl]; exact small_line hz, fun p hp => ?_⟩
        refine s A' R' _ (.box true k p aus) ea k' (by simp [AT.er, e3]) (r'.new (Z := aus ++ Z) hp (hold_new (hk _)) (okL_append.mp r'.okZ).1 (okL_append.mp r'.okZ).2 fun b => by rw [cnL_append]; omega)
      · rw [if_neg hz] at s; exact s.elim
theorem ie_lst {es : List Expr} {gs : List (S → RE)} {pos : Pos} (h : IA X W es gs) : IE X W (.List es pos) (dspE .lst (argsG gs)) := ⟨PE.mono (pe_lst h.pa) fun σ H Q q => dsp_sat (k := .lst) (fun _ => trivial) q⟩
theorem ie_tup {es : List Expr} {gs : List (S → RE)} {x1} {pos : Pos} (h : IA X W es gs) : IE X W (.Tuple es x1 pos) (dspE .tup (argsG gs)) := ⟨PE.mono (pe_tup h.pa) fun σ H Q q => dsp_sat (k := .tup) (fun _ => trivial) q⟩
/-- {} -/
def dnE (s : S) : RE := .ok (.v (.box true (.dct []) [])) .pure s
def dnTE (s : S) : RE := .ok (.v (.box true (.dtp []) [])) .pure s
theorem ie_dn {pos : Pos} : IE X W (.Dict [] [] pos) dnE := by
  refine ⟨PE.mono pe_dnewK fun σ H Q q => ?_⟩
  obtain ⟨A, Z, R, r, s⟩ := q
  intro p hp
  exact s A R _ (.box true (.dct []) p []) rfl rfl rfl (r.new (Z := Z) (xs := []) hp ⟨rfl, upd_same⟩ trivial r.okZ fun b => by simp [AT.cnL])
theorem ie_dnT {pos : Pos} : IE X W (.Dict [] [] pos) dnTE := by
  refine ⟨PE.mono pe_dnewT fun σ H Q q => ?_⟩
  obtain ⟨A, Z, R, r, s⟩ := q
  intro p hp
  exact s A R _ (.box true (.dtp []) p []) rfl rfl rfl (r.new (Z := Z) (xs := []) hp ⟨rfl, upd_same⟩ trivial r.okZ fun b => by simp [AT.cnL])
end
end TL
namespace TL
open PySem PySem.Spec L2

/-! ## Statements -/
inductive RS where
  | nx (s : S) | bk (s : S) | ct (s : S)
  | rt (t : T) (s : S)
  | ex (C : Addr) (fs : Xf) (s : S)
  | fail
def SatS (K : PySem.W.Frag) (W : Wh) (A : AS) (Z : List AT) (D : Ends) : RS → Prop
  | .nx s => ∀ A' R' σ' H', A'.er = s → hdv A' = hdv A → Rel K W.G A' Z R' σ' H' → D.nx σ' H'
  | .bk s => ∀ A' R' σ' H', A'.er = s → hdv A' = hdv A → Rel K W.G A' Z R' σ' H' → D.bk σ' H'
  | .ct s => ∀ A' R' σ' H', A'.er = s → hdv A' = hdv A → Rel K W.G A' Z R' σ' H' → D.ct σ' H'
  | .rt t s => ∀ A' R' σ' H' au, A'.er = s → hdv A' = hdv A → au.er = t → Rel K W.G A' (au :: Z) R' σ' H' → D.rt au.val H'
  | .ex C fs s => ∀ A' R' σ' H' d, A'.er = s → hdv A' = hdv A → Rel K W.G A' [xdT d fs] R' σ' H' → W.x (.ref C) (some d) σ' H'
  | .fail => False
def tS (K : PySem.W.Frag) (W : Wh) (f : S → RS) : TS := fun D σ H => ∃ A Z R, Rel K W.G A Z R σ H ∧ SatS K W A Z D (f A.er)
structure IS (X : Cx) (W : Wh) (st : Stmt) (f : S → RS) : Prop where
  ps : PS X st (tS X.K W f)
structure ISs (X : Cx) (W : Wh) (st : List Stmt) (f : S → RS) : Prop where
  ps : PSs X st (tS X.K W f)
section
variable {X : Cx} {W : Wh} {K : PySem.W.Frag} {G : Gr}
theorem SatS.of {A A' : AS} {Z : List AT} {D : Ends} (h : hdv A' = hdv A) : ∀ {r : RS}, SatS K W A Z D r → SatS K W A' Z D r
  | .nx s, q => fun A2 R2 σ2 H2 e hh r => q A2 R2 σ2 H2 e (hh.trans h) r
  | .bk s, q => fun A2 R2 σ2 H2 e hh r => q A2 R2 σ2 H2 e (hh.trans h) r
  | .ct s, q => fun A2 R2 σ2 H2 e hh r => q A2 R2 σ2 H2 e (hh.trans h) r
  | .rt t s, q => fun A2 R2 σ2 H2 au e hh et r => q A2 R2 σ2 H2 au e (hh.trans h) et r
  | .ex C fs s, q => fun A2 R2 σ2 H2 d e hh r => q A2 R2 σ2 H2 d e (hh.trans h) r
  | .fail, q => q
/-- another end, the same but for nx -/
theorem SatX.toS {A : AS} {Z : List AT} {D : Ends} {σ : St} {C : Addr} {fs : Xf} {s : S} (h : SatS K W A Z D (.ex C fs s)) : SatX K W A σ C fs s := fun A' R' H' d e hh r => h A' R' σ H' d e hh r
def nxS (s : S) : RS := .nx s
def seqS (f g : S → RS) (s : S) : RS := match f s with
  | .nx s1 => g s1
  | r => r
theorem iss_nil : ISs X W [] nxS := ⟨PSs.mono pss_nil fun D σ H ⟨A, Z, R, r, s⟩ => s A R σ H rfl rfl r⟩
theorem seq_sat {f g : S → RS} {D : Ends} {σ : St} {H : Hp} (h : tS K W (seqS f g) D σ H) : tS K W f { D with nx := tS K W g D } σ H := by
  obtain ⟨A, Z, R, r, s⟩ := h
  refine ⟨A, Z, R, r, ?_⟩
  simp only [seqS] at s
  cases e : f A.er with
  | nx s1 =>
    rw [e] at s
    intro A' R' σ' H' ea hh r'
    exact ⟨A', Z, R', r', by rw [ea]; exact SatS.of hh s⟩
  | bk s1 => rw [e] at s; exact s
  | ct s1 => rw [e] at s; exact s
  | rt t s1 => rw [e] at s; exact s
  | ex C fs s1 => rw [e] at s; exact s
  | fail => rw [e] at s; exact s
theorem iss_cons {st : Stmt} {rest : List Stmt} {f g : S → RS} (h1 : IS X W st f) (h2 : ISs X W rest g) : ISs X W (st :: rest) (seqS f g) := ⟨PSs.mono (pss_cons h1.ps h2.ps) fun D σ H h => seq_sat h⟩
theorem iss_one {st : Stmt} {f : S → RS} (h : IS X W st f) : ISs X W [st] f := ⟨pss_one h.ps⟩
theorem is_pass {pos : Pos} : IS X W (.Pass pos) nxS := ⟨PS.mono ps_pass fun D σ H ⟨A, Z, R, r, s⟩ => s A R σ H rfl rfl r⟩
def bkS (s : S) : RS := .bk s
def ctS (s : S) : RS := .ct s
theorem is_break {pos : Pos} : IS X W (.Break pos) bkS := ⟨PS.mono ps_break fun D σ H ⟨A, Z, R, r, s⟩ => s A R σ H rfl rfl r⟩
theorem is_continue {pos : Pos} : IS X W (.Continue pos) ctS := ⟨PS.mono ps_continue fun D σ H ⟨A, Z, R, r, s⟩ => s A R σ H rfl rfl r⟩
theorem is_doc {x : Str} {j pos pos'} : IS X W (.Expr (.Constant (.str x) j pos) pos') nxS := ⟨PS.mono ps_doc fun D σ H ⟨A, Z, R, r, s⟩ => s A R σ H rfl rfl r⟩
/-- slots forgotten -/
def forget (is : List Nat) (s : S) : S := is.foldl (fun s i => { s with sl := s.sl.set i .no }) s
/-! ### expressions as statements -/
def exprS (g : S → RE) (s : S) : RS := match g s with
  | .ok _ _ s1 => .nx s1
  | .ex C fs s1 => .ex C fs s1
  | .fail => .fail
theorem is_expr {e : Expr} {g : S → RE} {pos : Pos} (h : IE X W e g) (hs : swapsWith e none pos.line X.env = pure false := by rfl) : IS X W (.Expr e pos) (exprS g) := by
  refine ⟨PS.mono (ps_expr h.pe hs) fun D σ H ⟨A, Z, R, r, s⟩ => ⟨A, Z, R, r, ?_⟩⟩
  simp only [exprS] at s
  cases e1 : g A.er with
  | fail => rw [e1] at s; exact s
  | ex C fs s1 => rw [e1] at s; exact SatX.toS s
  | ok ev m s1 =>
    rw [e1] at s
    cases ev with
    | v t => exact fun A' R' H' au ea k et r' => s A' R' σ H' ea k.hdv r'.drop
    | p r0 q => exact fun A' R' H' au ea k et r' => s A' R' σ H' ea k.hdv r'
def retS (g : S → RE) (s : S) : RS := match g s with
  | .ok (.v t) _ s1 => .rt t s1
  | .ok (.p _ _) _ _ => .fail
  | .ex C fs s1 => .ex C fs s1
  | .fail => .fail
theorem is_ret {e : Expr} {g : S → RE} {pos : Pos} (h : IE X W e g) : IS X W (.Return (some e) pos) (retS g) := by
  refine ⟨PS.mono (ps_ret h.pe) fun D σ H ⟨A, Z, R, r, s⟩ => ⟨A, Z, R, r, ?_⟩⟩
  simp only [retS] at s
  cases e1 : g A.er with
  | fail => rw [e1] at s; exact s
  | ex C fs s1 => rw [e1] at s; exact SatX.toS s
  | ok ev m s1 =>
    rw [e1] at s
    cases ev with
    | v t => exact fun A' R' H' au ea k et r' => s A' R' σ H' au ea k.hdv et r'
    | p r0 q => exact s.elim
def retNS (s : S) : RS := .rt (.atm .non) s
theorem is_retN {pos : Pos} : IS X W (.Return none pos) retNS := ⟨PS.mono ps_retN fun D σ H ⟨A, Z, R, r, s⟩ => s A R σ H (.atm .non) rfl rfl rfl (r.atm rfl)⟩
def ifS (t : S → RT) (f g : S → RS) (s : S) : RS := match t s with
  | .ok true _ s1 => f s1
  | .ok false _ s1 => g s1
  | .ex C fs s1 => .ex C fs s1
  | .fail => .fail
theorem is_if {c : Expr} {a b : List Stmt} {t : S → RT} {f g : S → RS} {pos : Pos} (hc : IT X W c t) (ha : ISs X W a f) (hb : ISs X W b g) : IS X W (.If c a b pos) (ifS t f g) := by
  refine ⟨PS.mono (ps_if hc.pt ha.ps hb.ps) fun D σ H ⟨A, Z, R, r, s⟩ => ⟨A, Z, R, r, ?_⟩⟩
  simp only [ifS] at s
  cases e1 : t A.er with
  | fail => rw [e1] at s; exact s
  | ex C fs s1 => rw [e1] at s; exact SatX.toS s
  | ok b m s1 =>
    rw [e1] at s
    intro A' R' H' ea k r'
    cases b with
    | true => rw [if_pos rfl]; exact ⟨A', Z, R', r', by rw [ea]; exact SatS.of k.hdv s⟩
    | false => rw [if_neg (by decide)]; exact ⟨A', Z, R', r', by rw [ea]; exact SatS.of k.hdv s⟩
/-! ### names stored -/
def Sl.killR {α : Type} (i : Nat) : Sl α → Sl α
  | .al (.sl j) p => if j = i then .no else .al (.sl j) p
  | x => x
def SS.put {α : Type} (s : SS α) (i : Nat) (x : Sl α) : SS α := { s with sl := (s.sl.map (Sl.killR i)).set i x }
theorem killR_er (i : Nat) (x : Sl AT) : (Sl.killR i x).er = Sl.killR i x.er := by
  cases x with
  | no => rfl
  | t y => rfl
  | al r p => cases r with
    | sl j => by_cases h : j = i <;> simp [Sl.killR, Sl.er, h]
    | hd k => rfl
theorem put_er (A : AS) (i : Nat) (x : Sl AT) : (A.put i x).er = A.er.put i x.er := by
  simp only [SS.put, SS.er, List.map_set, List.map_map]
  congr 2
  apply List.map_congr_left
  intro y _
  exact killR_er i y
theorem killR_cn (b : Addr) (i : Nat) (x : Sl AT) : (Sl.killR i x).cn b = x.cn b := by
  cases x with
  | no => rfl
  | t y => rfl
  | al r p => cases r with
    | sl j => by_cases h : j = i <;> simp [Sl.killR, Sl.cn, h]
    | hd k => rfl
theorem killRs_cn (b : Addr) (i : Nat) : ∀ l : List (Sl AT), cnS b (l.map (Sl.killR i)) = cnS b l
  | [] => rfl
  | x :: l => by simp only [List.map_cons, cnS, killR_cn, killRs_cn b i l]
theorem cnS_put (b : Addr) (x : Sl AT) : ∀ (l : List (Sl AT)) (i : Nat), cnS b (l.set i x) ≤ cnS b l + x.cn b
  | [], i => by simp [cnS]
  | y :: l, 0 => by simp [cnS]; omega
  | y :: l, i + 1 => by have := cnS_put b x l i; simp [cnS]; omega
theorem killR_t {i j : Nat} {l : List (Sl AT)} {t : AT} (h : (l.map (Sl.killR i))[j]? = some (Sl.t t)) : l[j]? = some (Sl.t t) := by
  rw [List.getElem?_map] at h
  cases e : l[j]? with
  | none => rw [e] at h; cases h
  | some y =>
    rw [e] at h
    cases y with
    | no => cases h
    | t z => exact h
    | al r p => cases r with
      | sl k => by_cases hk : k = i <;> simp [Sl.killR, hk] at h
      | hd k => simp [Sl.killR] at h
theorem killR_al {i j : Nat} {l : List (Sl AT)} {r : Rt} {p : List Nat} (h : (l.map (Sl.killR i))[j]? = some (Sl.al r p)) : l[j]? = some (Sl.al r p) ∧ r ≠ .sl i := by
  rw [List.getElem?_map] at h
  cases e : l[j]? with
  | none => rw [e] at h; cases h
  | some y =>
    rw [e] at h
    cases y with
    | no => cases h
    | t z => cases h
    | al r' p' => cases r' with
      | sl k =>
        by_cases hk : k = i
        · simp [Sl.killR, hk] at h
        · simp only [Option.map_some, Sl.killR, if_neg hk, Option.some.injEq, Sl.al.injEq] at h
          obtain ⟨rfl, rfl⟩ := h
          exact ⟨rfl, fun z => hk (by cases z; rfl)⟩
      | hd k =>
        simp only [Option.map_some, Sl.killR, Option.some.injEq, Sl.al.injEq] at h
        obtain ⟨rfl, rfl⟩ := h
        exact ⟨rfl, fun z => nomatch z⟩
theorem put_root_ne {A : AS} {i : Nat} {x : Sl AT} {r : Rt} (h : r ≠ .sl i) : (A.put i x).root r = A.root r := by
  cases r with
  | hd k => rfl
  | sl j =>
    have ij : i ≠ j := fun z => h (by rw [z])
    simp only [SS.root, SS.put, List.getElem?_set_ne ij, List.getElem?_map]
    cases A.sl[j]? with
    | none => rfl
    | some y => cases y with
      | no => rfl
      | t z => rfl
      | al r p => cases r with
        | sl k => by_cases hk : k = i <;> simp [Sl.killR, hk]
        | hd k => rfl
theorem put_ga_ne {A : AS} {i : Nat} {x : Sl AT} {r : Rt} {p : List Nat} (h : r ≠ .sl i) : (A.put i x).ga r p = A.ga r p := by simp only [SS.ga, put_root_ne h]
/-- a name is given a thing in hand, or forgotten -/
theorem Rel.put {A : AS} {Zc Z : List AT} {R : Addr → Prop} {σ : St} {H : Hp} (i : Nat) (x : Sl AT) (v : Option V) (h : Rel K G A (Zc ++ Z) R σ H) (hi : i < A.sl.length) (hx : ∀ b, x.cn b ≤ AT.cnL b Zc) (hok : ∀ t, x = .t t → t.ok K R H ∧ v = some t.val)
    (hal : ∀ r p, x = .al r p → r ≠ .sl i ∧ ∃ t, A.ga r p = some t ∧ v = some t.val) : Rel K G (A.put i x) Z R (σ.set i v) H := by
  have hl : (A.sl.map (Sl.killR i)).length = A.sl.length := List.length_map _
  have cnle : ∀ b, (A.put i x).cn b ≤ A.cn b + AT.cnL b Zc := fun b => by
    have h1 := cnS_put b x (A.sl.map (Sl.killR i)) i
    rw [killRs_cn] at h1
    have := hx b
    simp only [SS.cn, SS.put]; omega
  have zok := okL_append.mp h.okZ
  refine ⟨fun j t e => ?_, h.okH, zok.2, fun b => by have := cnle b; have := h.nd b; rw [cnL_append] at this; omega, h.tr, by simp [SS.put, h.len], fun j t e => ?_, fun j r p e => ?_, h.gH, fun b hb => h.gO b (by have := cnle b; rw [cnL_append]; omega), h.gR, h.gS⟩
  · by_cases ij : i = j
    · subst ij
      simp only [SS.put, List.getElem?_set_self (by rw [hl]; exact hi), Option.some.injEq] at e
      exact (hok t e).1
    · simp only [SS.put, List.getElem?_set_ne ij] at e
      exact h.okS j t (killR_t e)
  · by_cases ij : i = j
    · subst ij
      simp only [SS.put, List.getElem?_set_self (by rw [hl]; exact hi), Option.some.injEq] at e
      rw [List.getElem?_set_self (by rw [h.len]; exact hi), (hok t e).2]
    · simp only [SS.put, List.getElem?_set_ne ij] at e
      rw [List.getElem?_set_ne ij]
      exact h.slT j t (killR_t e)
  · by_cases ij : i = j
    · subst ij
      simp only [SS.put, List.getElem?_set_self (by rw [hl]; exact hi), Option.some.injEq] at e
      obtain ⟨n, t, g, ev⟩ := hal r p e
      rw [List.getElem?_set_self (by rw [h.len]; exact hi)]
      exact ⟨t, by rw [put_ga_ne n]; exact g, by rw [ev]⟩
    · simp only [SS.put, List.getElem?_set_ne ij] at e
      obtain ⟨e', n⟩ := killR_al e
      obtain ⟨t, g, sv⟩ := h.slA j r p e'
      rw [List.getElem?_set_ne ij]
      exact ⟨t, by rw [put_ga_ne n]; exact g, sv⟩
theorem er_len (A : AS) : A.er.sl.length = A.sl.length := by simp [SS.er]
/-- what an event leaves at a name -/
def bindE (i : Nat) (e : Ev) (s : S) : Option S := match e with
  | .v t => if i < s.sl.length then some (s.put i (.t t)) else none
  | .p r q => if r ≠ .sl i ∧ i < s.sl.length ∧ (s.gt r q).isSome then some (s.put i (.al r q)) else none
def asgS (i : Nat) (g : S → RE) (s : S) : RS := match g s with
  | .ok e _ s1 => match bindE i e s1 with
    | some s2 => .nx s2
    | none => .fail
  | .ex C fs s1 => .ex C fs s1
  | .fail => .fail
theorem put_hdv (A : AS) (i : Nat) (x : Sl AT) : hdv (A.put i x) = hdv A := rfl
theorem asg_sat {i : Nat} {g : S → RE} {D : Ends} {σ : St} {H : Hp} (h : tS K W (asgS i g) D σ H) : tAsg (tE K W g) (gName i) D σ H := by
  obtain ⟨A, Z, R, r, s⟩ := h
  refine ⟨A, Z, R, r, ?_⟩
  simp only [asgS] at s
  cases e1 : g A.er with
  | fail => rw [e1] at s; exact s
  | ex C fs s1 => rw [e1] at s; exact SatX.toS s
  | ok ev m s1 =>
    rw [e1] at s
    cases ev with
    | v t =>
      intro A' R' H' au ea k et r'
      subst ea
      simp only [bindE, er_len] at s
      by_cases hi : i < A'.sl.length
      · rw [if_pos hi] at s
        refine s (A'.put i (.t au)) R' _ H' ?_ ?_ (Rel.put (Zc := [au]) i (.t au) (some au.val) r' hi (fun b => by simp [Sl.cn, AT.cnL]) (fun t e => ?_) fun _ _ e => nomatch e)
        · rw [put_er]; simp only [Sl.er, et]
        · rw [put_hdv]; exact k.hdv
        · cases e; exact ⟨r'.head, rfl⟩
      · rw [if_neg hi] at s; exact s.elim
    | p r0 q =>
      intro A' R' H' au ea k ga r'
      subst ea
      simp only [bindE, er_len] at s
      split at s
      · rename_i s2 hs
        split at hs
        · rename_i hc
          simp only [Option.some.injEq] at hs; subst hs
          refine s (A'.put i (.al r0 q)) R' _ H' (by rw [put_er]; rfl) (by rw [put_hdv]; exact k.hdv) (Rel.put (Zc := []) i (.al r0 q) (some au.val) r' hc.2.1 (fun b => by simp [Sl.cn]) (fun _ e => nomatch e) fun r p e => ?_)
          cases e
          exact ⟨hc.1, au, ga, rfl⟩
        · cases hs
      · exact s.elim
theorem is_asg (i : Nat) {x : Str} {e : Expr} {g : S → RE} {pos pos' : Pos} (hN : X.N.Nodup) (he : IE X W e g) (hi : X.N[i]? = some x := by rfl) (hx : Loc X.env.scope x := by first | exact Or.inl rfl | exact Or.inr rfl) (hs : swapsWith e (some (.Name x pos')) pos.line X.env = pure false := by rfl)
    (hf : X.fn x = true ∨ X.env.scope.names.lookup x = some .local := by first | exact .inl rfl | exact .inr rfl) : IS X W (.Assign [.Name x pos'] e pos) (asgS i g) := ⟨PS.mono (ps_set hN hi hx he.pe hs hf) fun D σ H h => asg_sat h⟩
/-- x += e, ints -/
def augS (i : Nat) (f : List T → Option RV) (g : S → RE) : S → RS := asgS i (opE f (argsG [rdE i, g]))
def iaddF : List T → Option RV := gI (fun _ _ => true) fun i j => .int (i + j)
theorem vok_iadd : VOK K (r2n (ipI fun i j => i + j)) iaddF := vok_gI (fun _ _ => rfl) fun i j H Q _ q => ⟨i, j, rfl, rfl, q⟩
theorem vok_isub : VOK K (r2n (ipI fun i j => i - j)) subF := vok_gI (fun _ _ => rfl) fun i j H Q _ q => ⟨i, j, rfl, rfl, q⟩
theorem aug_sat {i : Nat} {g : S → RE} {r : V → V → Hp → VK → Prop} {f : List T → Option RV} (hv : VOK K (r2n r) f) {D : Ends} {σ : St} {H : Hp} (h : tS K W (augS i f g) D σ H) : tAug i (tE K W g) r D σ H := by
  have h1 := asg_sat h
  have h2 : tE K W (opE f (argsG [rdE i, g])) σ H fun z H2 => D.nx (σ.set i (some z)) H2 := h1
  have h3 := (tA_two (op_sat hv h2))
  obtain ⟨v, e, h4⟩ := rd_sat h3
  exact ⟨v, e, h4.mono fun y H1 ⟨_, _, e, q⟩ => by simp only [List.cons.injEq, and_true] at e; obtain ⟨rfl, rfl⟩ := e; exact q⟩
theorem is_iadd (i : Nat) {x : Str} {e : Expr} {g : S → RE} {pos pos' : Pos} (hN : X.N.Nodup) (he : IE X W e g) (hi : X.N[i]? = some x := by rfl) (hx : Loc X.env.scope x := by first | exact Or.inl rfl | exact Or.inr rfl)
    (hf : X.fn x = true ∨ X.env.scope.names.lookup x = some .local := by first | exact .inl rfl | exact .inr rfl) : IS X W (.AugAssign (.Name x pos') .Add e pos) (augS i iaddF g) := ⟨PS.mono (ps_aug hN hi hx he.pe ip_add hf) fun D σ H h => aug_sat vok_iadd h⟩
theorem is_isub (i : Nat) {x : Str} {e : Expr} {g : S → RE} {pos pos' : Pos} (hN : X.N.Nodup) (he : IE X W e g) (hi : X.N[i]? = some x := by rfl) (hx : Loc X.env.scope x := by first | exact Or.inl rfl | exact Or.inr rfl)
    (hf : X.fn x = true ∨ X.env.scope.names.lookup x = some .local := by first | exact .inl rfl | exact .inr rfl) : IS X W (.AugAssign (.Name x pos') .Sub e pos) (augS i subF g) := ⟨PS.mono (ps_aug hN hi hx he.pe ip_sub hf) fun D σ H h => aug_sat vok_isub h⟩
/-! ### forgetting slots, ahead or behind a statement -/
theorem Rel.weak {A : AS} {Z : List AT} {R : Addr → Prop} {σ : St} {H : Hp} (h : Rel K G A Z R σ H) (i : Nat) : Rel K G (A.put i .no) Z R σ H := by
  by_cases hi : i < A.sl.length
  · have hv : σ.set i (σ[i]?.getD none) = σ := by
      apply List.ext_getElem?
      intro j
      by_cases ij : i = j
      · subst ij
        have : i < σ.length := by rw [h.len]; exact hi
        rw [List.getElem?_set_self this]
        rw [List.getElem?_eq_getElem this]; rfl
      · rw [List.getElem?_set_ne ij]
    have := Rel.put (Zc := []) (Z := Z) i .no (σ[i]?.getD none) h hi (fun b => by simp [Sl.cn]) (fun _ e => nomatch e) (fun _ _ e => nomatch e)
    rwa [hv] at this
  · have e : (A.put i .no) = { A with sl := A.sl.map (Sl.killR i) } := by
      simp only [SS.put]
      rw [List.set_eq_of_length_le (by simp; omega)]
    rw [e]
    refine ⟨fun j t e => h.okS j t (killR_t e), h.okH, h.okZ, fun b => ?_, h.tr, by simp [h.len], fun j t e => h.slT j t (killR_t e), fun j r p e => ?_, h.gH, fun b hb => h.gO b ?_, h.gR, h.gS⟩
    · simp only [SS.cn, killRs_cn]; exact h.nd b
    · obtain ⟨e', n⟩ := killR_al e
      obtain ⟨t, g, sv⟩ := h.slA j r p e'
      refine ⟨t, ?_, sv⟩
      simp only [SS.ga] at g ⊢
      have : SS.root { A with sl := A.sl.map (Sl.killR i) } r = A.root r := by
        have := put_root_ne (A := A) (x := .no) n
        simp only [SS.put] at this
        rw [List.set_eq_of_length_le (by simp; omega)] at this
        exact this
      rw [this]; exact g
    · simp only [SS.cn, killRs_cn] at hb; exact hb
def drops (is : List Nat) (s : S) : S := is.foldl (fun s i => s.put i .no) s
def dropsA (is : List Nat) (A : AS) : AS := is.foldl (fun s i => s.put i .no) A
theorem drops_er : ∀ (is : List Nat) (A : AS), (dropsA is A).er = drops is A.er
  | [], A => rfl
  | i :: is, A => by simp only [dropsA, drops, List.foldl_cons]; exact (drops_er is (A.put i .no)).trans (by rw [put_er]; rfl)
theorem drops_hdv : ∀ (is : List Nat) (A : AS), hdv (dropsA is A) = hdv A
  | [], A => rfl
  | i :: is, A => (drops_hdv is (A.put i .no)).trans rfl
theorem Rel.drops {Z : List AT} {R : Addr → Prop} {σ : St} {H : Hp} : ∀ (is : List Nat) {A : AS}, Rel K G A Z R σ H → Rel K G (dropsA is A) Z R σ H
  | [], A, h => h
  | i :: is, A, h => Rel.drops is (h.weak i)
/-- behind a block the slots `is` are forgotten (where it goes on) -/
def clrS (is : List Nat) (f : S → RS) (s : S) : RS := match f s with
  | .nx s1 => .nx (drops is s1)
  | .ct s1 => .ct (drops is s1)
  | .bk s1 => .bk (drops is s1)
  | r => r
theorem clr_sat {is : List Nat} {f : S → RS} {D : Ends} {σ : St} {H : Hp} (h : tS K W (clrS is f) D σ H) : tS K W f D σ H := by
  obtain ⟨A, Z, R, r, s⟩ := h
  refine ⟨A, Z, R, r, ?_⟩
  simp only [clrS] at s
  cases e : f A.er with
  | nx s1 => rw [e] at s; exact fun A' R' σ' H' ea hh r' => s (dropsA is A') R' σ' H' (by rw [drops_er, ea]) ((drops_hdv is A').trans hh) (r'.drops is)
  | ct s1 => rw [e] at s; exact fun A' R' σ' H' ea hh r' => s (dropsA is A') R' σ' H' (by rw [drops_er, ea]) ((drops_hdv is A').trans hh) (r'.drops is)
  | bk s1 => rw [e] at s; exact fun A' R' σ' H' ea hh r' => s (dropsA is A') R' σ' H' (by rw [drops_er, ea]) ((drops_hdv is A').trans hh) (r'.drops is)
  | rt t s1 => rw [e] at s; exact s
  | ex C fs s1 => rw [e] at s; exact s
  | fail => rw [e] at s; exact s
theorem is_clr (is : List Nat) {st : Stmt} {f : S → RS} (h : IS X W st f) : IS X W st (clrS is f) := ⟨PS.mono h.ps fun D σ H q => clr_sat q⟩
theorem iss_clr (is : List Nat) {st : List Stmt} {f : S → RS} (h : ISs X W st f) : ISs X W st (clrS is f) := ⟨PSs.mono h.ps fun D σ H q => clr_sat q⟩
/-! ### a name's own tree moved out -/
def mvE (i : Nat) (s : S) : RE := match s.sl[i]? with
  | some (.t t) => .ok (.v t) .many (s.put i .no)
  | _ => .fail
theorem mv_sat {i : Nat} {σ : St} {H : Hp} {Q : VK} (h : tE K W (mvE i) σ H Q) : tVar i σ H Q := by
  obtain ⟨A, Z, R, r, s⟩ := h
  simp only [mvE, er_sl] at s
  cases e : A.sl[i]? with
  | none => rw [e] at s; exact s.elim
  | some x =>
    rw [e] at s
    cases x with
    | no => exact s.elim
    | al r0 p => exact s.elim
    | t au =>
      have hi : i < A.sl.length := (List.getElem?_eq_some_iff.mp e).1
      refine ⟨au.val, r.slT i au e, s (A.put i .no) R H au (by rw [put_er]; rfl) (put_hdv A i .no) rfl ?_⟩
      -- the tree is a temp now
      have w := r.weak i
      have cnt : ∀ b, (A.put i .no).cn b + au.cn b = A.cn b := fun b => by
        have h1 : (A.sl.map (Sl.killR i))[i]? = some (Sl.t au) := by rw [List.getElem?_map, e]; rfl
        have h2 : ∀ (l : List (Sl AT)) (i : Nat), l[i]? = some (Sl.t au) → cnS b (l.set i .no) + au.cn b = cnS b l := by
          intro l
          induction l with
          | nil => intro i h; simp at h
          | cons y l ih =>
            intro i h
            cases i with
            | zero => simp at h; subst h; simp [cnS, Sl.cn]; omega
            | succ i => have := ih i (by simpa using h); simp [cnS]; omega
        have h3 := h2 _ i h1
        rw [killRs_cn] at h3
        simp only [SS.cn, SS.put]; omega
      exact ⟨w.okS, w.okH, ⟨r.okS i au e, w.okZ⟩, fun b => by have := cnt b; have := r.nd b; simp only [AT.cnL]; omega, w.tr, w.len, w.slT, w.slA, w.gH, fun b hb => r.gO b (by have := cnt b; simp only [AT.cnL] at hb; omega), w.gR, w.gS⟩
theorem ie_mv (i : Nat) {x : Str} {pos : Pos} (hN : X.N[i]? = some x := by rfl) (hv : Vis X.env.scope x := by first | exact Or.inl rfl | exact Or.inr (Or.inl rfl) | exact Or.inr (Or.inr rfl)) (hd : (x == ("__debug__" : Str)) = false := by decide)
    (hcd : (x == ("__classdict__" : Str)) = false := by decide) : IE X W (.Name x pos) (mvE i) := ⟨PE.mono (pe_var hN hv hd hcd) fun σ H Q h => mv_sat h⟩
end
end TL
namespace TL
open PySem PySem.Spec L2

/-! ## What changes a list, a dict -/
/-- a node's tree in the place of another one -/
def S.upd (kl : Bool) (s : S) (r : Rt) (q : List Nat) (u : T) : S := match s.root r with
  | some t => if kl = true then (s.setR r (T.md u t q)).kill r q else s.setR r (T.md u t q)
  | none => s
def updMd (kl : Bool) (r : Rt) : Md := if kl = true then .pop r else .fz
section
variable {X : Cx} {W : Wh} {K : PySem.W.Frag} {G : Gr}
/-- THE CHANGE of an own box's things: ys for xs, the kind k' for k; what comes in is taken from the temps Zc, what goes out is Zo -/
theorem Rel.box {A : AS} {Zc Z Zo : List AT} {R : Addr → Prop} {σ : St} {H : Hp} {r : Rt} {q : List Nat} {k k' : Kd} {a : Addr} {xs ys : List AT} (kl : Bool) (h : Rel K G A (Zc ++ Z) R σ H) (g : A.ga r q = some (.box true k a xs))
    (fit : k'.fits ys.length) (oky : AT.okL K R H ys) (okz : AT.okL K R H Zo) (hc : ∀ b, AT.cnL b ys + AT.cnL b Zo ≤ AT.cnL b xs + AT.cnL b Zc) (hk : kl = false → ∀ (i : Nat) (x : AT), xs[i]? = some x → ys[i]? = some x) :
    ∃ A', A'.er = S.upd kl A.er r q (.box true k' (AT.erL ys)) ∧ Keep (updMd kl r) A A' ∧ Rel K G A' (Zo ++ Z) R σ (upd H a (k'.ho (ys.map AT.val))) := by
  have g0 := g
  simp only [SS.ga] at g
  split at g
  · rename_i t et
    obtain ⟨uok, ucn⟩ := h.ga_ok g0
    have c0 : 0 < (AT.box true k a xs).cn a := by simp [AT.cn]; omega
    have nda := h.nd a
    have ca := ucn a
    have xa : AT.cnL a xs = 0 ∧ AT.cnL a Zc = 0 := by
      rw [cnL_append] at nda
      simp only [AT.cn, if_true] at ca
      omega
    have ya : AT.cnL a ys = 0 ∧ AT.cnL a Zo = 0 := by have := hc a; omega
    have nR : ¬ R a := ok_notR uok a c0
    have H0 : ∀ b w, b ≠ a → H b = some w → upd H a (k'.ho (ys.map AT.val)) b = some w := fun b w n e => by rw [upd_ne n]; exact e
    have same : ∀ {l : List AT}, AT.cnL a l = 0 → AT.okL K R H l → AT.okL K R (upd H a (k'.ho (ys.map AT.val))) l := fun {l} hl ol => okL_mono ol (fun _ x => x) (okL_notR ol) fun b w hb e => H0 b w (by
      rcases hb with hb | hb
      · intro z; subst z; exact nR hb
      · intro z; subst z; omega) e
    have u'ok : (AT.box true k' a ys).ok K R (upd H a (k'.ho (ys.map AT.val))) := ⟨by simp only [AtB, if_true]; exact ⟨nR, hold_new (by simpa using fit)⟩, same ya.1 oky, by simp⟩
    have m := Rel.modify (u' := .box true k' a ys) (R' := R) (a0 := a) Zo kl h et g (by simp [AT.er, T.allF]) c0 rfl u'ok (fun _ x => x) (fun _ x => .inl x) H0 (fun b rb => by
        by_cases e : b = a
        · subst e; rw [upd_same]; simp
        · rw [upd_ne e]; exact h.tr b rb)
      (fun b => by have := hc b; simp only [AT.cn, if_true]; omega) (same ya.2 okz) (fun hkl i p w e => by
        simp only [AT.get] at e ⊢
        split at e
        · rename_i x ex
          rw [hk hkl i x ex]
          exact ⟨w, e, rfl⟩
        · cases e)
    refine ⟨_, ?_, ?_, m⟩
    · simp only [S.upd, er_root, et, Option.map_some]
      cases kl with
      | true => simp only [if_true]; rw [kill_er, setR_er, md_er]; rfl
      | false => simp only [Bool.false_eq_true, if_false]; rw [setR_er, md_er]; rfl
    · have hv : (AT.md (.box true k' a ys) t q).val = t.val := md_val (u := .box true k a xs) (u' := .box true k' a ys) rfl q g
      have hh := setR_hdv et hv
      cases kl with
      | true =>
        simp only [updMd, if_true]
        refine ⟨fun r' p w ew hp => ?_, hh⟩
        simp only [SS.ga, root_kill] at ew ⊢
        by_cases hr : r' = r
        · subst hr
          rw [et] at ew
          rw [root_set_same et]
          have := hp rfl; subst this
          simp only [AT.get, Option.some.injEq] at ew; subst ew
          exact ⟨_, rfl, hv⟩
        · rw [root_set_ne hr]; exact ⟨w, ew, rfl⟩
      | false =>
        simp only [updMd, Bool.false_eq_true, if_false]
        refine ⟨fun r' p w ew => ?_, hh⟩
        simp only [SS.ga] at ew ⊢
        by_cases hr : r' = r
        · subst hr
          rw [et] at ew
          rw [root_set_same et]
          by_cases hb : (q.isPrefixOf p && decide (q.length < p.length)) = false
          · exact md_get (u := .box true k a xs) (u' := .box true k' a ys) rfl q p g ew hb
          · simp only [Bool.not_eq_false, Bool.and_eq_true, decide_eq_true_eq] at hb
            obtain ⟨l, rfl⟩ := prefix_split hb.1
            cases l with
            | nil => simp at hb
            | cons i l =>
              obtain ⟨g1, g2⟩ := md_get_below (u' := .box true k' a ys) q (i :: l) g
              simp only at ew ⊢
              rw [g2] at ew
              refine ⟨w, ?_, rfl⟩
              rw [g1]
              simp only [AT.get] at ew ⊢
              split at ew
              · rename_i x ex; rw [hk rfl i x ex]; exact ew
              · cases ew
        · rw [root_set_ne hr]; exact ⟨w, ew, rfl⟩
  · cases g
/-- a place that is an own box -/
theorem own_box {A : AS} {Z : List AT} {R : Addr → Prop} {σ : St} {H : Hp} {r : Rt} {q : List Nat} {k : Kd} {ts : List T} (h : Rel K G A Z R σ H) (e : A.er.gt r q = some (.box true k ts)) : ∃ a xs, A.ga r q = some (.box true k a xs) ∧ AT.erL xs = ts ∧ (AT.box true k a xs).ok K R H := by
  obtain ⟨u, g, eu⟩ := ga_of e
  obtain ⟨a, xs, rfl, ex⟩ := invB eu
  exact ⟨a, xs, g, ex, (h.ga_ok g).1⟩
theorem tyV_list {R : Addr → Prop} {H : Hp} {o : Bool} {a : Addr} {xs : List AT} (h : (AT.box o .lst a xs).ok K R H) : tyV K "list" (.ref a) H := Or.inl ⟨rfl, _, .of (ok_list h)⟩

/-! ### a method of a list: the receiver a place, then the arguments -/
/-- what it does: the things behind, whether places below fall, what it hands back; args: the temps -/
def mutE (f : List T → List T → Option (Bool × List T × T)) (gp : S → RE) (g : S → RA) (s : S) : RE := match gp s with
  | .ok (.p r q) m s1 => match s1.gt r q with
    | some (.box true .lst _) => match g s1 with
      | .ok es m' s2 => if surv (.p r q) m' = true then match s2.gt r q, tvs es with
        | some (.box true .lst xs), some ts => match f xs ts with
          | some (kl, ys, t) => .ok (.v t) ((m.seq m').seq (updMd kl r)) (S.upd kl s2 r q (.box true .lst ys))
          | none => .fail
        | _, _ => .fail
        else .fail
      | .ex C fs s' => .ex C fs s'
      | .fail => .fail
    | _ => .fail
  | .ok (.v _) _ _ => .fail
  | .ex C fs s' => .ex C fs s'
  | .fail => .fail
/-- the method's reading does what f tells: from the trees xs of the list and the temps zs come the trees ys and z -/
def MOK (K : PySem.W.Frag) (r : V → List V → Hp → VK → Prop) (f : List T → List T → Option (Bool × List T × T)) : Prop :=
  ∀ (R : Addr → Prop) (H : Hp) (a : Addr) (xs zs : List AT) (Q : VK), H a = some (.lst (xs.map AT.val)) → AT.okL K R H xs → AT.okL K R H zs → match f (AT.erL xs) (AT.erL zs) with
  | none => True
  | some (kl, ys', t') => ∃ (ys : List AT) (z : AT), AT.erL ys = ys' ∧ z.er = t' ∧ AT.okL K R H ys ∧ z.ok K R H ∧ (∀ b, AT.cnL b ys + z.cn b ≤ AT.cnL b xs + AT.cnL b zs) ∧ (kl = false → ∀ (i : Nat) (x : AT), xs[i]? = some x → ys[i]? = some x) ∧
      (Q z.val (upd H a (.lst (ys.map AT.val))) → r (.ref a) (zs.map AT.val) H Q)
theorem mut_sat {r : V → List V → Hp → VK → Prop} {f : List T → List T → Option (Bool × List T × T)} (hm : MOK K r f) {gp : S → RE} {g : S → RA} {σ : St} {H : Hp} {Q : VK} (h : tE K W (mutE f gp g) σ H Q) :
    tE K W gp σ H fun x H1 => tyV K "list" x H1 ∧ tA K W g σ H1 fun vs H2 => r x vs H2 Q := by
  obtain ⟨A, Z, R, rel, s⟩ := h
  refine ⟨A, Z, R, rel, ?_⟩
  simp only [mutE] at s
  cases e1 : gp A.er with
  | fail => rw [e1] at s; exact s
  | ex C fs s1 => rw [e1] at s; exact s
  | ok ev m s1 =>
    rw [e1] at s
    cases ev with
    | v t => exact s.elim
    | p r0 q =>
      simp only at s
      intro A' R' H' au ea k ga r'
      subst ea
      cases e2 : A'.er.gt r0 q with
      | none => rw [e2] at s; exact s.elim
      | some u =>
        rw [e2] at s
        match u, e2, s with
        | .atm v, _, s => exact s.elim
        | .box false _ _, _, s => exact s.elim
        | .box true .tup _, _, s => exact s.elim
        | .box true (.dct _) _, _, s => exact s.elim
        | .box true (.dtp _) _, _, s => exact s.elim
        | .box true (.ins _ _) _, _, s => exact s.elim
        | .box true (.exd _) _, _, s => exact s.elim
        | .box true .scr _, _, s => exact s.elim
        | .box true .lst ts0, e2, s =>
          simp only at s
          obtain ⟨a, xs0, g0, ex0, ok0⟩ := own_box r' e2
          rw [ga] at g0
          cases g0
          refine ⟨tyV_list ok0, A', Z, R', r', ?_⟩
          cases e3 : g A'.er with
          | fail => rw [e3] at s; exact s
          | ex C fs s2 => rw [e3] at s; exact s.of k
          | ok es m' s2 =>
            rw [e3] at s
            simp only at s
            by_cases hs : surv (.p r0 q) m' = true
            · rw [if_pos hs] at s
              intro A2 R2 H2 aus tz ea2 k2 at2 r2
              subst ea2
              obtain ⟨au2, g2, v2⟩ := k2.at hs ga
              cases e4 : A2.er.gt r0 q with
              | none => rw [e4] at s; exact s.elim
              | some u2 =>
                cases e5 : tvs es with
                | none => rw [e4, e5] at s; revert s; cases u2 with
                  | atm v => intro s; exact s.elim
                  | box o kk l => cases o <;> cases kk <;> exact fun s => s.elim
                | some tss =>
                  rw [e4, e5] at s
                  match u2, e4, s with
                  | .atm v, _, s => exact s.elim
                  | .box false _ _, _, s => exact s.elim
                  | .box true .tup _, _, s => exact s.elim
                  | .box true (.dct _) _, _, s => exact s.elim
                  | .box true (.dtp _) _, _, s => exact s.elim
                  | .box true (.ins _ _) _, _, s => exact s.elim
                  | .box true (.exd _) _, _, s => exact s.elim
                  | .box true .scr _, _, s => exact s.elim
                  | .box true .lst ts, e4, s =>
                    simp only at s
                    obtain ⟨a2, xs, g3, ex3, ok3⟩ := own_box r2 e4
                    rw [g2] at g3
                    cases g3
                    have ea : a2 = a := by simpa [AT.val] using v2
                    subst ea
                    obtain ⟨rfl, ez⟩ := tvs_at e5 at2
                    have okz := (okL_append.mp r2.okZ).1
                    have hm' := hm R2 H2 a2 xs aus Q (ok_list ok3) ok3.2.1 okz
                    rw [ex3, ez] at hm'
                    cases e6 : f ts tss with
                    | none => rw [e6] at s; exact s.elim
                    | some p =>
                      obtain ⟨kl, ys', t'⟩ := p
                      rw [e6] at s hm'
                      simp only at s hm'
                      obtain ⟨ys, z, rfl, rfl, oky, hz, hc, hk, hr⟩ := hm'
                      obtain ⟨A3, e7, k3, r3⟩ := Rel.box (k' := .lst) (Zc := aus) (Z := Z) (Zo := [z]) kl r2 g2 trivial oky ⟨hz, trivial⟩ (fun b => by have := hc b; simp only [AT.cnL]; omega) hk
                      exact hr (s A3 R2 _ z e7 ((k.trans k2).trans k3) rfl r3)
            · rw [if_neg hs] at s; exact s.elim

theorem erL_take (n : Nat) (xs : List AT) : AT.erL (xs.take n) = (AT.erL xs).take n := by simp [erL_map, List.map_take]
theorem erL_drop (n : Nat) (xs : List AT) : AT.erL (xs.drop n) = (AT.erL xs).drop n := by simp [erL_map, List.map_drop]
theorem erL_get {xs : List AT} {i : Nat} {t : T} (h : (AT.erL xs)[i]? = some t) : ∃ x, xs[i]? = some x ∧ x.er = t := by
  rw [erL_map, List.getElem?_map] at h
  cases e : xs[i]? with
  | none => rw [e] at h; cases h
  | some x => rw [e] at h; exact ⟨x, rfl, Option.some.inj h⟩
theorem okL_mem {R : Addr → Prop} {H : Hp} {xs : List AT} {x : AT} (h : AT.okL K R H xs) (m : x ∈ xs) : x.ok K R H := okL_iff.mp h x m
theorem okL_sub {R : Addr → Prop} {H : Hp} {xs ys : List AT} (h : AT.okL K R H xs) (m : ∀ y ∈ ys, y ∈ xs) : AT.okL K R H ys := okL_iff.mpr fun y hy => okL_mem h (m y hy)
theorem cnL_take_drop (b : Addr) (n : Nat) (xs : List AT) : AT.cnL b xs = AT.cnL b (xs.take n) + AT.cnL b (xs.drop n) := by
  rw [← cnL_append, List.take_append_drop]
/-- x, taken out of a list -/
theorem cnL_erase (b : Addr) : ∀ {xs : List AT} {i : Nat} {x : AT}, xs[i]? = some x → AT.cnL b (xs.eraseIdx i) + x.cn b = AT.cnL b xs
  | [], i, x, h => by simp at h
  | y :: ys, 0, x, h => by simp at h; subst h; simp [AT.cnL]; omega
  | y :: ys, i + 1, x, h => by
    have := cnL_erase b (xs := ys) (i := i) (x := x) (by simpa using h)
    simp [AT.cnL]; omega
def appF : List T → List T → Option (Bool × List T × T)
  | xs, [x] => if xs.length < sizeLine then some (false, xs ++ [x], .atm .non) else none
  | _, _ => none
theorem mok_append : MOK K rAppend appF := by
  intro R H a xs zs Q ha okx okz
  match zs, okz with
  | [], _ => trivial
  | _ :: _ :: _, _ => trivial
  | [z], okz =>
    simp only [AT.erL, appF, erL_length]
    by_cases hl : xs.length < sizeLine
    · rw [if_pos hl]
      refine ⟨xs ++ [z], .atm .non, by simp [erL_append, AT.erL], rfl, okL_append.mpr ⟨okx, okz⟩, rfl, fun b => by simp [cnL_append, AT.cnL, AT.cn], fun _ i x e => ?_, fun q => ⟨a, _, _, rfl, rfl, ha, by simpa using hl, by simpa [AT.val] using q⟩⟩
      rw [List.getElem?_append_left (List.getElem?_eq_some_iff.mp e).1]; exact e
    · rw [if_neg hl]; trivial
def extF : List T → List T → Option (Bool × List T × T)
  | xs, [.box _ .lst ys] => if xs.length + ys.length ≤ sizeLine then some (false, xs ++ ys, .atm .non) else none
  | _, _ => none
theorem mok_extend : MOK K rExtend extF := by
  intro R H a xs zs Q ha okx okz
  match zs, okz with
  | [], _ => trivial
  | [.atm _], _ => trivial
  | [.box _ .tup _ _], _ => trivial
  | [.box _ (.dct _) _ _], _ => trivial
  | [.box _ (.dtp _) _ _], _ => trivial
  | [.box _ (.ins _ _) _ _], _ => trivial
  | [.box _ (.exd _) _ _], _ => trivial
  | [.box _ .scr _ _], _ => trivial
  | .atm _ :: _ :: _, _ => trivial
  | .box _ k _ _ :: _ :: _, _ => cases k <;> trivial
  | [.box o .lst p ys], okz =>
    simp only [AT.erL, AT.er, extF, erL_length]
    by_cases hl : xs.length + ys.length ≤ sizeLine
    · rw [if_pos hl]
      refine ⟨xs ++ ys, .atm .non, by simp [erL_append], rfl, okL_append.mpr ⟨okx, okz.1.2.1⟩, rfl, fun b => ?_, fun _ i x e => ?_, fun q => ⟨a, p, _, _, rfl, rfl, ha, ok_list okz.1, by simpa using hl, by simpa [AT.val] using q⟩⟩
      · rw [cnL_append]
        cases o with
        | true => simp [AT.cnL, AT.cn]
        | false => rw [allFL_cn b ys (okz.1.2.2 rfl)]; simp [AT.cnL, AT.cn]
      · rw [List.getElem?_append_left (List.getElem?_eq_some_iff.mp e).1]; exact e
    · rw [if_neg hl]; trivial
def popF : List T → List T → Option (Bool × List T × T)
  | xs, [] => match xs[xs.length - 1]? with
    | some x => some (true, xs.dropLast, x)
    | none => none
  | xs, [.atm (.int i)] => if -(2 ^ 63) ≤ i ∧ i < 2 ^ 63 then match seqIndex? i xs.length with
    | some k => match xs[k]? with
      | some x => some (true, xs.eraseIdx k, x)
      | none => none
    | none => none
    else none
  | _, _ => none
def rPopU : V → List V → Hp → VK → Prop := fun x vs H Q => rPop x vs H Q ∨ rPopAt x vs H Q
theorem MtR.or {id : String} {r r' : V → List V → Hp → VK → Prop} (h : MtR X id r) (h' : MtR X id r') : MtR X id (fun x vs H Q => r x vs H Q ∨ r' x vs H Q) := by
  intro pins s σ H x xs v us Q I rx rxs q
  rcases q with q | q
  · exact h pins s σ H x xs v us Q I rx rxs q
  · exact h' pins s σ H x xs v us Q I rx rxs q
theorem dropLast_erase {α : Type} (xs : List α) : xs.dropLast = xs.eraseIdx (xs.length - 1) := by
  rw [List.dropLast_eq_take, List.eraseIdx_eq_take_drop_succ]
  cases xs with
  | nil => rfl
  | cons x xs => simp
theorem erL_erase (xs : List AT) (i : Nat) : AT.erL (xs.eraseIdx i) = (AT.erL xs).eraseIdx i := by simp [erL_map, List.eraseIdx_eq_take_drop_succ, List.map_append, List.map_take, List.map_drop]
theorem map_erase {α β : Type} (f : α → β) (xs : List α) (i : Nat) : (xs.eraseIdx i).map f = (xs.map f).eraseIdx i := by simp [List.eraseIdx_eq_take_drop_succ, List.map_append, List.map_take, List.map_drop]
theorem mok_pop : MOK K rPopU popF := by
  intro R H a xs zs Q ha okx okz
  match zs, okz with
  | [], _ =>
    simp only [AT.erL, popF]
    split
    · trivial
    · rename_i kl ys' t' e
      split at e
      · rename_i x ex
        simp only [Option.some.injEq, Prod.mk.injEq] at e
        obtain ⟨rfl, rfl, rfl⟩ := e
        rw [erL_length] at ex
        obtain ⟨z, ez, rfl⟩ := erL_get ex
        refine ⟨xs.dropLast, z, ?_, rfl, okL_sub okx fun y hy => List.dropLast_subset xs hy, okL_mem okx (List.mem_of_getElem? ez), fun b => ?_, (fun h => nomatch h), fun q => .inl ⟨a, _, z.val, rfl, rfl, ha, ?_, ?_⟩⟩
        · rw [dropLast_erase, erL_erase, dropLast_erase, erL_length]
        · have := cnL_erase b ez
          rw [← dropLast_erase] at this
          simp only [AT.cnL]; omega
        · rw [List.length_map, List.getElem?_map, ez]; rfl
        · rw [← List.map_dropLast]; exact q
      · cases e
  | [.atm v], _ =>
    cases v with
    | int i =>
      simp only [AT.erL, AT.er, popF]
      split
      · trivial
      · rename_i kl ys' t' e
        split at e
        · rename_i hb
          split at e
          · rename_i k ek
            split at e
            · rename_i x ex
              simp only [Option.some.injEq, Prod.mk.injEq] at e
              obtain ⟨rfl, rfl, rfl⟩ := e
              rw [erL_length] at ek
              obtain ⟨z, ez, rfl⟩ := erL_get ex
              refine ⟨xs.eraseIdx k, z, erL_erase xs k, rfl, okL_sub okx fun y hy => List.mem_of_mem_eraseIdx hy, okL_mem okx (List.mem_of_getElem? ez), fun b => ?_, (fun h => nomatch h), fun q => .inr ⟨a, _, i, k, z.val, rfl, rfl, ha, hb.1, hb.2, ?_, ?_, ?_⟩⟩
              · have := cnL_erase b ez
                simp [AT.cnL, AT.cn]; omega
              · rw [List.length_map]; exact ek
              · rw [List.getElem?_map, ez]; rfl
              · rw [← map_erase]; exact q
            · cases e
          · cases e
        · cases e
    | _ => trivial
  | [.box _ _ _ _], _ => trivial
  | .atm v :: _ :: _, _ => cases v <;> trivial
  | .box _ _ _ _ :: _ :: _, _ => trivial
def insF : List T → List T → Option (Bool × List T × T)
  | xs, [.atm (.int i), x] => if xs.length < sizeLine ∧ 0 ≤ i ∧ i < 2 ^ 63 then some (true, xs.take i.toNat ++ [x] ++ xs.drop i.toNat, .atm .non) else none
  | _, _ => none
def rInsert : V → List V → Hp → VK → Prop := fun x vs H Q => ∃ (l : Addr) (xs : List V) (i : Int) (y : V), x = .ref l ∧ vs = [.int i, y] ∧ H l = some (.lst xs) ∧ xs.length < sizeLine ∧ 0 ≤ i ∧ i < 2 ^ 63 ∧
    Q .non (upd H l (.lst (xs.take i.toNat ++ [y] ++ xs.drop i.toNat)))
theorem mok_insert : MOK K rInsert insF := by
  intro R H a xs zs Q ha okx okz
  match zs, okz with
  | [], _ => trivial
  | [.atm v], _ => cases v <;> trivial
  | [.box _ _ _ _], _ => trivial
  | .box _ _ _ _ :: _ :: _, _ => trivial
  | .atm v :: y :: w :: _, _ => cases v <;> trivial
  | [.atm v, y], okz =>
    cases v with
    | int i =>
      simp only [AT.erL, AT.er, insF, erL_length]
      by_cases hl : xs.length < sizeLine ∧ 0 ≤ i ∧ i < 2 ^ 63
      · rw [if_pos hl]
        refine ⟨xs.take i.toNat ++ [y] ++ xs.drop i.toNat, .atm .non, by simp [erL_append, AT.erL, erL_take, erL_drop], rfl, ?_, rfl, fun b => ?_, (fun h => nomatch h), fun q => ⟨a, _, i, _, rfl, rfl, ha, by simpa using hl.1, hl.2.1, hl.2.2, ?_⟩⟩
        · exact okL_append.mpr ⟨okL_append.mpr ⟨okL_sub okx fun y hy => List.mem_of_mem_take hy, okz.2⟩, okL_sub okx fun y hy => List.mem_of_mem_drop hy⟩
        · have := cnL_take_drop b i.toNat xs
          simp [cnL_append, AT.cnL, AT.cn]; omega
        · simpa [List.map_take, List.map_drop, AT.val] using q
      · rw [if_neg hl]; trivial
    | _ => trivial
def revF : List T → List T → Option (Bool × List T × T)
  | xs, [] => some (true, xs.reverse, .atm .non)
  | _, _ => none
theorem cnL_perm {b : Addr} {xs ys : List AT} (h : xs.Perm ys) : AT.cnL b xs = AT.cnL b ys := by
  induction h with
  | nil => rfl
  | cons x _ ih => simp [AT.cnL, ih]
  | swap x y l => simp [AT.cnL]; omega
  | trans _ _ ih1 ih2 => exact ih1.trans ih2
theorem mok_reverse : MOK K rReverse revF := by
  intro R H a xs zs Q ha okx okz
  match zs, okz with
  | [], _ =>
    simp only [AT.erL, revF]
    refine ⟨xs.reverse, .atm .non, by simp [erL_map, List.map_reverse], rfl, okL_sub okx fun y hy => List.mem_reverse.mp hy, rfl, fun b => ?_, (fun h => nomatch h), fun q => ⟨a, _, rfl, rfl, ha, ?_⟩⟩
    · rw [cnL_perm (List.reverse_perm xs)]; simp [AT.cnL, AT.cn]
    · rw [← List.map_reverse]; exact q
  | _ :: _, _ => trivial
def T.intL : List T → Option (List Int)
  | [] => some []
  | .atm (.int i) :: xs => match T.intL xs with
    | some is => some (i :: is)
    | none => none
  | _ => none
theorem intL_of : ∀ {xs : List AT} {is : List Int}, T.intL (AT.erL xs) = some is → xs = is.map fun i => .atm (.int i)
  | [], is, h => by simp only [AT.erL, T.intL, Option.some.injEq] at h; subst h; rfl
  | .atm v :: xs, is, h => by
    cases v <;> simp only [AT.erL, AT.er, T.intL, reduceCtorEq] at h
    split at h
    · rename_i js e
      simp only [Option.some.injEq] at h; subst h
      simp [intL_of e]
    · cases h
  | .box _ _ _ _ :: xs, is, h => by simp [AT.erL, AT.er, T.intL] at h
def remF : List T → List T → Option (Bool × List T × T)
  | xs, [.atm (.int i)] => match T.intL xs with
    | some is => if i ∈ is then some (true, (is.eraseIdx (is.idxOf i)).map fun i => .atm (.int i), .atm .non) else none
    | none => none
  | _, _ => none
theorem idxOf_first {is : List Int} {i : Int} : ∀ {m : Nat}, m < is.idxOf i → is[m]? ≠ some i := by
  induction is with
  | nil => intro m h; simp
  | cons a l ih =>
    intro m h
    rw [List.idxOf_cons] at h
    by_cases e : a = i
    · subst e; simp at h
    · have e' : (a == i) = false := by simpa using e
      rw [e'] at h
      simp only [cond_false] at h
      cases m with
      | zero => simpa using e
      | succ m => simpa using ih (m := m) (by omega)
theorem mok_remove : MOK K rRemI remF := by
  intro R H a xs zs Q ha okx okz
  match zs, okz with
  | [], _ => trivial
  | [.box _ _ _ _], _ => trivial
  | .atm v :: _ :: _, _ => cases v <;> trivial
  | .box _ _ _ _ :: _ :: _, _ => trivial
  | [.atm v], _ =>
    cases v with
    | int i =>
      simp only [AT.erL, AT.er, remF]
      split
      · trivial
      · rename_i kl ys' t' e
        split at e
        · rename_i is ei
          split at e
          · rename_i hm
            simp only [Option.some.injEq, Prod.mk.injEq] at e
            obtain ⟨rfl, rfl, rfl⟩ := e
            have ex := intL_of ei
            have ev : xs.map AT.val = is.map V.int := by rw [ex, List.map_map]; rfl
            have c0 : ∀ (l : List Int) (b : Addr), AT.cnL b (l.map fun i => AT.atm (.int i)) = 0 := by
              intro l b
              induction l with
              | nil => rfl
              | cons x l ih => simp [AT.cnL, AT.cn, ih]
            refine ⟨(is.eraseIdx (is.idxOf i)).map fun i => .atm (.int i), .atm .non, by simp [erL_map, AT.er], rfl, okL_iff.mpr fun y hy => ?_, rfl, fun b => by rw [c0]; simp [AT.cn], (fun h => nomatch h), fun q => ⟨a, is, i, is.idxOf i, rfl, rfl, by rw [← ev]; exact ha, ?_, fun m hm => idxOf_first hm, ?_⟩⟩
            · obtain ⟨j, _, rfl⟩ := List.mem_map.mp hy; rfl
            · have hlt : is.idxOf i < is.length := List.idxOf_lt_length_iff.mpr hm
              rw [List.getElem?_eq_getElem hlt, List.getElem_idxOf]
            · simpa [List.map_map, Function.comp_def, AT.val] using q
          · cases e
        · cases e
    | _ => trivial
/-! the rules -/
theorem ie_mut {id : String} {name : Str} {r : V → List V → Hp → VK → Prop} {f : List T → List T → Option (Bool × List T × T)} {o e : Expr} {es : List Expr} {gp : S → RE} {gs : List (S → RE)} {apos cpos : Pos} (slot : Slot "list" name id)
    (hty : typeOf (.builtin id) = pure (.type "method_descriptor")) (hm : MtR X id r) (hf : MOK X.K r f) (ho : IE X W o gp) (ha : IA X W (e :: es) gs)
    (hbase : attributeBase o name X.env (eval o X.env) = eval o X.env := by rfl)
    (hfew : ((backTo cpos (starEach (e :: es) X.env)).all (fun x => !x.1) && (backToKw cpos (keywordEach [] X.env)).all (fun x => x.1.isSome)
      && decide ((e :: es).length + ([] : List Keyword).length + (if ([] : List Keyword).isEmpty then 0 else 1) < 30)) = true := by rfl)
    (hline : (apos.endLine == cpos.line) = true := by rfl) (hs : starEach (e :: es) X.env = (false, eval e X.env) :: starEach es X.env := by rfl) (hplain : (backTo cpos (starEach es X.env)).any (·.1) = false := by rfl) :
    IE X W (.Call (.Attribute o name apos) (e :: es) [] cpos) (mutE f gp (argsG gs)) := ⟨PE.mono (pe_bm PySem.F.plainAttrs_list slot hty hm ho.pe ha.pa hbase hfew hline hs hplain) fun σ H Q h => mut_sat hf h⟩
theorem ie_mut0 {id : String} {name : Str} {r : V → List V → Hp → VK → Prop} {f : List T → List T → Option (Bool × List T × T)} {o : Expr} {gp : S → RE} {apos cpos : Pos} (slot : Slot "list" name id)
    (hty : typeOf (.builtin id) = pure (.type "method_descriptor")) (hm : MtR X id r) (hf : MOK X.K r f) (ho : IE X W o gp)
    (hbase : attributeBase o name X.env (eval o X.env) = eval o X.env := by rfl) (hline : (apos.endLine == cpos.line) = true := by rfl) :
    IE X W (.Call (.Attribute o name apos) [] [] cpos) (mutE f gp (argsG [])) := ⟨PE.mono (pe_bm0 PySem.F.plainAttrs_list slot hty hm ho.pe hbase hline) fun σ H Q h =>
      (tE.mono (mut_sat hf h) fun x H1 z => ⟨z.1, tA_nil (K := X.K) (W := W) (σ := σ) (H := H1) (Q := fun vs H2 => r x vs H2 Q) z.2⟩)⟩
end
end TL
namespace TL
open PySem PySem.Spec L2

/-! ## o[i] = e: lists, dicts -/
def putL {κ : Type} [DecidableEq κ] (ks : List κ) (k : κ) (t : T) (xs : List T) : List T := (ks.zip xs).map fun p => if p.1 = k then t else p.2
def setF (k : Kd) (xs : List T) (i t : T) : Option (Kd × List T) := match k with
  | .lst => match i with
    | .atm (.int j) => match ixN xs.length j with
      | some n => some (.lst, xs.set n t)
      | none => none
    | _ => none
  | .dct ks => match i.key with
    | some x => if ks.length < sizeLine then
        if hasK ks x = true then (if t.allF = true then some (.dct ks, putL ks x t xs) else none) else some (.dct (ks ++ [x]), xs ++ [t])
      else none
    | none => none
  | .dtp ks => match i.tkey with
    | some x => if ks.length < sizeLine then
        if hasK ks x = true then (if t.allF = true then some (.dtp ks, putL ks x t xs) else none) else some (.dtp (ks ++ [x]), xs ++ [t])
      else none
    | none => none
  | _ => none
section
variable {X : Cx} {W : Wh} {K : PySem.W.Frag} {G : Gr}
def rSetD : TSet := fun o i v H Q => ∃ a H', o = .ref a ∧ DPut H a i v H' ∧ Q H'
theorem set_dct (hu : X.A.units + 1 < cLine) : PSet X rSetD := by
  intro pins s σ H o i v ov iv u Q I ro ri rv ⟨a, H', eo, g, q⟩
  subst eo
  obtain rfl : ov = Value.ref a := ro
  exact d_setItem hu I g ri rv fun s' I' => ⟨H', I', q⟩
def rSetU : TSet := fun o i v H Q => rSetL o i v H Q ∨ rSetD o i v H Q
theorem set_U (hu : X.A.units + 1 < cLine) : PSet X rSetU := by
  intro pins s σ H o i v ov iv u Q I ro ri rv q
  rcases q with q | q
  · exact set_list pins s σ H o i v ov iv u Q I ro ri rv q
  · exact set_dct hu pins s σ H o i v ov iv u Q I ro ri rv q
/-- the changed box -/
theorem putK_zip_new {κ : Type} [DecidableEq κ] {ks : List κ} {vs : List V} {k : κ} {v : V} (hl : ks.length = vs.length) (h : hasK ks k = false) : putK (ks.zip vs) k v = (ks ++ [k]).zip (vs ++ [v]) := by
  have : ((ks.zip vs).any fun kv => decide (kv.1 = k)) = false := by rw [valV_any, valV_isSome hl, h]
  unfold putK
  rw [if_neg (by rw [this]; decide), List.zip_append hl]; rfl
theorem putK_zip_old {κ : Type} [DecidableEq κ] {ks : List κ} {vs : List V} {k : κ} {v : V} (hl : ks.length = vs.length) (h : hasK ks k = true) : putK (ks.zip vs) k v = ks.zip ((ks.zip vs).map fun p => if p.1 = k then v else p.2) := by
  have : ((ks.zip vs).any fun kv => decide (kv.1 = k)) = true := by rw [valV_any, valV_isSome hl, h]
  unfold putK
  rw [if_pos this]
  have : ∀ (ks : List κ) (vs : List V), ks.length = vs.length → (ks.zip vs).map (fun kv => if kv.1 = k then (kv.1, v) else kv) = ks.zip ((ks.zip vs).map fun p => if p.1 = k then v else p.2) := by
    intro ks
    induction ks with
    | nil => intro vs _; rfl
    | cons x ks ih =>
      intro vs hl
      cases vs with
      | nil => simp at hl
      | cons y vs =>
        simp only [List.zip_cons_cons, List.map_cons]
        rw [ih vs (by simpa using hl)]
        by_cases e : x = k
        · simp [e]
        · simp [e]
  exact this ks vs hl
/-- putL, of annotated trees -/
def putA {κ : Type} [DecidableEq κ] (ks : List κ) (k : κ) (t : AT) (xs : List AT) : List AT := (ks.zip xs).map fun p => if p.1 = k then t else p.2
theorem putA_er {κ : Type} [DecidableEq κ] (k : κ) (t : AT) : ∀ (ks : List κ) (xs : List AT), AT.erL (putA ks k t xs) = putL ks k t.er (AT.erL xs)
  | [], _ => rfl
  | _ :: _, [] => rfl
  | x :: ks, y :: xs => by
    have := putA_er k t ks xs
    unfold putA putL at *
    simp only [AT.erL, List.zip_cons_cons, List.map_cons, this]
    by_cases e : x = k <;> simp [e]
theorem putA_val {κ : Type} [DecidableEq κ] (k : κ) (t : AT) : ∀ (ks : List κ) (xs : List AT), (putA ks k t xs).map AT.val = (ks.zip (xs.map AT.val)).map fun p => if p.1 = k then t.val else p.2
  | [], _ => rfl
  | _ :: _, [] => rfl
  | x :: ks, y :: xs => by
    have := putA_val k t ks xs
    unfold putA at *
    simp only [List.zip_cons_cons, List.map_cons, this]
    by_cases e : x = k <;> simp [e]
theorem putA_cn {κ : Type} [DecidableEq κ] (b : Addr) (k : κ) {t : AT} (h : t.cn b = 0) : ∀ (ks : List κ) (xs : List AT), AT.cnL b (putA ks k t xs) ≤ AT.cnL b xs
  | [], _ => by simp [putA, AT.cnL]
  | _ :: _, [] => by simp [putA, AT.cnL]
  | x :: ks, y :: xs => by
    have := putA_cn b k h ks xs
    unfold putA at *
    simp only [List.zip_cons_cons, List.map_cons, AT.cnL]
    by_cases e : x = k
    · simp only [e, if_true, h]; omega
    · simp only [e, if_false]; omega
theorem putA_mem {κ : Type} [DecidableEq κ] (k : κ) (t : AT) : ∀ (ks : List κ) (xs : List AT), ∀ y ∈ putA ks k t xs, y = t ∨ y ∈ xs
  | [], _, y, h => by simp [putA] at h
  | _ :: _, [], y, h => by simp [putA] at h
  | x :: ks, z :: xs, y, h => by
    have := putA_mem k t ks xs y
    unfold putA at *
    simp only [List.zip_cons_cons, List.map_cons, List.mem_cons] at h
    rcases h with h | h
    · by_cases e : x = k
      · rw [if_pos e] at h; exact .inl h
      · rw [if_neg e] at h; subst h; exact .inr (List.mem_cons_self ..)
    · rcases this h with h | h
      · exact .inl h
      · exact .inr (List.mem_cons_of_mem _ h)
theorem putA_len {κ : Type} [DecidableEq κ] (k : κ) (t : AT) {ks : List κ} {xs : List AT} (h : ks.length = xs.length) : (putA ks k t xs).length = xs.length := by simp [putA, h]
theorem set_ok {R : Addr → Prop} {H : Hp} {a : Addr} {k k' : Kd} {xs : List AT} {ai av : AT} {ys' : List T} {Q : Hp → Prop} (hb : (AT.box true k a xs).ok K R H) (oki : ai.ok K R H) (okv : av.ok K R H) (e : setF k (AT.erL xs) ai.er av.er = some (k', ys')) :
    ∃ ys, AT.erL ys = ys' ∧ AT.okL K R H ys ∧ k'.fits ys.length ∧ (∀ b, AT.cnL b ys ≤ AT.cnL b xs + av.cn b) ∧ (Q (upd H a (k'.ho (ys.map AT.val))) → rSetU (.ref a) ai.val av.val H Q) := by
  have okx := hb.2.1
  cases k with
  | lst =>
    simp only [setF] at e
    split at e
    · rename_i j ej
      obtain rfl := invA ej
      split at e
      · rename_i n en
        simp only [Option.some.injEq, Prod.mk.injEq] at e
        obtain ⟨rfl, rfl⟩ := e
        rw [erL_length] at en
        have hn := (ixN_seq en).2.1
        refine ⟨xs.set n av, by simp [erL_map, List.map_set], okL_iff.mpr fun y hy => ?_, trivial, fun b => ?_, fun q => .inl ⟨a, xs.map AT.val, j, n, rfl, rfl, ok_list hb, by simpa using en, by rw [← List.map_set]; exact q⟩⟩
        · rcases List.mem_or_eq_of_mem_set hy with h | h
          · exact okL_mem okx h
          · subst h; exact okv
        · have := cnL_set (b := b) (x := av) (List.getElem?_eq_getElem hn)
          omega
      · cases e
    · cases e
  | dct ks =>
    obtain ⟨hl, hH⟩ := ok_dct hb
    simp only [setF] at e
    split at e
    · rename_i x ex
      split at e
      · rename_i hz
        split at e
        · rename_i hk
          split at e
          · rename_i hf
            simp only [Option.some.injEq, Prod.mk.injEq] at e
            obtain ⟨rfl, rfl⟩ := e
            refine ⟨putA ks x av xs, putA_er x av ks xs, okL_iff.mpr fun y hy => (putA_mem x av ks xs y hy).elim (fun h => h ▸ okv) (okL_mem okx), ?_, fun b => Nat.le_trans (putA_cn b x (allF_cn b av hf) ks xs) (Nat.le_add_right _ _), fun q => .inr ⟨a, _, rfl, ?_, q⟩⟩
            · simpa [Kd.fits, putA_len x av hl] using hl
            · rw [key_of ex]
              refine .inl ⟨_, x, hH, rfl, by simp [hl] at hz ⊢; omega, ?_⟩
              rw [putK_zip_old (by simpa using hl) hk]
              simp only [Kd.ho, putA_val]
          · cases e
        · rename_i hk
          simp only [Option.some.injEq, Prod.mk.injEq] at e
          obtain ⟨rfl, rfl⟩ := e
          refine ⟨xs ++ [av], by simp [erL_append, AT.erL], okL_append.mpr ⟨okx, okv, trivial⟩, by simp [Kd.fits, hl], fun b => by simp [cnL_append, AT.cnL], fun q => .inr ⟨a, _, rfl, ?_, q⟩⟩
          rw [key_of ex]
          refine .inl ⟨_, x, hH, rfl, by simp [hl] at hz ⊢; omega, ?_⟩
          rw [putK_zip_new (by simpa using hl) (by simpa using hk)]
          simp [Kd.ho]
      · cases e
    · cases e
  | dtp ks =>
    obtain ⟨hl, hH⟩ := ok_dtp hb
    simp only [setF] at e
    split at e
    · rename_i x ex
      have hkey : ∃ b, ai.val = .ref b ∧ H b = some (.tup (x.map kV)) := by
        cases ai with
        | atm v => simp [AT.er, T.tkey] at ex
        | box o2 k2 p2 zs =>
          cases k2 <;> simp only [AT.er, T.tkey, reduceCtorEq] at ex
          exact ⟨p2, rfl, by rw [← keys_of ex]; exact ok_tup oki⟩
      obtain ⟨b0, ev, eb⟩ := hkey
      split at e
      · rename_i hz
        split at e
        · rename_i hk
          split at e
          · rename_i hf
            simp only [Option.some.injEq, Prod.mk.injEq] at e
            obtain ⟨rfl, rfl⟩ := e
            refine ⟨putA ks x av xs, putA_er x av ks xs, okL_iff.mpr fun y hy => (putA_mem x av ks xs y hy).elim (fun h => h ▸ okv) (okL_mem okx), ?_, fun b => Nat.le_trans (putA_cn b x (allF_cn b av hf) ks xs) (Nat.le_add_right _ _), fun q => .inr ⟨a, _, rfl, ?_, q⟩⟩
            · simpa [Kd.fits, putA_len x av hl] using hl
            · rw [ev]
              refine .inr ⟨_, x, b0, hH, rfl, eb, by simp [hl] at hz ⊢; omega, ?_⟩
              rw [putK_zip_old (by simpa using hl) hk]
              simp only [Kd.ho, putA_val]
          · cases e
        · rename_i hk
          simp only [Option.some.injEq, Prod.mk.injEq] at e
          obtain ⟨rfl, rfl⟩ := e
          refine ⟨xs ++ [av], by simp [erL_append, AT.erL], okL_append.mpr ⟨okx, okv, trivial⟩, by simp [Kd.fits, hl], fun b => by simp [cnL_append, AT.cnL], fun q => .inr ⟨a, _, rfl, ?_, q⟩⟩
          rw [ev]
          refine .inr ⟨_, x, b0, hH, rfl, eb, by simp [hl] at hz ⊢; omega, ?_⟩
          rw [putK_zip_new (by simpa using hl) (by simpa using hk)]
          simp [Kd.ho]
      · cases e
    · cases e
  | _ => simp [setF] at e
/-- the store's statement: value, place, index -/
def stS (g : S → RA) (s : S) : RS := match g s with
  | .ok [.v t, .p r q, e] m s1 => match s1.gt r q, view s1 e with
    | some (.box true k xs), some i => match setF k xs i t with
      | some (k', ys) => .nx (S.upd true s1 r q (.box true k' ys))
      | none => .fail
    | _, _ => .fail
  | .ok _ _ _ => .fail
  | .ex C fs s1 => .ex C fs s1
  | .fail => .fail
theorem args3 {A : AS} {t : T} {r : Rt} {q : List Nat} {e : Ev} {aus tz : List AT} (h : ArgsAt A [.v t, .p r q, e] aus tz) : ∃ av ao ai, aus = [av, ao, ai] ∧ av.er = t ∧ A.ga r q = some ao ∧ (∃ tz', tz = av :: tz') ∧ (∀ i, view A.er e = some i → ai.er = i) := by
  obtain ⟨av, aus1, tz1, rfl, rfl, et, h⟩ := h
  obtain ⟨ao, aus2, rfl, ga, h⟩ := h
  cases e with
  | v u =>
    obtain ⟨ai, aus3, tz3, rfl, rfl, eu, rfl, rfl⟩ := h
    exact ⟨av, ao, ai, rfl, et, ga, ⟨_, rfl⟩, fun i e => by simp only [view, Option.some.injEq] at e; rw [eu, e]⟩
  | p r1 q1 =>
    obtain ⟨ai, aus3, rfl, g1, rfl, rfl⟩ := h
    exact ⟨av, ao, ai, rfl, et, ga, ⟨_, rfl⟩, fun i e => by simp only [view, er_ga, g1, Option.map_some, Option.some.injEq] at e; exact e⟩
theorem st_sat {g : S → RA} {D : Ends} {σ : St} {H : Hp} (h : tS K W (stS g) D σ H) : tA K W g σ H fun vs H' => ∃ v o i, vs = [v, o, i] ∧ rSetU o i v H' fun H4 => D.nx σ H4 := by
  obtain ⟨A, Z, R, rel, s⟩ := h
  refine ⟨A, Z, R, rel, ?_⟩
  unfold stS at s
  split at s
  · rename_i t r q e m s1 eg
    rw [eg]
    intro A' R' H' aus tz ea k at' r'
    subst ea
    split at s
    · rename_i kk xs i e1 e2
      split at s
      · rename_i k' ys' e3
        obtain ⟨av, ao, ai, rfl, et, ga, ⟨tz', rfl⟩, vi⟩ := args3 at'
        obtain ⟨a, xs, g0, rfl, ok0⟩ := own_box r' e1
        rw [ga] at g0; cases g0
        have oks := args_ok at' r'
        have ei := vi _ e2
        subst et
        rw [← ei] at e3
        obtain ⟨ys, rfl, oky, fit, hc, hr⟩ := set_ok (Q := fun H4 => D.nx σ H4) ok0 oks.2.2.1 oks.1 e3
        obtain ⟨A3, e7, k3, r3⟩ := Rel.box (Zc := av :: tz') (Z := Z) (Zo := []) true r' ga fit oky trivial (fun b => by have := hc b; simp only [AT.cnL]; omega) (fun h => nomatch h)
        exact ⟨_, _, _, rfl, hr (s A3 R' σ _ e7 (k3.hdv.trans k.hdv) r3)⟩
      · exact s.elim
    · exact s.elim
  · exact s.elim
  · rename_i C fs s1 eg
    rw [eg]; exact SatX.toS s
  · exact s.elim
theorem is_st {o i e : Expr} {g gp gi : S → RE} {pos pos' : Pos} (hu : X.A.units + 1 < cLine) (he : IE X W e g) (ho : IE X W o gp) (hi : IE X W i gi)
    (hs : swapsWithSole [.Subscript o i pos'] e pos.line X.env = pure false := by rfl) (hw : swappedStores [.Subscript o i pos'] e X.env = pure none := by rfl)
    (h1 : (assignEach [.Subscript o i pos'] X.env).map (·.2) = [assign (.Subscript o i pos') X.env] := by rfl)
    (ha : ∀ v, assign (.Subscript o i pos') X.env v = (do
      let ov ← holding [v] (eval o X.env)
      let iv ← holding [v, ov] (eval i X.env)
      standAt pos'
      holding [v, ov, iv] (setItem ov iv v)
      release [v, ov, iv] []) := by intro _; rfl) : IS X W (.Assign [.Subscript o i pos'] e pos) (stS (argsG [g, gp, gi])) :=
  ⟨PS.mono (ps_asg he.pe (pg_sub ho.pe hi.pe (set_U hu) ha) hs hw h1) fun D σ H h => (tA_three (st_sat h)).mono fun x H1 z => z.mono fun y H2 z => z.mono fun w H3 ⟨_, _, _, e, q⟩ => by
    simp only [List.cons.injEq, and_true] at e; obtain ⟨rfl, rfl, rfl⟩ := e; exact q⟩
end
end TL
namespace TL
open PySem PySem.Spec L2

/-! ## Targets -/
/-- the slots but those named are as they were -/
def SameBut (ws : List Nat) (σ σ' : St) : Prop := σ'.length = σ.length ∧ ∀ i, i ∉ ws → σ'[i]? = σ[i]?
theorem SameBut.refl (ws : List Nat) (σ : St) : SameBut ws σ σ := ⟨rfl, fun _ _ => rfl⟩
/-- .. and so are the roots but those -/
structure Sto (ws : List Nat) (A A' : AS) (σ σ' : St) : Prop where
  sb : SameBut ws σ σ'
  hd : hdv A' = hdv A
  kw : ∀ (r : Rt) (p : List Nat) (t : AT), (∀ v ∈ ws, r ≠ .sl v) → A.ga r p = some t → ∃ u, A'.ga r p = some u ∧ u.val = t.val
theorem Sto.refl (ws : List Nat) (A : AS) (σ : St) : Sto ws A A σ σ := ⟨.refl ws σ, rfl, fun _ _ t _ e => ⟨t, e, rfl⟩⟩
section
variable {X : Cx} {W : Wh} {K : PySem.W.Frag} {G : Gr}
/-- a thing in hand is stored: b tells the state -/
def tG (K : PySem.W.Frag) (W : Wh) (ws : List Nat) (b : T → S → Option S) : TG := fun v σ H Q => ∃ A Z au R, v = au.val ∧ Rel K W.G A (au :: Z) R σ H ∧ match b au.er A.er with
  | none => False
  | some s => ∀ A' R' σ' H', A'.er = s → Sto ws A A' σ σ' → Rel K W.G A' Z R' σ' H' → Q σ' H'
def tGs (K : PySem.W.Frag) (W : Wh) (ws : List Nat) (b : List T → S → Option S) : TGs := fun vs σ H Q => ∃ A Z aus R, vs = aus.map AT.val ∧ Rel K W.G A (aus ++ Z) R σ H ∧ match b (AT.erL aus) A.er with
  | none => False
  | some s => ∀ A' R' σ' H', A'.er = s → Sto ws A A' σ σ' → Rel K W.G A' Z R' σ' H' → Q σ' H'
structure IG (X : Cx) (W : Wh) (e : Expr) (ws : List Nat) (b : T → S → Option S) : Prop where
  pg : PG X e (tG X.K W ws b)
structure IGs (X : Cx) (W : Wh) (es : List Expr) (ws : List Nat) (b : List T → S → Option S) : Prop where
  pg : PGs X es (tGs X.K W ws b)
theorem PG.mono {e : Expr} {t t' : TG} (h : PG X e t) (m : ∀ v σ H Q, t' v σ H Q → t v σ H Q) : PG X e t' := ⟨fun pins s σ H v u Q I r q => h.run pins s σ H v u Q I r (m v σ H Q q)⟩
theorem PGs.mono {es : List Expr} {t t' : TGs} (h : PGs X es t) (m : ∀ v σ H Q, t' v σ H Q → t v σ H Q) : PGs X es t' := ⟨fun pins s σ H v u Q I r q => h.run pins s σ H v u Q I r (m v σ H Q q)⟩
def bN (i : Nat) (t : T) (s : S) : Option S := if i < s.sl.length then some (s.put i (.t t)) else none
theorem set_same {σ : St} {i : Nat} {v : Option V} : SameBut [i] σ (σ.set i v) := ⟨by simp, fun j hj => by rw [List.getElem?_set_ne]; intro e; exact hj (by simp [e])⟩
theorem ig_name (i : Nat) {x : Str} {pos : Pos} (hN : X.N.Nodup) (hi : X.N[i]? = some x := by rfl) (hx : Loc X.env.scope x := by first | exact Or.inl rfl | exact Or.inr rfl)
    (hf : X.fn x = true ∨ X.env.scope.names.lookup x = some .local := by first | exact .inl rfl | exact .inr rfl) : IG X W (.Name x pos) [i] (bN i) := by
  refine ⟨PG.mono (pg_name hN hi hx hf) fun v σ H Q h => ?_⟩
  obtain ⟨A, Z, au, R, rfl, r, s⟩ := h
  simp only [bN, er_len] at s
  show Q (σ.set i (some au.val)) H
  split at s
  · exact s.elim
  · rename_i s1 e
    split at e
    · rename_i hi
      simp only [Option.some.injEq] at e; subst e
      refine s (A.put i (.t au)) R _ H ?_ ⟨set_same, put_hdv A i _, fun r p t hr e => ⟨t, by rw [put_ga_ne (hr i (by simp))]; exact e, rfl⟩⟩ (Rel.put (Zc := [au]) i (.t au) (some au.val) r hi (fun b => by simp [Sl.cn, AT.cnL]) (fun t e => ?_) fun _ _ e => nomatch e)
      · rw [put_er]; rfl
      · cases e; exact ⟨r.head, rfl⟩
    · cases e
def bNil : List T → S → Option S
  | [], s => some s
  | _ :: _, _ => none
def bCons (b : T → S → Option S) (bs : List T → S → Option S) : List T → S → Option S
  | [], _ => none
  | t :: ts, s => match b t s with
    | some s1 => bs ts s1
    | none => none
theorem igs_nil : IGs X W [] [] bNil := by
  refine ⟨PGs.mono pgs_nil fun v σ H Q h => ?_⟩
  obtain ⟨A, Z, aus, R, rfl, r, s⟩ := h
  cases aus with
  | nil => exact ⟨rfl, s A R σ H rfl (Sto.refl _ _ _) r⟩
  | cons a aus => exact s.elim
theorem igs_cons {e : Expr} {es : List Expr} {ws ws' : List Nat} {b : T → S → Option S} {bs : List T → S → Option S} (h : IG X W e ws b) (hs : IGs X W es ws' bs) (he : (assignEach (e :: es) X.env).map (·.2) = assign e X.env :: (assignEach es X.env).map (·.2) := by rfl) :
    IGs X W (e :: es) (ws ++ ws') (bCons b bs) := by
  refine ⟨PGs.mono (pgs_cons h.pg hs.pg he) fun v σ H Q q => ?_⟩
  obtain ⟨A, Z, aus, R, rfl, r, s⟩ := q
  cases aus with
  | nil => exact s.elim
  | cons a aus =>
    simp only [AT.erL, bCons] at s
    refine ⟨a.val, aus.map AT.val, rfl, A, aus ++ Z, a, R, rfl, r, ?_⟩
    cases e1 : b a.er A.er with
    | none => rw [e1] at s; exact s
    | some s1 =>
      rw [e1] at s
      intro A' R' σ' H' ea st r'
      refine ⟨A', Z, aus, R', rfl, r', ?_⟩
      rw [ea]
      cases e2 : bs (AT.erL aus) s1 with
      | none => simp only [e2] at s
      | some s2 =>
        simp only [e2] at s ⊢
        intro A2 R2 σ2 H2 ea2 st2 r2
        refine s A2 R2 σ2 H2 ea2 ⟨⟨st2.sb.1.trans st.sb.1, fun i hi => ?_⟩, st2.hd.trans st.hd, fun r p t hr e => ?_⟩ r2
        · rw [st2.sb.2 i fun m => hi (List.mem_append_right _ m), st.sb.2 i fun m => hi (List.mem_append_left _ m)]
        · obtain ⟨u, e1, v1⟩ := st.kw r p t (fun v hv => hr v (List.mem_append_left _ hv)) e
          obtain ⟨w, e2, v2⟩ := st2.kw r p u (fun v hv => hr v (List.mem_append_right _ hv)) e1
          exact ⟨w, e2, v2.trans v1⟩
def bT (n : Nat) (bs : List T → S → Option S) : T → S → Option S
  | .box _ .tup xs, s => if xs.length = n then bs xs s else none
  | _, _ => none
theorem ig_tup {es : List Expr} {k : Nat} {pos : Pos} {ws : List Nat} {bs : List T → S → Option S} {n : Nat} (hc : X.calm = true) (h : IGs X W es ws bs) (hn : (assignEach es X.env).length = n := by rfl) (hst : (assignEach es X.env).findIdx? (·.1) = none := by rfl) :
    IG X W (.Tuple es k pos) ws (bT n bs) := by
  refine ⟨PG.mono (pg_tup hc h.pg hn hst) fun v σ H Q q => ?_⟩
  obtain ⟨A, Z, au, R, rfl, r, s⟩ := q
  match au, r, s with
  | .atm _, _, s => exact s.elim
  | .box _ .lst _ _, _, s => exact s.elim
  | .box _ (.dct _) _ _, _, s => exact s.elim
  | .box _ (.dtp _) _ _, _, s => exact s.elim
  | .box _ (.ins _ _) _ _, _, s => exact s.elim
  | .box _ (.exd _) _ _, _, s => exact s.elim
  | .box _ .scr _ _, _, s => exact s.elim
  | .box o .tup a xs, r, s =>
    simp only [AT.er, bT, erL_length] at s
    by_cases hl : xs.length = n
    · rw [if_pos hl] at s
      refine ⟨a, xs.map AT.val, rfl, .of (ok_tup r.head), by simpa using hl, A, Z, xs, R, rfl, r.temps (okL_append.mpr ⟨r.head.2.1, r.okZ.2⟩) fun b => ?_, s⟩
      rw [cnL_append]
      simp only [AT.cnL]
      cases o with
      | true => simp only [AT.cn, if_true]; omega
      | false => rw [allFL_cn b xs (r.head.2.2 rfl)]; omega
    · rw [if_neg hl] at s; exact s.elim

/-! ## What is walked -/
/-- the walk J gives the things its, while the trees L stand among the temps -/
def WalkIt (K : PySem.W.Frag) (J : It) (L : List AT) (its : List T) : Prop := ∀ G A Z R σ H, Rel K G A (L ++ Z) R σ H →
  J.stop its.length H ∧ ∀ i t, its[i]? = some t → J.go i H ∧ ∀ x H', J.yld i H x H' → ∃ au R', au.val = x ∧ au.er = t ∧ Rel K G A (au :: (L ++ Z)) R' σ H'
inductive RI where
  | ok (its : List T) (m : Md) (s : S)
  | ex (C : Addr) (fs : Xf) (s : S)
  | fail
def SatI (K : PySem.W.Frag) (W : Wh) (A : AS) (Z : List AT) (σ : St) (Q : It → Hp → Prop) : RI → Prop
  | .ok its m s => ∀ A' R' H' L J, A'.er = s → Keep m A A' → Rel K W.G A' (L ++ Z) R' σ H' → WalkIt K J L its → Q J H'
  | .ex C fs s => SatX K W A σ C fs s
  | .fail => False
def tI (K : PySem.W.Frag) (W : Wh) (g : S → RI) : TI := fun σ H Q => ∃ A Z R, Rel K W.G A Z R σ H ∧ SatI K W A Z σ Q (g A.er)
structure II (X : Cx) (W : Wh) (tg iter : Expr) (g : S → RI) : Prop where
  pi : PI X tg iter (tI X.K W g)
theorem PI.mono {tg iter : Expr} {t t' : TI} (h : PI X tg iter t) (m : ∀ σ H Q, t' σ H Q → t σ H Q) : PI X tg iter t' := ⟨fun pins s σ H Q I q => h.run pins s σ H Q I (m σ H Q q)⟩
theorem Rel.perm {A : AS} {Z Z' : List AT} {R : Addr → Prop} {σ : St} {H : Hp} (h : Rel K G A Z R σ H) (p : Z.Perm Z') : Rel K G A Z' R σ H :=
  h.temps (okL_iff.mpr fun y hy => okL_iff.mp h.okZ y (p.mem_iff.mpr hy)) fun b => by rw [cnL_perm p]; omega
/-- a list's, a tuple's things, all frozen or atoms -/
def T.items : T → Option (List T)
  | .box _ .lst xs => if T.allFL xs = true then some xs else none
  | .box _ .scr xs => if T.allFL xs = true then some xs else none
  | _ => none
theorem walk_list {au : AT} {its : List T} (h : au.er.items = some its) : ∃ a, au.val = .ref a ∧ WalkIt K (Itl K a) [au] its ∧ ∀ {R : Addr → Prop} {H : Hp}, au.ok K R H → ∃ xs, SqL K H a xs ∧ xs.length = its.length := by
  have key : ∀ {o : Bool} {k : Kd} {a : Addr} {xs : List AT}, T.allFL (AT.erL xs) = true → (∀ {R : Addr → Prop} {H : Hp}, (AT.box o k a xs).ok K R H → SqL K H a (xs.map AT.val)) → WalkIt K (Itl K a) [AT.box o k a xs] (AT.erL xs) := by
    intro o k a xs hf hs G A Z R σ H r
    have sq := hs r.head
    refine ⟨⟨_, sq, by simp [erL_length]⟩, fun i t e => ?_⟩
    obtain ⟨x, ex, rfl⟩ := erL_get e
    have gx : (xs.map AT.val)[i]? = some x.val := by rw [List.getElem?_map, ex]; rfl
    refine ⟨⟨_, _, sq, gx⟩, fun y H' hy => ?_⟩
    obtain ⟨rfl, hy⟩ := hy
    have := hy _ sq
    rw [gx] at this
    refine ⟨x, R, Option.some.inj this, rfl, r.dup (okL_mem r.head.2.1 (List.mem_of_getElem? ex)) (allFL_iff.mp hf x.er ?_)⟩
    rw [erL_map]; exact List.mem_map_of_mem (List.mem_of_getElem? ex)
  match au, h with
  | .box o .lst a xs, h =>
    simp only [AT.er, T.items] at h
    split at h
    · rename_i hf
      simp only [Option.some.injEq] at h; subst h
      exact ⟨a, rfl, key hf fun ok => .of (ok_list ok), fun ok => ⟨_, .of (ok_list ok), by simp [erL_length]⟩⟩
    · cases h
  | .box o .scr a xs, h =>
    simp only [AT.er, T.items] at h
    split at h
    · rename_i hf
      simp only [Option.some.injEq] at h; subst h
      exact ⟨a, rfl, key hf fun ok => ok_scr ok, fun ok => ⟨_, ok_scr ok, by simp [erL_length]⟩⟩
    · cases h
  | .atm _, h => simp [AT.er, T.items] at h
  | .box _ .tup _ _, h => simp [AT.er, T.items] at h
  | .box _ (.dct _) _ _, h => simp [AT.er, T.items] at h
  | .box _ (.dtp _) _ _, h => simp [AT.er, T.items] at h
  | .box _ (.ins _ _) _ _, h => simp [AT.er, T.items] at h
  | .box _ (.exd _) _ _, h => simp [AT.er, T.items] at h
/-- over a list in hand -/
def iL (g : S → RE) (s : S) : RI := match g s with
  | .ok (.v t) m s1 => match t.items with
    | some its => .ok its m s1
    | none => .fail
  | .ok (.p _ _) _ _ => .fail
  | .ex C fs s1 => .ex C fs s1
  | .fail => .fail
theorem iL_sat {g : S → RE} {σ : St} {H : Hp} {Q : It → Hp → Prop} (h : tI K W (iL g) σ H Q) : tE K W g σ H fun x H1 => ∃ a, x = .ref a ∧ (∃ xs, SqL K H1 a xs) ∧ Q (Itl K a) H1 := by
  obtain ⟨A, Z, R, r, s⟩ := h
  refine ⟨A, Z, R, r, ?_⟩
  simp only [iL] at s
  cases e1 : g A.er with
  | fail => rw [e1] at s; exact s
  | ex C fs s1 => rw [e1] at s; exact s
  | ok ev m s1 =>
    rw [e1] at s
    cases ev with
    | p r0 q => exact s.elim
    | v t =>
      intro A' R' H' au ea k et r'
      subst ea et
      cases e2 : au.er.items with
      | none => simp only [e2] at s; exact s.elim
      | some its =>
        simp only [e2] at s
        obtain ⟨a, ev, wk, sq⟩ := walk_list (K := K) e2
        obtain ⟨xs, q1, _⟩ := sq r'.head
        exact ⟨a, ev, ⟨xs, q1⟩, s A' R' H' [au] (Itl K a) rfl k r' wk⟩
theorem ii_list {tg l : Expr} {g : S → RE} (h : IE X W l g) : II X W tg l (iL g) := ⟨PI.mono (pi_list h.pe) fun σ H Q q => iL_sat q⟩
/-- over a tuple in hand -/
def T.titems : T → Option (List T)
  | .box _ .tup xs => if T.allFL xs = true then some xs else none
  | _ => none
theorem walk_tup {au : AT} {its : List T} (h : au.er.titems = some its) : ∃ a, au.val = .ref a ∧ WalkIt K (Itt K a) [au] its ∧ ∀ {R : Addr → Prop} {H : Hp}, au.ok K R H → ∃ xs, SqT K H a xs := by
  match au, h with
  | .box o .tup a xs, h =>
    simp only [AT.er, T.titems] at h
    split at h
    · rename_i hf
      simp only [Option.some.injEq] at h; subst h
      refine ⟨a, rfl, fun G A Z R σ H r => ?_, fun ok => ⟨_, .of (ok_tup ok)⟩⟩
      have sq : SqT K H a (xs.map AT.val) := .of (ok_tup r.head)
      refine ⟨⟨_, sq, by simp [erL_length]⟩, fun i t e => ?_⟩
      obtain ⟨x, ex, rfl⟩ := erL_get e
      have gx : (xs.map AT.val)[i]? = some x.val := by rw [List.getElem?_map, ex]; rfl
      refine ⟨⟨_, _, sq, gx⟩, fun y H' hy => ?_⟩
      obtain ⟨rfl, hy⟩ := hy
      have := hy _ sq
      rw [gx] at this
      refine ⟨x, R, Option.some.inj this, rfl, r.dup (okL_mem r.head.2.1 (List.mem_of_getElem? ex)) (allFL_iff.mp hf x.er ?_)⟩
      rw [erL_map]; exact List.mem_map_of_mem (List.mem_of_getElem? ex)
    · cases h
  | .atm _, h => simp [AT.er, T.titems] at h
  | .box _ .lst _ _, h => simp [AT.er, T.titems] at h
  | .box _ .scr _ _, h => simp [AT.er, T.titems] at h
  | .box _ (.dct _) _ _, h => simp [AT.er, T.titems] at h
  | .box _ (.dtp _) _ _, h => simp [AT.er, T.titems] at h
  | .box _ (.ins _ _) _ _, h => simp [AT.er, T.titems] at h
  | .box _ (.exd _) _ _, h => simp [AT.er, T.titems] at h
def iT (g : S → RE) (s : S) : RI := match g s with
  | .ok (.v t) m s1 => match t.titems with
    | some its => .ok its m s1
    | none => .fail
  | .ok (.p _ _) _ _ => .fail
  | .ex C fs s1 => .ex C fs s1
  | .fail => .fail
theorem iT_sat {g : S → RE} {σ : St} {H : Hp} {Q : It → Hp → Prop} (h : tI K W (iT g) σ H Q) : tE K W g σ H fun x H1 => ∃ a, x = .ref a ∧ (∃ xs, SqT K H1 a xs) ∧ Q (Itt K a) H1 := by
  obtain ⟨A, Z, R, r, s⟩ := h
  refine ⟨A, Z, R, r, ?_⟩
  simp only [iT] at s
  cases e1 : g A.er with
  | fail => rw [e1] at s; exact s
  | ex C fs s1 => rw [e1] at s; exact s
  | ok ev m s1 =>
    rw [e1] at s
    cases ev with
    | p r0 q => exact s.elim
    | v t =>
      intro A' R' H' au ea k et r'
      subst ea et
      cases e2 : au.er.titems with
      | none => simp only [e2] at s; exact s.elim
      | some its =>
        simp only [e2] at s
        obtain ⟨a, ev, wk, sq⟩ := walk_tup (K := K) e2
        exact ⟨a, ev, sq r'.head, s A' R' H' [au] (Itt K a) rfl k r' wk⟩
theorem ii_tup {tg l : Expr} {g : S → RE} (h : IE X W l g) : II X W tg l (iT g) := ⟨PI.mono (pi_tup h.pe) fun σ H Q q => iT_sat q⟩
/-! ranges -/
def rngT (lo : Int) (n : Nat) : List T := (List.range n).map fun i => .atm (.int (lo + (i : Nat)))
theorem walk_rng (lo : Int) (n : Nat) : WalkIt K (Itr lo n) [] (rngT lo n) := by
  intro G A Z R σ H r
  refine ⟨by show n ≤ _; simp [rngT], fun i t e => ?_⟩
  simp only [rngT, List.getElem?_map] at e
  cases e2 : (List.range n)[i]? with
  | none => rw [e2] at e; cases e
  | some j =>
    rw [e2] at e
    simp only [Option.map_some, Option.some.injEq] at e; subst e
    obtain ⟨hi, hj⟩ := List.getElem?_eq_some_iff.mp e2
    simp at hi hj; subst hj
    refine ⟨hi, fun x H' hy => ?_⟩
    obtain ⟨rfl, rfl⟩ := hy
    exact ⟨.atm (.int (lo + (i : Nat))), R, rfl, rfl, r.atm rfl⟩
def iR1 (g : S → RA) (s : S) : RI := match g s with
  | .ok es m s1 => match tvs es with
    | some [.atm (.int j)] => if -(2 ^ 62) ≤ j ∧ j < 2 ^ 62 then .ok (rngT 0 j.toNat) m s1 else .fail
    | _ => .fail
  | .ex C fs s1 => .ex C fs s1
  | .fail => .fail
theorem iR1_sat {g : S → RA} {σ : St} {H : Hp} {Q : It → Hp → Prop} (h : tI K W (iR1 g) σ H Q) : tA K W g σ H fun vs H1 => ∃ j : Int, vs = [.int j] ∧ -(2 ^ 62) ≤ j ∧ j < 2 ^ 62 ∧ Q (Itr 0 j.toNat) H1 := by
  obtain ⟨A, Z, R, r, s⟩ := h
  refine ⟨A, Z, R, r, ?_⟩
  simp only [iR1] at s
  cases e1 : g A.er with
  | fail => rw [e1] at s; exact s
  | ex C fs s1 => rw [e1] at s; exact s
  | ok es m s1 =>
    rw [e1] at s
    simp only at s
    intro A' R' H' aus tz ea k at' r'
    split at s
    · rename_i j e2
      obtain ⟨rfl, ez⟩ := tvs_at e2 at'
      obtain ⟨a, rfl, ea1⟩ := inv1 ez
      obtain rfl := invA ea1
      split at s
      · rename_i hb
        exact ⟨j, rfl, hb.1, hb.2, s A' R' H' [] _ ea k r'.tail_of (walk_rng 0 j.toNat)⟩
      · exact s.elim
    · exact s.elim
def iR2 (g : S → RA) (s : S) : RI := match g s with
  | .ok es m s1 => match tvs es with
    | some [.atm (.int i), .atm (.int j)] => if -(2 ^ 62) ≤ i ∧ i < 2 ^ 62 ∧ -(2 ^ 62) ≤ j ∧ j < 2 ^ 62 then .ok (rngT i (j - i).toNat) m s1 else .fail
    | _ => .fail
  | .ex C fs s1 => .ex C fs s1
  | .fail => .fail
theorem iR2_sat {g : S → RA} {σ : St} {H : Hp} {Q : It → Hp → Prop} (h : tI K W (iR2 g) σ H Q) : tA K W g σ H fun vs H1 => ∃ i j : Int, vs = [.int i, .int j] ∧ (-(2 ^ 62) ≤ i ∧ i < 2 ^ 62 ∧ -(2 ^ 62) ≤ j ∧ j < 2 ^ 62) ∧ Q (Itr i (j - i).toNat) H1 := by
  obtain ⟨A, Z, R, r, s⟩ := h
  refine ⟨A, Z, R, r, ?_⟩
  simp only [iR2] at s
  cases e1 : g A.er with
  | fail => rw [e1] at s; exact s
  | ex C fs s1 => rw [e1] at s; exact s
  | ok es m s1 =>
    rw [e1] at s
    simp only at s
    intro A' R' H' aus tz ea k at' r'
    split at s
    · rename_i i j e2
      obtain ⟨rfl, ez⟩ := tvs_at e2 at'
      obtain ⟨a, b, rfl, ea1, eb1⟩ := inv2 ez
      obtain rfl := invA ea1
      obtain rfl := invA eb1
      split at s
      · rename_i hb
        exact ⟨i, j, rfl, hb, s A' R' H' [] _ ea k r'.tail_of (walk_rng i (j - i).toNat)⟩
      · exact s.elim
    · exact s.elim
theorem ii_range1 {tg a : Expr} {ga : S → RE} {p pos : Pos} (hm : X.mg "range" = none) (ha : IE X W a ga) (hg : Gl X "range" := by rfl) (he : starEach [a] X.env = (false, eval a X.env) :: starEach [] X.env := by rfl) (hs : starEach [a] X.env = [(false, eval a X.env)] := by rfl) :
    II X W tg (.Call (.Name "range" p) [a] [] pos) (iR1 (argsG [ga])) := ⟨PI.mono (pi_range1 hg hm (ia_cons ha ia_nil he).pa hs) fun σ H Q q => iR1_sat q⟩
theorem ii_range2 {tg a b : Expr} {ga gb : S → RE} {p pos : Pos} (hm : X.mg "range" = none) (ha : IE X W a ga) (hb : IE X W b gb) (hg : Gl X "range" := by rfl) (he : starEach [a, b] X.env = (false, eval a X.env) :: starEach [b] X.env := by rfl) (he2 : starEach [b] X.env = (false, eval b X.env) :: starEach [] X.env := by rfl)
    (hs : starEach [a, b] X.env = [(false, eval a X.env), (false, eval b X.env)] := by rfl) (hs2 : starEach [b] X.env = [(false, eval b X.env)] := by rfl) :
    II X W tg (.Call (.Name "range" p) [a, b] [] pos) (iR2 (argsG [ga, gb])) := ⟨PI.mono (pi_range2 hg hm (ia_cons ha (ia_cons hb ia_nil he2) he).pa hs hs2) fun σ H Q q => iR2_sat q⟩
/-! enumerate, zip, reversed -/
theorem upd_tup_new {A : AS} {Z : List AT} {R : Addr → Prop} {σ : St} {H : Hp} {p : Addr} {xs : List AT} (r : Rel K G A Z R σ H) (hp : H p = none) (okx : AT.okL K R H xs) (hf : T.allFL (AT.erL xs) = true) :
    ∃ R', Rel K G A (.box false .tup p xs :: Z) R' σ (upd H p (.tup (xs.map AT.val))) := by
  have r1 := r.new (Z' := Z) (k := .tup) (xs := xs) (o := .tup (xs.map AT.val)) hp upd_same okx r.okZ (fun b => by rw [allFL_cn b xs hf]; omega)
  have hp2 := r1.head
  -- frozen at once
  have tok : (AT.box true .tup p xs).fz = .box false .tup p (AT.fzL xs) := rfl
  refine ⟨fun b => R b ∨ b = p, ?_⟩
  have c1 : ∀ b, (AT.box true .tup p xs).cn b = if b = p then 1 else 0 := fun b => by simp only [AT.cn, if_true, allFL_cn b xs hf]; omega
  have nR : ¬ R p := fun h => r.tr p h hp
  have other : ∀ {t : AT}, t.ok K R (upd H p (.tup (xs.map AT.val))) → t.cn p = 0 → t.ok K (fun b => R b ∨ b = p) (upd H p (.tup (xs.map AT.val))) := fun {t} ok hc =>
    ok_mono ok (fun _ h => .inl h) (fun b hb h => h.elim (ok_notR ok b hb) fun e => by subst e; omega) (fun _ _ _ e => e)
  obtain ⟨z1, z2⟩ := r.free hp
  have fr := r.fresh hp
  refine ⟨fun i t e => other (r1.okS i t e) ?_, okL_iff.mpr fun t ht => other (okL_mem r1.okH ht) ?_, ⟨?_, okL_iff.mpr fun t ht => other (okL_mem r1.okZ.2 ht) ?_⟩, fun b => ?_, fun b hb => ?_, r1.len, r1.slT, r1.slA, r1.gH, fun b hb => ?_, fun b hb => ?_, fun b hb => .inl (r1.gS b hb)⟩
  · have := cnS_mem (b := p) e; simp only [SS.cn] at z1; omega
  · have := cnL_mem (b := p) ht; simp only [SS.cn] at z1; omega
  · refine ⟨?_, okL_mono (okL_mono okx (fun _ x => x) (okL_notR okx) (H' := upd H p (.tup (xs.map AT.val))) fun b w _ e => upd_keep hp b w e) (fun _ h => .inl h) (fun b hb => by rw [allFL_cn b xs hf] at hb; omega) (fun _ _ _ e => e), fun _ => hf⟩
    simp only [AtB, Bool.false_eq_true, if_false, Hfz]
    exact ⟨.inr trivial, upd_same⟩
  · have := cnL_mem (b := p) ht; omega
  · have := r1.nd b; simp only [AT.cnL, AT.cn, Bool.false_eq_true, if_false] at this ⊢; omega
  · rcases hb with hb | rfl
    · exact r1.tr b hb
    · rw [upd_same]; simp
  · refine r1.gO b ?_; simp only [AT.cnL, AT.cn, Bool.false_eq_true, if_false, if_true] at hb ⊢; omega
  · rcases hb with hb | rfl
    · exact r1.gR b hb
    · exact .inr fr
def enumT (xs : List T) : List T := xs.zipIdx.map fun p => .box false .tup [.atm (.int (p.2 : Nat)), p.1]
theorem enumT_get {xs : List T} {i : Nat} {t : T} (h : (enumT xs)[i]? = some t) : ∃ x, xs[i]? = some x ∧ t = .box false .tup [.atm (.int (i : Nat)), x] := by
  simp only [enumT, List.getElem?_map, List.getElem?_zipIdx, Option.map_map] at h
  cases e : xs[i]? with
  | none => rw [e] at h; cases h
  | some x => rw [e] at h; simp at h; exact ⟨x, rfl, h.symm⟩
theorem walk_enum {au : AT} {its : List T} (h : au.er.items = some its) : ∃ a, au.val = .ref a ∧ WalkIt K (Ite K a) [au] (enumT its) ∧ ∀ {R : Addr → Prop} {H : Hp}, au.ok K R H → ∃ xs, SqL K H a xs := by
  obtain ⟨a, ev, wk, sq⟩ := walk_list (K := K) h
  refine ⟨a, ev, fun G A Z R σ H r => ?_, fun ok => let ⟨xs, h1, _⟩ := sq ok; ⟨xs, h1⟩⟩
  obtain ⟨xs, h1, h2⟩ := sq r.head
  obtain ⟨w1, w2⟩ := wk G A Z R σ H r
  refine ⟨⟨xs, h1, by simp [enumT, h2]⟩, fun i t e => ?_⟩
  obtain ⟨x, ex, rfl⟩ := enumT_get e
  obtain ⟨g1, g2⟩ := w2 i x ex
  refine ⟨g1, fun y H' hy => ?_⟩
  obtain ⟨Tt, y0, rfl, hT, rfl, hy⟩ := hy
  obtain ⟨xs', x', q1, q2⟩ := g1
  obtain ⟨au1, R1, v1, e1, r1⟩ := g2 y0 H ⟨rfl, hy⟩
  have hf : T.allF x = true := by
    match au, h with
    | .box o .lst a xs, h =>
      simp only [AT.er, T.items] at h
      split at h
      · rename_i hf; simp only [Option.some.injEq] at h; subst h; exact allFL_iff.mp hf x (List.mem_of_getElem? ex)
      · cases h
    | .box o .scr a xs, h =>
      simp only [AT.er, T.items] at h
      split at h
      · rename_i hf; simp only [Option.some.injEq] at h; subst h; exact allFL_iff.mp hf x (List.mem_of_getElem? ex)
      · cases h
    | .atm _, h => simp [AT.er, T.items] at h
    | .box _ .tup _ _, h => simp [AT.er, T.items] at h
    | .box _ (.dct _) _ _, h => simp [AT.er, T.items] at h
    | .box _ (.dtp _) _ _, h => simp [AT.er, T.items] at h
    | .box _ (.ins _ _) _ _, h => simp [AT.er, T.items] at h
    | .box _ (.exd _) _ _, h => simp [AT.er, T.items] at h
  obtain ⟨R2, r2⟩ := upd_tup_new (xs := [.atm (.int (i : Nat)), au1]) r1.drop hT ⟨rfl, r1.head, trivial⟩ (by simp [AT.erL, AT.er, T.allFL, T.allF, e1, hf])
  refine ⟨.box false .tup Tt [.atm (.int (i : Nat)), au1], R2, rfl, by simp [AT.er, AT.erL, e1], ?_⟩
  have ev1 : [AT.atm (.int (i : Nat)), au1].map AT.val = [.int (i : Nat), y0] := by rw [List.map_cons, List.map_cons, v1]; rfl
  rw [ev1] at r2
  exact r2
def iEn (g : S → RE) (s : S) : RI := match g s with
  | .ok (.v t) m s1 => match t.items with
    | some its => .ok (enumT its) m s1
    | none => .fail
  | .ok (.p _ _) _ _ => .fail
  | .ex C fs s1 => .ex C fs s1
  | .fail => .fail
theorem iEn_sat {g : S → RE} {σ : St} {H : Hp} {Q : It → Hp → Prop} (h : tI K W (iEn g) σ H Q) : tE K W g σ H fun x H1 => ∃ a xs, [x] = [V.ref a] ∧ SqL K H1 a xs ∧ Q (Ite K a) H1 := by
  obtain ⟨A, Z, R, r, s⟩ := h
  refine ⟨A, Z, R, r, ?_⟩
  simp only [iEn] at s
  cases e1 : g A.er with
  | fail => rw [e1] at s; exact s
  | ex C fs s1 => rw [e1] at s; exact s
  | ok ev m s1 =>
    rw [e1] at s
    cases ev with
    | p r0 q => exact s.elim
    | v t =>
      intro A' R' H' au ea k et r'
      subst ea et
      cases e2 : au.er.items with
      | none => simp only [e2] at s; exact s.elim
      | some its =>
        simp only [e2] at s
        obtain ⟨a, ev, wk, sq⟩ := walk_enum (K := K) e2
        obtain ⟨xs, q1⟩ := sq r'.head
        exact ⟨a, xs, by rw [ev], q1, s A' R' H' [au] (Ite K a) rfl k r' wk⟩
theorem tE_args1 {g : S → RE} {σ : St} {H : Hp} {Q : List V → Hp → Prop} (h : tE K W g σ H fun x H1 => Q [x] H1) : tA K W (argsG [g]) σ H Q := by
  obtain ⟨A, Z, R, r, s⟩ := h
  refine ⟨A, Z, R, r, ?_⟩
  simp only [argsG]
  cases e1 : g A.er with
  | fail => rw [e1] at s; exact s
  | ex C fs s1 => rw [e1] at s; exact s
  | ok ev m s1 =>
    rw [e1] at s
    have hs : surv ev .pure = true := by cases ev <;> rfl
    simp only [hs, if_true]
    cases ev with
    | v t =>
      rintro A' R' H' aus tz ea k ⟨au, aus', tz', rfl, rfl, et, rfl, rfl⟩ r'
      refine s A' R' H' au ea ?_ et r'
      cases m <;> exact k
    | p r0 q =>
      rintro A' R' H' aus tz ea k ⟨au, aus', rfl, ga, rfl, rfl⟩ r'
      refine s A' R' H' au ea ?_ ga r'
      cases m <;> exact k
theorem ii_enum {elts : List Expr} {kk : Nat} {tpos : Pos} {e : Expr} {g : S → RE} {p pos : Pos} (hm : X.mg "enumerate" = none) (h : IE X W e g) (hg : Gl X "enumerate" := by rfl) (he : starEach [e] X.env = (false, eval e X.env) :: starEach [] X.env := by rfl) (hs : starEach [e] X.env = [(false, eval e X.env)] := by rfl) :
    II X W (.Tuple elts kk tpos) (.Call (.Name "enumerate" p) [e] [] pos) (iEn g) := ⟨PI.mono (pi_enum hg hm (ia_cons h ia_nil he).pa hs) fun σ H Q q => tE_args1 ((iEn_sat q).mono fun x H1 h => h)⟩
theorem items_allF {t : T} {its : List T} (h : t.items = some its) : T.allFL its = true := by
  match t, h with
  | .box o .lst xs, h =>
    simp only [T.items] at h
    split at h
    · rename_i hf; simp only [Option.some.injEq] at h; subst h; exact hf
    · cases h
  | .box o .scr xs, h =>
    simp only [T.items] at h
    split at h
    · rename_i hf; simp only [Option.some.injEq] at h; subst h; exact hf
    · cases h
  | .atm _, h => simp [T.items] at h
  | .box _ .tup _, h => simp [T.items] at h
  | .box _ (.dct _) _, h => simp [T.items] at h
  | .box _ (.dtp _) _, h => simp [T.items] at h
  | .box _ (.ins _ _) _, h => simp [T.items] at h
  | .box _ (.exd _) _, h => simp [T.items] at h
theorem walk_weak {J : It} {L : List AT} {its : List T} (h : WalkIt K J L its) {A : AS} {Z M : List AT} {R : Addr → Prop} {σ : St} {H : Hp} (r : Rel K G A (L ++ M ++ Z) R σ H) : J.stop its.length H ∧ ∀ i t, its[i]? = some t → J.go i H ∧ ∀ x H', J.yld i H x H' → ∃ au R', au.val = x ∧ au.er = t ∧ Rel K G A (au :: (L ++ M ++ Z)) R' σ H' := by
  rw [List.append_assoc] at r ⊢
  exact h G A (M ++ Z) R σ H r
def zipT (xs ys : List T) : List T := (xs.zip ys).map fun p => .box false .tup [p.1, p.2]
theorem walk_zip {au bu : AT} {as bs : List T} (ha : au.er.items = some as) (hb : bu.er.items = some bs) : ∃ a b, au.val = .ref a ∧ bu.val = .ref b ∧ WalkIt K (Itz K a b) [au, bu] (zipT as bs) ∧ (∀ {R : Addr → Prop} {H : Hp}, au.ok K R H → ∃ xs, SqL K H a xs) ∧ (∀ {R : Addr → Prop} {H : Hp}, bu.ok K R H → ∃ xs, SqL K H b xs) := by
  obtain ⟨a, ev, wk, sq⟩ := walk_list (K := K) ha
  obtain ⟨b, ev2, wk2, sq2⟩ := walk_list (K := K) hb
  refine ⟨a, b, ev, ev2, fun G A Z R σ H r => ?_, fun ok => let ⟨xs, h1, _⟩ := sq ok; ⟨xs, h1⟩, fun ok => let ⟨xs, h1, _⟩ := sq2 ok; ⟨xs, h1⟩⟩
  obtain ⟨xs, h1, h2⟩ := sq r.head
  have r' : Rel K G A (bu :: au :: Z) R σ H := r.perm (.swap ..)
  obtain ⟨ys, h3, h4⟩ := sq2 r'.head
  obtain ⟨w1, w2⟩ := wk G A (bu :: Z) R σ H r
  obtain ⟨u1, u2⟩ := wk2 G A (au :: Z) R σ H r'
  refine ⟨⟨xs, ys, h1, h3, by simp only [zipT, List.length_map, List.length_zip]; omega⟩, fun i t e => ?_⟩
  simp only [zipT, List.getElem?_map] at e
  cases ez : (as.zip bs)[i]? with
  | none => rw [ez] at e; cases e
  | some p =>
    rw [ez] at e
    simp only [Option.map_some, Option.some.injEq] at e; subst e
    rw [List.getElem?_zip_eq_some] at ez
    obtain ⟨g1, g2⟩ := w2 i _ ez.1
    obtain ⟨g3, g4⟩ := u2 i _ ez.2
    obtain ⟨xs1, x1, q1, q2⟩ := id g1
    obtain ⟨ys1, y1, q3, q4⟩ := id g3
    refine ⟨⟨xs1, ys1, x1, y1, q1, q3, q2, q4⟩, fun v H' hy => ?_⟩
    obtain ⟨Tt, x0, y0, rfl, hT, rfl, hx, hy⟩ := hy
    obtain ⟨au1, R1, v1, e1, r1⟩ := g2 x0 H ⟨rfl, hx⟩
    have r1' : Rel K G A (bu :: au :: au1 :: Z) R1 σ H := r1.temps ⟨r1.okZ.2.2.1, r1.okZ.2.1, r1.okZ.1, r1.okZ.2.2.2⟩ fun b => by simp only [AT.cnL, List.cons_append, List.nil_append]; omega
    obtain ⟨_, k2⟩ := wk2 G A (au :: au1 :: Z) R1 σ H r1'
    obtain ⟨bu1, R2, v2, e2, r2⟩ := (k2 i _ ez.2).2 y0 H ⟨rfl, hy⟩
    have f1 : T.allF p.1 = true := allFL_iff.mp (items_allF ha) _ (List.mem_of_getElem? ez.1)
    have f2 : T.allF p.2 = true := allFL_iff.mp (items_allF hb) _ (List.mem_of_getElem? ez.2)
    have oka : au1.ok K R2 H := r2.okZ.2.2.2.1
    have okb : bu1.ok K R2 H := r2.head
    obtain ⟨R3, r3⟩ := upd_tup_new (xs := [au1, bu1]) r2 hT ⟨oka, okb, trivial⟩ (by simp [AT.erL, T.allFL, e1, e2, f1, f2])
    refine ⟨.box false .tup Tt [au1, bu1], R3, rfl, by simp [AT.er, AT.erL, e1, e2], ?_⟩
    have ev1 : [au1, bu1].map AT.val = [x0, y0] := by rw [List.map_cons, List.map_cons, v1, v2]; rfl
    rw [ev1] at r3
    refine r3.temps ⟨r3.head, r3.okZ.2.2.2.1, r3.okZ.2.2.1, r3.okZ.2.2.2.2.2⟩ fun b => ?_
    simp only [AT.cnL, List.append_eq, List.cons_append, List.nil_append]; omega
def iZ (g : S → RA) (s : S) : RI := match g s with
  | .ok es m s1 => match tvs es with
    | some [x, y] => match x.items, y.items with
      | some xs, some ys => .ok (zipT xs ys) m s1
      | _, _ => .fail
    | _ => .fail
  | .ex C fs s1 => .ex C fs s1
  | .fail => .fail
theorem iZ_sat {g : S → RA} {σ : St} {H : Hp} {Q : It → Hp → Prop} (h : tI K W (iZ g) σ H Q) : tA K W g σ H fun vs H1 => ∃ a b xs ys, vs = [.ref a, .ref b] ∧ SqL K H1 a xs ∧ SqL K H1 b ys ∧ Q (Itz K a b) H1 := by
  obtain ⟨A, Z, R, r, s⟩ := h
  refine ⟨A, Z, R, r, ?_⟩
  simp only [iZ] at s
  cases e1 : g A.er with
  | fail => rw [e1] at s; exact s
  | ex C fs s1 => rw [e1] at s; exact s
  | ok es m s1 =>
    rw [e1] at s
    simp only at s
    intro A' R' H' aus tz ea k at' r'
    split at s
    · rename_i x y e2
      obtain ⟨rfl, ez⟩ := tvs_at e2 at'
      obtain ⟨a, b, rfl, rfl, rfl⟩ := inv2 ez
      split at s
      · rename_i xs ys e3 e4
        obtain ⟨p, q, ev, ev2, wk, sq, sq2⟩ := walk_zip (K := K) e3 e4
        obtain ⟨xs1, q1⟩ := sq r'.head
        obtain ⟨ys1, q2⟩ := sq2 r'.okZ.2.1
        exact ⟨p, q, xs1, ys1, by simp [ev, ev2], q1, q2, s A' R' H' [a, b] _ ea k r' wk⟩
      · exact s.elim
    · exact s.elim
theorem ii_zip {elts : List Expr} {kk : Nat} {tpos : Pos} {e e2 : Expr} {g g2 : S → RE} {p pos : Pos} (hm : X.mg "zip" = none) (h : IE X W e g) (h2 : IE X W e2 g2) (hg : Gl X "zip" := by rfl)
    (he : starEach [e, e2] X.env = (false, eval e X.env) :: starEach [e2] X.env := by rfl) (he2 : starEach [e2] X.env = (false, eval e2 X.env) :: starEach [] X.env := by rfl) (hpl : (backTo pos (starEach [e2] X.env)).any (·.1) = false := by rfl) :
    II X W (.Tuple elts kk tpos) (.Call (.Name "zip" p) [e, e2] [] pos) (iZ (argsG [g, g2])) := ⟨PI.mono (pi_zip hg hm (ia_cons h (ia_cons h2 ia_nil he2) he).pa he hpl) fun σ H Q q => iZ_sat q⟩
/-! reversed, of a list -/
theorem walk_rev {au : AT} {its : List T} (h : au.er.items = some its) : ∃ a, au.val = .ref a ∧ WalkIt K (Itv K a its.length) [au] its.reverse ∧ ∀ {R : Addr → Prop} {H : Hp}, au.ok K R H → ∃ xs, SqL K H a xs ∧ xs.length = its.length := by
  obtain ⟨a, ev, wk, sq⟩ := walk_list (K := K) h
  refine ⟨a, ev, fun G A Z R σ H r => ?_, sq⟩
  obtain ⟨w1, w2⟩ := wk G A Z R σ H r
  obtain ⟨xs, h1, h2⟩ := sq r.head
  refine ⟨by show its.length ≤ _; simp, fun i t e => ?_⟩
  have hi : i < its.length := by have := (List.getElem?_eq_some_iff.mp e).1; simpa using this
  rw [List.getElem?_reverse hi] at e
  obtain ⟨g1, g2⟩ := w2 _ t e
  obtain ⟨xs1, x1, q1, q2⟩ := id g1
  exact ⟨⟨hi, xs1, x1, q1, q2⟩, fun x H' hy => g2 x H' ⟨hy.1, hy.2⟩⟩
def iRv (g : S → RE) (s : S) : RI := match g s with
  | .ok (.v t) m s1 => match t.items with
    | some its => .ok its.reverse m s1
    | none => .fail
  | .ok (.p _ _) _ _ => .fail
  | .ex C fs s1 => .ex C fs s1
  | .fail => .fail
theorem iRv_sat {g : S → RE} {σ : St} {H : Hp} {Q : It → Hp → Prop} (h : tI K W (iRv g) σ H Q) : tE K W g σ H fun x H1 => ∃ (a : Addr) (xs : List V), [x] = [V.ref a] ∧ SqL K H1 a xs ∧ Q (Itv K a xs.length) H1 := by
  obtain ⟨A, Z, R, r, s⟩ := h
  refine ⟨A, Z, R, r, ?_⟩
  simp only [iRv] at s
  cases e1 : g A.er with
  | fail => rw [e1] at s; exact s
  | ex C fs s1 => rw [e1] at s; exact s
  | ok ev m s1 =>
    rw [e1] at s
    cases ev with
    | p r0 q => exact s.elim
    | v t =>
      intro A' R' H' au ea k et r'
      subst ea et
      cases e2 : au.er.items with
      | none => simp only [e2] at s; exact s.elim
      | some its =>
        simp only [e2] at s
        obtain ⟨a, ev, wk, sq⟩ := walk_rev (K := K) e2
        obtain ⟨xs, q1, q2⟩ := sq r'.head
        refine ⟨a, xs, by rw [ev], q1, ?_⟩
        rw [q2]
        exact s A' R' H' [au] _ rfl k r' wk
theorem ii_rev {tg e : Expr} {g : S → RE} {p pos : Pos} (hm : X.mg "reversed" = none) (h : IE X W e g) (hg : Gl X "reversed" := by rfl) (he : starEach [e] X.env = (false, eval e X.env) :: starEach [] X.env := by rfl) (hs : starEach [e] X.env = [(false, eval e X.env)] := by rfl) :
    II X W tg (.Call (.Name "reversed" p) [e] [] pos) (iRv g) := ⟨PI.mono (pi_reversed hg hm (ia_cons h ia_nil he).pa hs) fun σ H Q q => tE_args1 ((iRv_sat q).mono fun x H1 h => h)⟩
end
end TL
namespace TL
open PySem PySem.Spec L2

/-! ## for, while -/
def forV (b : T → S → Option S) (f : S → RS) : List T → S → RS
  | [], s => .nx s
  | x :: xs, s => match b x s with
    | some s1 => match f s1 with
      | .nx s2 => forV b f xs s2
      | .ct s2 => forV b f xs s2
      | .bk s2 => .nx s2
      | .rt t s2 => .rt t s2
      | .ex C fs s2 => .ex C fs s2
      | .fail => .fail
    | none => .fail
def forS (gi : S → RI) (b : T → S → Option S) (f : S → RS) (s : S) : RS := match gi s with
  | .ok its _ s1 => forV b f its s1
  | .ex C fs s1 => .ex C fs s1
  | .fail => .fail
section
variable {X : Cx} {W : Wh} {K : PySem.W.Frag} {G : Gr}
theorem Rel.dropL {A : AS} {L Z : List AT} {R : Addr → Prop} {σ : St} {H : Hp} (h : Rel K G A (L ++ Z) R σ H) : Rel K G A Z R σ H := h.tail_of
theorem Rel.dropL1 {A : AS} {L Z : List AT} {au : AT} {R : Addr → Prop} {σ : St} {H : Hp} (h : Rel K G A (au :: (L ++ Z)) R σ H) : Rel K G A (au :: Z) R σ H :=
  h.temps ⟨h.head, (okL_append.mp h.okZ.2).2⟩ fun b => by simp only [AT.cnL, cnL_append]; omega
theorem for_sat {gi : S → RI} {b : T → S → Option S} {f : S → RS} {ws : List Nat} {D : Ends} {σ : St} {H : Hp} (h : tS K W (forS gi b f) D σ H) : tFor (tI K W gi) (tG K W ws b) (tS K W f) D σ H := by
  obtain ⟨A, Z, R, r, s⟩ := h
  refine ⟨A, Z, R, r, ?_⟩
  simp only [forS] at s
  cases e1 : gi A.er with
  | fail => rw [e1] at s; exact s
  | ex C fs s1 => rw [e1] at s; exact SatX.toS s
  | ok its m s1 =>
    rw [e1] at s
    intro A' R' H' L J ea k r' wk
    subst ea
    refine ⟨fun i m σ H => ∃ A2 R2, Rel K W.G A2 (L ++ Z) R2 σ H ∧ hdv A2 = hdv A ∧ i + m = its.length ∧ SatS K W A Z D (forV b f (its.drop i) A2.er), ⟨its.length, A', R', r', k.hdv, by omega, s⟩, ?_⟩
    rintro i m σ2 H2 ⟨A2, R2, r2, hh2, hm, s2⟩
    obtain ⟨w1, w2⟩ := wk W.G A2 Z R2 σ2 H2 r2
    cases m with
    | zero =>
      have ei : i = its.length := by omega
      subst ei
      rw [List.drop_length] at s2
      exact .inl ⟨w1, s2 A2 R2 σ2 H2 rfl hh2 r2.dropL⟩
    | succ m =>
      have hi : i < its.length := by omega
      obtain ⟨g1, g2⟩ := w2 i _ (List.getElem?_eq_getElem hi)
      rw [List.drop_eq_getElem_cons hi] at s2
      refine .inr ⟨g1, _, fun σ' H' h => ⟨m, by omega, h⟩, fun x H3 hy => ?_⟩
      obtain ⟨au, R3, rfl, et, r3⟩ := g2 x H3 hy
      refine ⟨A2, L ++ Z, au, R3, rfl, r3, ?_⟩
      rw [et]
      simp only [forV] at s2
      cases e2 : b its[i] A2.er with
      | none => simp only [e2] at s2; exact s2
      | some s3 =>
        simp only [e2] at s2
        intro A3 R4 σ3 H4 ea3 st3 r4
        have hh3 := st3.hd
        refine ⟨A3, L ++ Z, R4, r4, ?_⟩
        rw [ea3]
        cases e3 : f s3 with
        | nx s4 => rw [e3] at s2; exact fun A4 R5 σ4 H5 ea4 hh4 r5 => ⟨A4, R5, r5, hh4.trans (hh3.trans hh2), by omega, by rw [ea4]; exact s2⟩
        | ct s4 => rw [e3] at s2; exact fun A4 R5 σ4 H5 ea4 hh4 r5 => ⟨A4, R5, r5, hh4.trans (hh3.trans hh2), by omega, by rw [ea4]; exact s2⟩
        | bk s4 => rw [e3] at s2; exact fun A4 R5 σ4 H5 ea4 hh4 r5 => s2 A4 R5 σ4 H5 ea4 (hh4.trans (hh3.trans hh2)) r5.dropL
        | rt t s4 => rw [e3] at s2; exact fun A4 R5 σ4 H5 au4 ea4 hh4 et4 r5 => s2 A4 R5 σ4 H5 au4 ea4 (hh4.trans (hh3.trans hh2)) et4 r5.dropL1
        | ex C fs s4 => rw [e3] at s2; exact fun A4 R5 σ4 H5 d ea4 hh4 r5 => s2 A4 R5 σ4 H5 d ea4 (hh4.trans (hh3.trans hh2)) r5
        | fail => rw [e3] at s2; exact s2.elim
theorem is_for {tg iter : Expr} {body : List Stmt} {gi : S → RI} {b : T → S → Option S} {ws : List Nat} {f : S → RS} {pos : Pos} (hp : PassesOwn (model X.prog X.w) X.A X.env X.xe) (hc : X.calm = true) (hi : II X W tg iter gi) (hg : IG X W tg ws b) (hb : ISs X W body f)
    (hs : ∀ x, foldedSetIterable iter X.env x = pure x := by intro _; rfl) : IS X W (.For tg iter body [] pos) (forS gi b f) := ⟨PS.mono (ps_for hp hc hi.pi hg.pg hb.ps hs) fun D σ H q => for_sat q⟩
/-! while -/
def whileN (t : S → RT) (f : S → RS) : Nat → S → RS
  | 0, _ => .fail
  | n + 1, s => match t s with
    | .ok true _ s1 => match f s1 with
      | .nx s2 => whileN t f n s2
      | .ct s2 => whileN t f n s2
      | .bk s2 => .nx s2
      | .rt t s2 => .rt t s2
      | .ex C fs s2 => .ex C fs s2
      | .fail => .fail
    | .ok false _ s1 => .nx s1
    | .ex C fs s1 => .ex C fs s1
    | .fail => .fail
theorem whileN_mono {t : S → RT} {f : S → RS} : ∀ {n : Nat} {s : S} {r : RS}, whileN t f n s = r → r ≠ .fail → whileN t f (n + 1) s = r
  | 0, s, r, h, hr => absurd h.symm hr
  | n + 1, s, r, h, hr => by
    simp only [whileN] at h
    rw [whileN]
    cases e : t s with
    | fail => simp only [e] at h ⊢; exact h
    | ex C fs s1 => simp only [e] at h ⊢; exact h
    | ok b m s1 =>
      cases b with
      | false => simp only [e] at h ⊢; exact h
      | true =>
        simp only [e] at h ⊢
        cases e2 : f s1 with
        | nx s2 => simp only [e2] at h ⊢; exact whileN_mono h hr
        | ct s2 => simp only [e2] at h ⊢; exact whileN_mono h hr
        | _ => simp only [e2] at h ⊢; exact h
theorem whileN_le {t : S → RT} {f : S → RS} {n m : Nat} {s : S} {r : RS} (h : whileN t f n s = r) (hr : r ≠ .fail) (le : n ≤ m) : whileN t f m s = r := by
  induction le with
  | refl => exact h
  | step _ ih => exact whileN_mono ih hr
open Classical in
noncomputable def whileS (t : S → RT) (f : S → RS) (s : S) : RS := if h : ∃ n, whileN t f n s ≠ .fail then whileN t f h.choose s else .fail
theorem whileS_of {t : S → RT} {f : S → RS} {n : Nat} {s : S} {r : RS} (h : whileN t f n s = r) (hr : r ≠ .fail) : whileS t f s = r := by
  have ex : ∃ n, whileN t f n s ≠ .fail := ⟨n, by rw [h]; exact hr⟩
  unfold whileS
  rw [dif_pos ex]
  rcases Nat.le_total n ex.choose with le | le
  · exact whileN_le h hr le
  · exact (whileN_le rfl ex.choose_spec le).symm.trans h
theorem whileS_ex {t : S → RT} {f : S → RS} {s : S} (h : whileS t f s ≠ .fail) : ∃ n, whileN t f n s = whileS t f s := by
  unfold whileS at h ⊢
  split
  · rename_i ex; exact ⟨_, rfl⟩
  · rename_i ex; rw [dif_neg ex] at h; exact absurd rfl h
/-- a turn -/
theorem whileS_eq (t : S → RT) (f : S → RS) (s : S) : whileS t f s = match t s with
    | .ok true _ s1 => match f s1 with
      | .nx s2 => whileS t f s2
      | .ct s2 => whileS t f s2
      | .bk s2 => .nx s2
      | .rt t s2 => .rt t s2
      | .ex C fs s2 => .ex C fs s2
      | .fail => .fail
    | .ok false _ s1 => .nx s1
    | .ex C fs s1 => .ex C fs s1
    | .fail => .fail := by
  cases e : t s with
  | fail =>
    simp only
    by_cases h : whileS t f s = .fail
    · exact h
    · obtain ⟨n, hn⟩ := whileS_ex h
      cases n with
      | zero => rw [← hn]; rfl
      | succ n => rw [← hn]; simp only [whileN, e]
  | ex C fs s1 => exact whileS_of (n := 1) (by simp only [whileN, e]) (fun h => nomatch h)
  | ok b m s1 =>
    cases b with
    | false => exact whileS_of (n := 1) (by simp only [whileN, e]) (fun h => nomatch h)
    | true =>
      simp only
      have go : ∀ s2, (∀ n, whileN t f (n + 1) s = whileN t f n s2) → whileS t f s = whileS t f s2 := by
        intro s2 hn
        by_cases h : whileS t f s2 = .fail
        · by_cases h2 : whileS t f s = .fail
          · rw [h, h2]
          · obtain ⟨n, e2⟩ := whileS_ex h2
            cases n with
            | zero => exact absurd e2.symm h2
            | succ n =>
              rw [hn] at e2
              exact (whileS_of e2 h2).symm
        · obtain ⟨n, e2⟩ := whileS_ex h
          exact whileS_of (n := n + 1) (by rw [hn]; exact e2) h
      cases e2 : f s1 with
      | nx s2 => exact go s2 fun n => by simp only [whileN, e, e2]
      | ct s2 => exact go s2 fun n => by simp only [whileN, e, e2]
      | bk s2 => exact whileS_of (n := 1) (by simp only [whileN, e, e2]) (fun h => nomatch h)
      | rt t2 s2 => exact whileS_of (n := 1) (by simp only [whileN, e, e2]) (fun h => nomatch h)
      | ex C fs s2 => exact whileS_of (n := 1) (by simp only [whileN, e, e2]) (fun h => nomatch h)
      | fail =>
        by_cases h2 : whileS t f s = .fail
        · exact h2
        · obtain ⟨n, e3⟩ := whileS_ex h2
          cases n with
          | zero => rw [← e3]; rfl
          | succ n => rw [← e3]; simp only [whileN, e, e2]
theorem while_sat {t : S → RT} {f : S → RS} {D : Ends} {σ : St} {H : Hp} (h : tS K W (whileS t f) D σ H) : tWhile (tT K W t) (tS K W f) D σ H := by
  obtain ⟨A, Z, R, r, s⟩ := h
  have hne : whileS t f A.er ≠ .fail := fun e => by rw [e] at s; exact s
  obtain ⟨n, en⟩ := whileS_ex hne
  rw [← en] at s
  refine ⟨fun n σ H => ∃ A2 R2, Rel K W.G A2 Z R2 σ H ∧ hdv A2 = hdv A ∧ SatS K W A Z D (whileN t f n A2.er), ⟨n, A, R, r, rfl, s⟩, ?_⟩
  rintro m σ2 H2 ⟨A2, R2, r2, hh2, s2⟩
  refine ⟨A2, Z, R2, r2, ?_⟩
  cases m with
  | zero => exact s2.elim
  | succ m =>
    simp only [whileN] at s2
    cases e : t A2.er with
    | fail => simp only [e] at s2; exact s2
    | ex C fs s3 => simp only [e] at s2; exact SatX.of (m := .many) hh2.symm.symm (SatX.toS s2)
    | ok b md s3 =>
      cases b with
      | false =>
        simp only [e] at s2
        intro A3 R3 H3 ea k r3
        rw [if_neg (by decide)]
        exact s2 A3 R3 σ2 H3 ea (k.hdv.trans hh2) r3
      | true =>
        simp only [e] at s2
        intro A3 R3 H3 ea k r3
        rw [if_pos rfl]
        refine ⟨_, fun σ' H' h => ⟨m, by omega, h⟩, A3, Z, R3, r3, ?_⟩
        rw [ea]
        have hh3 := k.hdv.trans hh2
        cases e3 : f s3 with
        | nx s4 => simp only [e3] at s2; exact fun A4 R5 σ4 H5 ea4 hh4 r5 => ⟨A4, R5, r5, hh4.trans hh3, by rw [ea4]; exact s2⟩
        | ct s4 => simp only [e3] at s2; exact fun A4 R5 σ4 H5 ea4 hh4 r5 => ⟨A4, R5, r5, hh4.trans hh3, by rw [ea4]; exact s2⟩
        | bk s4 => simp only [e3] at s2; exact fun A4 R5 σ4 H5 ea4 hh4 r5 => s2 A4 R5 σ4 H5 ea4 (hh4.trans hh3) r5
        | rt t s4 => simp only [e3] at s2; exact fun A4 R5 σ4 H5 au4 ea4 hh4 et4 r5 => s2 A4 R5 σ4 H5 au4 ea4 (hh4.trans hh3) et4 r5
        | ex C fs s4 => simp only [e3] at s2; exact fun A4 R5 σ4 H5 d ea4 hh4 r5 => s2 A4 R5 σ4 H5 d ea4 (hh4.trans hh3) r5
        | fail => simp only [e3] at s2; exact s2.elim
theorem is_while {c : Expr} {body : List Stmt} {t : S → RT} {f : S → RS} {pos : Pos} (hp : PassesOwn (model X.prog X.w) X.A X.env X.xe) (hc : IT X W c t) (hb : ISs X W body f) : IS X W (.While c body [] pos) (whileS t f) := ⟨PS.mono (ps_while hp hc.pt hb.ps) fun D σ H q => while_sat q⟩
end
end TL
namespace TL
open PySem PySem.Spec L2

/-! ## Comprehensions -/
def wipeS {α : Type} (s : SS α) : List Nat → SS α
  | [] => s
  | v :: vs => (wipeS s vs).put v .no
section
variable {X : Cx} {W : Wh} {K : PySem.W.Frag} {G : Gr}
theorem wipeS_er : ∀ (own : List Nat) (A : AS), (wipeS A own).er = wipeS A.er own
  | [], A => rfl
  | v :: vs, A => by simp only [wipeS]; rw [put_er, wipeS_er vs A]; rfl
theorem wipeS_hdv : ∀ (own : List Nat) (A : AS), hdv (wipeS A own) = hdv A
  | [], A => rfl
  | v :: vs, A => wipeS_hdv vs A
theorem wipeS_ga {A : AS} {r : Rt} {p : List Nat} : ∀ (own : List Nat), (∀ v ∈ own, r ≠ .sl v) → (wipeS A own).ga r p = A.ga r p
  | [], _ => rfl
  | v :: vs, h => by
    simp only [wipeS]
    rw [put_ga_ne (h v (by simp)), wipeS_ga vs fun w hw => h w (by simp [hw])]
theorem wipeS_len {α : Type} (s : SS α) : ∀ own : List Nat, (wipeS s own).sl.length = s.sl.length
  | [] => rfl
  | v :: vs => by simp [wipeS, SS.put, wipeS_len s vs]
theorem Rel.wipe {A : AS} {Z : List AT} {R : Addr → Prop} {σ : St} {H : Hp} (h : Rel K G A Z R σ H) : ∀ own : List Nat, Rel K G (wipeS A own) Z R (L2.wipe σ own) H
  | [] => h
  | v :: vs => by
    have ih := h.wipe vs
    simp only [wipeS, L2.wipe]
    by_cases hi : v < (wipeS A vs).sl.length
    · exact Rel.put (Zc := []) (Z := Z) v .no none ih hi (fun b => by simp [Sl.cn]) (fun _ e => nomatch e) (fun _ _ e => nomatch e)
    · have w := ih.weak v
      rwa [show (L2.wipe σ vs).set v none = L2.wipe σ vs from List.set_eq_of_length_le (by have := ih.len; omega)]
theorem Rel.unwipe {A : AS} {Z : List AT} {R : Addr → Prop} {σ : St} {H : Hp} {own : List Nat} (h : Rel K G A Z R (L2.wipe σ own) H) : Rel K G A Z R σ H :=
  ⟨h.okS, h.okH, h.okZ, h.nd, h.tr, by have := h.len; rwa [L2.wipe_length] at this, fun i t e => (L2.wipe_some (h.slT i t e)).1, fun i r p e => let ⟨t, g, e2⟩ := h.slA i r p e; ⟨t, g, (L2.wipe_some e2).1⟩, h.gH, h.gO, h.gR, h.gS⟩
theorem wipe_sameBut {ws own : List Nat} {σ σ' : St} (sub : ∀ v ∈ ws, v ∈ own) (sb : SameBut ws σ σ') : L2.wipe σ' own = L2.wipe σ own := by
  apply List.ext_getElem?
  intro j
  by_cases hj : j ∈ own
  · have key : ∀ (σ : St) (own : List Nat), j ∈ own → (L2.wipe σ own)[j]? = if j < σ.length then some none else none := by
      intro σ own
      induction own with
      | nil => intro h; simp at h
      | cons v vs ih =>
        intro h
        simp only [L2.wipe]
        by_cases e : v = j
        · subst e
          by_cases hl : v < (L2.wipe σ vs).length
          · rw [List.getElem?_set_self hl, if_pos (by rwa [L2.wipe_length] at hl)]
          · rw [List.getElem?_eq_none (by simpa using hl), if_neg (by rwa [L2.wipe_length] at hl)]
        · rw [List.getElem?_set_ne e]
          exact ih ((List.mem_cons.mp h).resolve_left fun z => e z.symm)
    rw [key σ' own hj, key σ own hj, sb.1]
  · have key : ∀ (σ : St) (own : List Nat), j ∉ own → (L2.wipe σ own)[j]? = σ[j]? := by
      intro σ own
      induction own with
      | nil => intro _; rfl
      | cons v vs ih =>
        intro h
        simp only [List.mem_cons, not_or] at h
        simp only [L2.wipe]
        rw [List.getElem?_set_ne (fun z => h.1 z.symm), ih h.2]
    rw [key σ' own hj, key σ own hj, sb.2 j fun h => hj (sub j h)]
/-- an own temp's things are changed -/
theorem Rel.tmp {A : AS} {Zc Z : List AT} {R : Addr → Prop} {σ : St} {H : Hp} {k k' : Kd} {D : Addr} {xs ys : List AT} (h : Rel K G A (.box true k D xs :: (Zc ++ Z)) R σ H) (fit : k'.fits ys.length) (oky : AT.okL K R H ys)
    (hc : ∀ b, AT.cnL b ys ≤ AT.cnL b xs + AT.cnL b Zc) : Rel K G A (.box true k' D ys :: Z) R σ (upd H D (k'.ho (ys.map AT.val))) := by
  have nd := h.nd D
  simp only [AT.cnL, AT.cn, if_true, cnL_append] at nd
  have nR : ¬ R D := ok_notR h.head D (by simp [AT.cn]; omega)
  have H0 : ∀ b w, b ≠ D → H b = some w → upd H D (k'.ho (ys.map AT.val)) b = some w := fun b w n e => by rw [upd_ne n]; exact e
  have same : ∀ {t : AT}, t.ok K R H → t.cn D = 0 → t.ok K R (upd H D (k'.ho (ys.map AT.val))) := fun {t} ok hz => ok_mono ok (fun _ x => x) (ok_notR ok) fun b w hb e => H0 b w (by
    rcases hb with hb | hb
    · intro z; subst z; exact nR hb
    · intro z; subst z; omega) e
  have yD := hc D
  have okz := okL_append.mp h.okZ.2
  refine ⟨fun i t e => same (h.okS i t e) ?_, okL_iff.mpr fun t ht => same (okL_mem h.okH ht) ?_, ⟨⟨?_, okL_iff.mpr fun t ht => same (okL_mem oky ht) ?_, by simp⟩, okL_iff.mpr fun t ht => same (okL_mem okz.2 ht) ?_⟩, fun b => ?_, fun b hb => ?_, h.len, h.slT, h.slA, fun b u e m => ?_, fun b hb => ?_, h.gR, h.gS⟩
  · have := cnS_mem (b := D) e; simp only [SS.cn] at nd; omega
  · have := cnL_mem (b := D) ht; simp only [SS.cn] at nd; omega
  · simp only [AtB, if_true]; exact ⟨nR, hold_new (by simpa using fit)⟩
  · have := cnL_mem (b := D) ht; omega
  · have := cnL_mem (b := D) ht; omega
  · have n := h.nd b
    have c := hc b
    simp only [AT.cnL, AT.cn, if_true, cnL_append] at n ⊢
    omega
  · by_cases e : b = D
    · subst e; rw [upd_same]; simp
    · rw [upd_ne e]; exact h.tr b hb
  · by_cases e2 : b = D
    · subst e2
      exfalso
      rcases h.gO b (by simp [AT.cnL, AT.cn]; omega) with z | z
      · rw [z] at e; cases e
      · exact m z
    · rw [upd_ne e2]; exact h.gH b u e m
  · refine h.gO b ?_
    have c := hc b
    simp only [AT.cnL, AT.cn, if_true, cnL_append] at hb ⊢
    omega
def Md.quiet : Md → Bool
  | .pure => true
  | .fz => true
  | _ => false
def isNo {α : Type} : Option (Sl α) → Bool
  | some .no => true
  | none => true
  | _ => false
def lcMd (own : List Nat) (s : S) : Md := if own.all (fun v => isNo s.sl[v]?) = true then .fz else .many
def lcL (b : T → S → Option S) (t : S → RT) (g : S → RE) (own : List Nat) (md : Md) : List T → List T → S → RE
  | [], acc, s => .ok (.v (.box true .lst acc)) md s
  | x :: xs, acc, s => match b x s with
    | some s1 => match t s1 with
      | .ok true m1 s2 => match g s2 with
        | .ok (.v u) m2 s3 => if m1.quiet = true ∧ m2.quiet = true ∧ acc.length < sizeLine then lcL b t g own md xs (acc ++ [u]) (wipeS s3 own) else .fail
        | _ => .fail
      | .ok false m1 s2 => if m1.quiet = true then lcL b t g own md xs acc (wipeS s2 own) else .fail
      | _ => .fail
    | none => .fail
def lcE (gi : S → RI) (b : T → S → Option S) (t : S → RT) (g : S → RE) (own : List Nat) (s : S) : RE := match gi s with
  | .ok its m s1 => lcL b t g own (m.seq (lcMd own s1)) its [] (wipeS s1 own)
  | .ex C fs s1 => .ex C fs s1
  | .fail => .fail
def yesT (s : S) : RT := .ok true .pure s
/-- within a comprehension nothing is raised -/
abbrev Wh.in (W : Wh) : Wh := ⟨fun _ _ _ _ => False, W.G⟩
structure ITs (X : Cx) (W : Wh) (ifs : List Expr) (t : S → RT) : Prop where
  pt : PTs X ifs (tT X.K W t)
theorem PTs.mono {ifs : List Expr} {t t' : TT} (h : PTs X ifs t) (m : ∀ σ H Q, t' σ H Q → t σ H Q) : PTs X ifs t' := ⟨fun pins s σ H Q I q => h.run pins s σ H Q I (m σ H Q q)⟩
theorem its_nil : ITs X W [] yesT := ⟨PTs.mono pts_nil fun σ H Q ⟨A, Z, R, r, s⟩ => s A R H rfl rfl r⟩
theorem its_one {c : Expr} {t : S → RT} (h : IT X W c t) : ITs X W [c] t := ⟨pts_one h.pt⟩
theorem Md.seq_many {m : Md} {A B C : AS} (h : Keep m A B) (h' : hdv C = hdv B) : Keep (m.seq .many) A C := by
  have hh := h'.trans h.hdv
  cases m with
  | pure => exact hh
  | fz => exact hh
  | pop r => exact hh
  | many => exact hh
theorem quiet_keep {m : Md} {A B : AS} (h : Keep m A B) (q : m.quiet = true) : Keep .fz A B := by
  cases m with
  | pure => have z : B = A := h; subst z; exact ⟨fun r p a e => ⟨a, e, rfl⟩, rfl⟩
  | fz => exact h
  | pop r => cases q
  | many => cases q
theorem lc_sat {gi : S → RI} {b : T → S → Option S} {t : S → RT} {g : S → RE} {ws own : List Nat} (sub : ∀ v ∈ ws, v ∈ own) {σ : St} {H : Hp} {Q : VK} (h : tE K W (lcE gi b t g own) σ H Q) :
    tLc (tI K W gi) (tG K W.in ws b) (tT K W.in t) (tE K W.in g) own σ H Q := by
  obtain ⟨A, Z, R, r, s⟩ := h
  refine ⟨A, Z, R, r, ?_⟩
  simp only [lcE] at s
  cases e1 : gi A.er with
  | fail => rw [e1] at s; exact s
  | ex C fs s1 => rw [e1] at s; exact s
  | ok its m s1 =>
    rw [e1] at s
    intro A1 R1 H1 L J ea k1 r1 wk
    subst ea
    intro D hD
    -- what is kept from A1 on
    refine ⟨fun i m H => ∃ A2 R2 accs, Rel K W.G A2 (.box true .lst D accs :: (L ++ Z)) R2 (L2.wipe σ own) H ∧ hdv A2 = hdv A1 ∧ (∀ r p at', (∀ v ∈ own, r ≠ .sl v) → A1.ga r p = some at' → ∃ au, A2.ga r p = some au ∧ au.val = at'.val) ∧
      i + m = its.length ∧ SatE K W A Z σ Q (lcL b t g own (‹Md›.seq (lcMd own A1.er)) (its.drop i) (AT.erL accs) A2.er), ⟨its.length, wipeS A1 own, R1, [], ?_, wipeS_hdv own A1, fun r p a hr e => ⟨a, by rw [wipeS_ga own hr]; exact e, rfl⟩, by omega, ?_⟩, ?_⟩
    · have := (r1.wipe own).new (Z' := L ++ Z) (k := .lst) (xs := []) (o := .lst []) hD upd_same trivial r1.okZ (fun b => by simp [AT.cnL])
      exact this
    · rw [wipeS_er]; exact s
    rintro i n H2 ⟨A2, R2, accs, r2, hh2, kp2, hm, s2⟩
    have rL : Rel K W.G A2 (L ++ (AT.box true .lst D accs :: Z)) R2 (L2.wipe σ own) H2 := r2.perm List.perm_middle.symm
    obtain ⟨w1, w2⟩ := wk W.G A2 _ R2 _ H2 rL
    cases n with
    | zero =>
      have ei : i = its.length := by omega
      subst ei
      rw [List.drop_length] at s2
      refine .inl ⟨w1, s2 A2 R2 H2 (.box true .lst D accs) rfl ?_ rfl (Rel.unwipe (r2.temps ⟨r2.head, (okL_append.mp r2.okZ.2).2⟩ fun b => by simp only [AT.cnL, cnL_append]; omega))⟩
      unfold lcMd
      split
      · rename_i hno
        refine k1.trans (m' := .fz) ⟨fun r p a e => kp2 r p a (fun v hv z => ?_) e, hh2⟩
        subst z
        have hv2 := List.all_eq_true.mp hno v hv
        simp only [SS.ga, SS.root] at e
        rw [er_sl] at hv2
        cases q : A1.sl[v]? with
        | none => rw [q] at e; cases e
        | some x =>
          rw [q] at e hv2
          cases x with
          | no => cases e
          | t y => cases hv2
          | al _ _ => cases e
      · exact Md.seq_many k1 hh2
    | succ n =>
      have hi : i < its.length := by omega
      obtain ⟨g1, g2⟩ := w2 i _ (List.getElem?_eq_getElem hi)
      rw [List.drop_eq_getElem_cons hi] at s2
      refine .inr ⟨g1, _, fun H' h => ⟨n, by omega, h⟩, fun x H3 hy => ?_⟩
      obtain ⟨au, R3, rfl, et, r3⟩ := g2 x H3 hy
      refine ⟨A2, _, au, R3, rfl, r3, ?_⟩
      rw [et]
      simp only [lcL] at s2
      cases e2 : b its[i] A2.er with
      | none => simp only [e2] at s2; exact s2
      | some s3 =>
        simp only [e2] at s2
        intro A3 R4 σ3 H4 ea3 st3 r4
        have ew : L2.wipe σ3 own = L2.wipe σ own := by
          rw [wipe_sameBut sub st3.sb]
          have key : ∀ vs : List Nat, (∀ v ∈ vs, v ∈ own) → L2.wipe (L2.wipe σ own) vs = L2.wipe σ own := by
            intro vs
            induction vs with
            | nil => intro _; rfl
            | cons v vs ih =>
              intro hv
              simp only [L2.wipe]
              rw [ih fun w hw => hv w (List.mem_cons_of_mem _ hw)]
              apply List.ext_getElem?
              intro j
              by_cases e : v = j
              · subst e
                have hk := hv v (by simp)
                by_cases hl : v < (L2.wipe σ own).length
                · rw [List.getElem?_set_self hl]
                  have : ∀ own : List Nat, v ∈ own → v < (L2.wipe σ own).length → (L2.wipe σ own)[v]? = some none := by
                    intro own
                    induction own with
                    | nil => intro h; simp at h
                    | cons w ws ih =>
                      intro h hl
                      simp only [L2.wipe] at hl ⊢
                      by_cases e : w = v
                      · subst e; rw [List.getElem?_set_self (by simpa using hl)]
                      · rw [List.getElem?_set_ne e]; exact ih ((List.mem_cons.mp h).resolve_left fun z => e z.symm) (by simpa using hl)
                  rw [this own hk hl]
                · rw [List.getElem?_eq_none (by simpa using hl), List.getElem?_eq_none (by simpa using hl)]
              · rw [List.getElem?_set_ne e]
          exact key own fun v hv => hv
        refine ⟨ew, A3, _, R4, r4, ?_⟩
        rw [ea3]
        cases e3 : t s3 with
        | fail => simp only [e3] at s2; exact s2
        | ex C fs s4 => simp only [e3] at s2; exact s2.elim
        | ok bb m1 s4 =>
          cases bb with
          | false =>
            simp only [e3] at s2
            intro A4 R5 H5 ea4 k4 r5
            rw [if_neg (by decide)]
            by_cases hq : m1.quiet = true
            · rw [if_pos hq] at s2
              have kq := quiet_keep k4 hq
              refine ⟨wipeS A4 own, R5, accs, ?_, ?_, fun r p a hr e => ?_, by omega, by rw [wipeS_er, ea4]; exact s2⟩
              · have := (r5.wipe own).perm (List.perm_middle (l₁ := L))
                rwa [ew] at this
              · rw [wipeS_hdv]; exact k4.hdv.trans (st3.hd.trans hh2)
              · obtain ⟨u1, e1', v1⟩ := kp2 r p a hr e
                obtain ⟨u2, e2', v2⟩ := st3.kw r p u1 (fun v hv => hr v (sub v hv)) e1'
                obtain ⟨u3, e3', v3⟩ := kq.1 r p u2 e2'
                exact ⟨u3, by rw [wipeS_ga own hr]; exact e3', v3.trans (v2.trans v1)⟩
            · rw [if_neg hq] at s2; exact s2.elim
          | true =>
            simp only [e3] at s2
            intro A4 R5 H5 ea4 k4 r5
            rw [if_pos rfl]
            refine ⟨A4, _, R5, r5, ?_⟩
            rw [ea4]
            cases e4 : g s4 with
            | fail => simp only [e4] at s2; exact s2
            | ex C fs s5 => simp only [e4] at s2; exact s2.elim
            | ok ev m2 s5 =>
              cases ev with
              | p r0 q => simp only [e4] at s2; exact s2.elim
              | v u =>
                simp only [e4] at s2
                intro A5 R6 H6 au6 ea5 k5 et6 r6
                by_cases hq : m1.quiet = true ∧ m2.quiet = true ∧ (AT.erL accs).length < sizeLine
                · rw [if_pos hq] at s2
                  have r7 : Rel K W.G A5 (AT.box true .lst D accs :: ([au6] ++ (L ++ Z))) R6 σ3 H6 := r6.temps ⟨(okL_append.mp r6.okZ.2).2.1, okL_append.mpr ⟨⟨r6.okZ.1, trivial⟩, okL_append.mpr ⟨(okL_append.mp r6.okZ.2).1, (okL_append.mp r6.okZ.2).2.2⟩⟩⟩ fun b => by
                    simp only [AT.cnL, cnL_append, List.cons_append, List.nil_append]; omega
                  have hl : H6 D = some (.lst (accs.map AT.val)) := ok_list r7.head
                  refine ⟨accs.map AT.val, hl, by simpa [erL_length] using hq.2.2, wipeS A5 own, R6, accs ++ [au6], ?_, ?_, fun r p a hr e => ?_, by omega, ?_⟩
                  · have r8 := Rel.tmp (k' := .lst) (ys := accs ++ [au6]) r7 trivial (okL_append.mpr ⟨r7.head.2.1, r6.okZ.1, trivial⟩) (fun b => by simp [cnL_append, AT.cnL])
                    have r9 := r8.wipe own
                    rw [ew] at r9
                    simpa [Kd.ho] using r9
                  · rw [wipeS_hdv]; exact k5.hdv.trans (k4.hdv.trans (st3.hd.trans hh2))
                  · obtain ⟨u1, e1', v1⟩ := kp2 r p a hr e
                    obtain ⟨u2, e2', v2⟩ := st3.kw r p u1 (fun v hv => hr v (sub v hv)) e1'
                    obtain ⟨u3, e3', v3⟩ := (quiet_keep k4 hq.1).1 r p u2 e2'
                    obtain ⟨u4, e4', v4⟩ := (quiet_keep k5 hq.2.1).1 r p u3 e3'
                    exact ⟨u4, by rw [wipeS_ga own hr]; exact e4', v4.trans (v3.trans (v2.trans v1))⟩
                  · rw [wipeS_er, ea5, erL_append]
                    simp only [AT.erL, et6]
                    exact s2
                · rw [if_neg hq] at s2; exact s2.elim
theorem ie_lc {elt tg iter : Expr} {ifs : List Expr} {scope : Scope} {own : List (Str × Nat)} {pos : Pos} {gi : S → RI} {b : T → S → Option S} {t : S → RT} {g : S → RE} {ws : List Nat} (hc : X.calm = true) (hN : X.N.Nodup) (sub : ∀ v ∈ ws, v ∈ own.map (·.2)) (hi : II X W tg iter gi) (ok : BlkOk X.N X.env.scope scope own)
    (hg : ∀ (s : Shared) (H : Hp) (C : Addr) (cl : List (Str × Addr)) (fp : List Addr), IG (X.blk s H scope (compEnvC scope cl C X.env) fp) W.in tg ws b) (ht : ∀ (s : Shared) (H : Hp) (C : Addr) (cl : List (Str × Addr)) (fp : List Addr), ITs (X.blk s H scope (compEnvC scope cl C X.env) fp) W.in ifs t)
    (he : ∀ (s : Shared) (H : Hp) (C : Addr) (cl : List (Str × Addr)) (fp : List Addr), IE (X.blk s H scope (compEnvC scope cl C X.env) fp) W.in elt g) (hs : ∀ x, foldedSetIterable iter X.env x = pure x := by intro _; rfl) :
    IE X W (.ListComp elt [⟨tg, iter, ifs, 0⟩] scope pos) (lcE gi b t g (own.map (·.2))) :=
  ⟨PE.mono (pe_lc hc hN hi.pi ok (fun s H C cl fp => (hg s H C cl fp).pg) (fun s H C cl fp => (ht s H C cl fp).pt) (fun s H C cl fp => (he s H C cl fp).pe) hs) fun σ H Q h => lc_sat sub h⟩
/-- name = [..] -/
theorem is_asgLc (i : Nat) {y : Str} {py : Pos} {elt tg iter : Expr} {ifs : List Expr} {scope : Scope} {own : List (Str × Nat)} {pos spos : Pos} {gi : S → RI} {b : T → S → Option S} {t : S → RT} {g : S → RE} {ws : List Nat} (hc : X.calm = true) (hN : X.N.Nodup) (hyl : X.env.scope.names.lookup y = some .local)
    (hsw : swapsWith (.ListComp elt [⟨tg, iter, ifs, 0⟩] scope pos) (some (.Name y py)) spos.line X.env = pure true) (sub : ∀ v ∈ ws, v ∈ own.map (·.2)) (hi : II X W tg iter gi) (ok : BlkOk X.N X.env.scope scope own)
    (hg : ∀ (s : Shared) (H : Hp) (C : Addr) (cl : List (Str × Addr)) (fp : List Addr), IG (X.blk s H scope (compEnvC scope cl C X.env) fp) W.in tg ws b) (ht : ∀ (s : Shared) (H : Hp) (C : Addr) (cl : List (Str × Addr)) (fp : List Addr), ITs (X.blk s H scope (compEnvC scope cl C X.env) fp) W.in ifs t)
    (he : ∀ (s : Shared) (H : Hp) (C : Addr) (cl : List (Str × Addr)) (fp : List Addr), IE (X.blk s H scope (compEnvC scope cl C X.env) fp) W.in elt g) (hy : X.N[i]? = some y := by rfl) (hs : ∀ x, foldedSetIterable iter X.env x = pure x := by intro _; rfl) :
    IS X W (.Assign [.Name y py] (.ListComp elt [⟨tg, iter, ifs, 0⟩] scope pos) spos) (asgS i (lcE gi b t g (own.map (·.2)))) :=
  ⟨PS.mono (ps_setLc hc hN hy hyl hsw hi.pi ok (fun s H C cl fp => (hg s H C cl fp).pg) (fun s H C cl fp => (ht s H C cl fp).pt) (fun s H C cl fp => (he s H C cl fp).pe) hs) fun D σ H h => lc_sat sub (Q := fun x H1 => gName i x σ H1 D.nx) (asg_sat h)⟩
end
end TL
namespace TL
open PySem PySem.Spec PyProof.Rows L2

/-! ## Defs and their calls -/
/-- what a def's run comes to: what it hands back, the trees that it was lent -/
inductive RF where
  | ok (t : T) (rs : List T)
  | ex (C : Addr) (fs : Xf) (rs : List T)
  | fail
/-- the slots at the start: lent things are hidden roots -/
def slotsOf {α : Type} : List Bool → List α → Nat → List (Sl α)
  | true :: ms, _ :: ts, k => .al (.hd k) [] :: slotsOf ms ts (k + 1)
  | false :: ms, t :: ts, k => .t t :: slotsOf ms ts k
  | _, _, _ => []
def lentOf {α : Type} : List Bool → List α → List α
  | true :: ms, t :: ts => t :: lentOf ms ts
  | false :: ms, _ :: ts => lentOf ms ts
  | _, _ => []
def startT {α : Type} (lm : List Bool) (n : Nat) (args : List α) : SS α := ⟨slotsOf lm args 0 ++ List.replicate (n - args.length) .no, lentOf lm args⟩
def runF (lm : List Bool) (n : Nat) (f : S → RS) (args : List T) : RF := if args.length = lm.length ∧ lm.length ≤ n then match f (startT lm n args) with
  | .rt t s => .ok t s.hd
  | .nx s => .ok (.atm .non) s.hd
  | .ex C fs s => .ex C fs s.hd
  | _ => .fail
  else .fail
section
variable {K : PySem.W.Frag} {G : Gr}
theorem slotsOf_er : ∀ (lm : List Bool) (aus : List AT) (k : Nat), (slotsOf lm aus k).map Sl.er = slotsOf lm (AT.erL aus) k
  | [], _, _ => rfl
  | true :: _, [], _ => rfl
  | false :: _, [], _ => rfl
  | true :: ms, t :: ts, k => by simp [slotsOf, AT.erL, Sl.er, slotsOf_er ms ts (k + 1)]
  | false :: ms, t :: ts, k => by simp [slotsOf, AT.erL, Sl.er, slotsOf_er ms ts k]
theorem lentOf_er : ∀ (lm : List Bool) (aus : List AT), AT.erL (lentOf lm aus) = lentOf lm (AT.erL aus)
  | [], _ => rfl
  | true :: _, [] => rfl
  | false :: _, [] => rfl
  | true :: ms, t :: ts => by simp [lentOf, AT.erL, lentOf_er ms ts]
  | false :: ms, t :: ts => by simp [lentOf, AT.erL, lentOf_er ms ts]
theorem startT_er (lm : List Bool) (n : Nat) (aus : List AT) : (startT lm n aus).er = startT lm n (AT.erL aus) := by
  simp only [startT, SS.er, List.map_append, slotsOf_er, lentOf_er, erL_length, List.map_replicate, Sl.er]
theorem slotsOf_len {α : Type} : ∀ (lm : List Bool) (aus : List α) (k : Nat), lm.length = aus.length → (slotsOf lm aus k).length = aus.length
  | [], [], _, _ => rfl
  | [], _ :: _, _, h => by simp at h
  | _ :: _, [], _, h => by simp at h
  | true :: ms, t :: ts, k, h => by simp [slotsOf, slotsOf_len ms ts (k + 1) (by simpa using h)]
  | false :: ms, t :: ts, k, h => by simp [slotsOf, slotsOf_len ms ts k (by simpa using h)]
theorem slots_cn (b : Addr) : ∀ (lm : List Bool) (aus : List AT) (k : Nat), lm.length = aus.length → cnS b (slotsOf lm aus k) + AT.cnL b (lentOf lm aus) = AT.cnL b aus
  | [], [], _, _ => rfl
  | [], _ :: _, _, h => by simp at h
  | _ :: _, [], _, h => by simp at h
  | true :: ms, t :: ts, k, h => by have := slots_cn b ms ts (k + 1) (by simpa using h); simp [slotsOf, lentOf, cnS, AT.cnL, Sl.cn]; omega
  | false :: ms, t :: ts, k, h => by have := slots_cn b ms ts k (by simpa using h); simp [slotsOf, lentOf, cnS, AT.cnL, Sl.cn]; omega
theorem cnS_append (b : Addr) : ∀ xs ys : List (Sl AT), cnS b (xs ++ ys) = cnS b xs + cnS b ys
  | [], ys => by simp [cnS]
  | x :: xs, ys => by simp [cnS, cnS_append b xs ys, Nat.add_assoc]
theorem cnS_no (b : Addr) : ∀ n : Nat, cnS b (List.replicate n (Sl.no : Sl AT)) = 0
  | 0 => rfl
  | n + 1 => by simp [List.replicate_succ, cnS, Sl.cn, cnS_no b n]
theorem start_cn (b : Addr) {lm : List Bool} {n : Nat} {aus : List AT} (h : lm.length = aus.length) : (startT lm n aus).cn b = AT.cnL b aus := by
  simp only [startT, SS.cn, cnS_append, cnS_no]
  have := slots_cn b lm aus 0 h
  omega
theorem slots_t : ∀ (lm : List Bool) (aus : List AT) (k i : Nat) (t : AT), (slotsOf lm aus k)[i]? = some (Sl.t t) → aus[i]? = some t
  | [], _, _, i, t, h => by simp [slotsOf] at h
  | true :: _, [], _, i, t, h => by simp [slotsOf] at h
  | false :: _, [], _, i, t, h => by simp [slotsOf] at h
  | true :: ms, x :: ts, k, 0, t, h => by simp [slotsOf] at h
  | false :: ms, x :: ts, k, 0, t, h => by simp [slotsOf] at h; simp [h]
  | true :: ms, x :: ts, k, i + 1, t, h => by simp [slotsOf] at h; simpa using slots_t ms ts (k + 1) i t h
  | false :: ms, x :: ts, k, i + 1, t, h => by simp [slotsOf] at h; simpa using slots_t ms ts k i t h
theorem slots_al : ∀ (lm : List Bool) (aus : List AT) (k i : Nat) (r : Rt) (p : List Nat), (slotsOf lm aus k)[i]? = some (Sl.al r p) → ∃ j t, r = .hd (k + j) ∧ p = [] ∧ (lentOf lm aus)[j]? = some t ∧ aus[i]? = some t
  | [], _, _, i, _, _, h => by simp [slotsOf] at h
  | true :: _, [], _, i, _, _, h => by simp [slotsOf] at h
  | false :: _, [], _, i, _, _, h => by simp [slotsOf] at h
  | true :: ms, x :: ts, k, 0, r, p, h => by simp [slotsOf] at h; exact ⟨0, x, by simp [h.1], h.2, by simp [lentOf], by simp⟩
  | false :: ms, x :: ts, k, 0, r, p, h => by simp [slotsOf] at h
  | true :: ms, x :: ts, k, i + 1, r, p, h => by
    simp [slotsOf] at h
    obtain ⟨j, t, e1, e2, e3, e4⟩ := slots_al ms ts (k + 1) i r p h
    exact ⟨j + 1, t, by rw [e1]; congr 1; omega, e2, by simpa [lentOf] using e3, by simpa using e4⟩
  | false :: ms, x :: ts, k, i + 1, r, p, h => by
    simp [slotsOf] at h
    obtain ⟨j, t, e1, e2, e3, e4⟩ := slots_al ms ts k i r p h
    exact ⟨j, t, e1, e2, by simpa [lentOf] using e3, by simpa using e4⟩
/-- the ground of a call: what is handed over may be changed -/
def gnd (H : Hp) (R : Addr → Prop) (aus : List AT) : Gr := ⟨H, fun a => 0 < AT.cnL a aus, R⟩
theorem Rel.start {H : Hp} {R : Addr → Prop} {lm : List Bool} {N : List Str} {aus : List AT} (ok : AT.okL K R H aus) (nd : ∀ b, AT.cnL b aus ≤ 1) (tr : ∀ a, R a → H a ≠ none) (h : lm.length = aus.length) (hn : aus.length ≤ N.length) :
    Rel K (gnd H R aus) (startT lm N.length aus) [] R (L2.start N (aus.map AT.val)) H := by
  have slot : ∀ (i : Nat) (x : Sl AT), x ≠ .no → (startT lm N.length aus).sl[i]? = some x → (slotsOf lm aus 0)[i]? = some x := fun i x hx e => by
    simp only [startT] at e
    by_cases hi : i < (slotsOf lm aus 0).length
    · rwa [List.getElem?_append_left hi] at e
    · rw [List.getElem?_append_right (by omega), List.getElem?_replicate] at e
      split at e
      · simp only [Option.some.injEq] at e; exact absurd e.symm hx
      · cases e
  have val : ∀ (i : Nat) (t : AT), aus[i]? = some t → (L2.start N (aus.map AT.val))[i]? = some (some t.val) := fun i t e => by
    have hi := (List.getElem?_eq_some_iff.mp e).1
    unfold L2.start
    rw [List.getElem?_append_left (by simpa using hi), List.getElem?_map, List.getElem?_map, e]; rfl
  refine ⟨fun i t e => okL_mem ok (List.mem_of_getElem? (slots_t lm aus 0 i t (slot i _ (by simp) e))), ?_, trivial, fun b => by rw [start_cn b h]; simpa [AT.cnL] using nd b, tr, ?_, fun i t e => val i t (slots_t lm aus 0 i t (slot i _ (by simp) e)), fun i r p e => ?_, fun a u e _ => e, fun b hb => .inr (by rw [start_cn b h] at hb; simpa [gnd, AT.cnL] using hb), fun a ra => .inl ra, fun a ra => ra⟩
  · refine okL_iff.mpr fun t ht => ?_
    have : ∀ (lm : List Bool) (aus : List AT) (t : AT), t ∈ lentOf lm aus → t ∈ aus := by
      intro lm
      induction lm with
      | nil => intro aus t h; simp [lentOf] at h
      | cons m ms ih =>
        intro aus t h
        cases aus with
        | nil => cases m <;> simp [lentOf] at h
        | cons x xs =>
          cases m with
          | true => simp only [lentOf, List.mem_cons] at h ⊢; exact h.imp id (ih xs t)
          | false => simp only [lentOf] at h; exact List.mem_cons_of_mem _ (ih xs t h)
    exact okL_mem ok (this lm aus t ht)
  · simp only [startT, L2.start, List.length_append, List.length_map, List.length_replicate, slotsOf_len lm aus 0 h]
  · obtain ⟨j, t, rfl, rfl, e3, e4⟩ := slots_al lm aus 0 i r p (slot i _ (by simp) e)
    refine ⟨t, ?_, val i t e4⟩
    simp only [SS.ga, SS.root, startT, Nat.zero_add, e3, AT.get]
/-- THE PROMISE of a def, by what its run comes to -/
def spT (K : PySem.W.Frag) (lm : List Bool) (F : List T → RF) : Sp := fun vs H Q E => ∃ (aus : List AT) (R : Addr → Prop), vs = aus.map AT.val ∧ aus.length = lm.length ∧ AT.okL K R H aus ∧ (∀ b, AT.cnL b aus ≤ 1) ∧ (∀ a, R a → H a ≠ none) ∧
  match F (AT.erL aus) with
  | .ok t rs => ∀ hs R' H' au, AT.erL hs = rs → hs.map AT.val = (lentOf lm aus).map AT.val → au.er = t → Rel K (gnd H R aus) ⟨[], hs⟩ [au] R' [] H' → Q au.val H'
  | .ex C fs rs => ∀ hs R' H' d, AT.erL hs = rs → hs.map AT.val = (lentOf lm aus).map AT.val → Rel K (gnd H R aus) ⟨[], hs⟩ [xdT d fs] R' [] H' → E (.ref C) (some d) H'
  | .fail => False
theorem Rel.noslots {A : AS} {Z : List AT} {R : Addr → Prop} {σ : L2.St} {H : Hp} (h : Rel K G A Z R σ H) : Rel K G ⟨[], A.hd⟩ Z R [] H := by
  have c : ∀ b, (SS.mk [] A.hd : AS).cn b ≤ A.cn b := fun b => by simp only [SS.cn, cnS]; omega
  exact ⟨fun i t e => by simp at e, h.okH, h.okZ, fun b => by have := c b; have := h.nd b; omega, h.tr, rfl, fun i t e => by simp at e, fun i r p e => by simp at e, h.gH, fun b hb => h.gO b (by have := c b; omega), h.gR, h.gS⟩
/-- a def's body keeps the promise -/
theorem body_T {N : List Str} {lm : List Bool} {f : S → RS} {vs : List V} {H : Hp} {Q : VK} {E : XK} (h : spT K lm (runF lm N.length f) vs H Q E) :
    ∃ G, tS K ⟨fun cls d _ H' => E cls d H', G⟩ f { nx := fun _ H' => Q .non H', rt := Q } (L2.start N vs) H := by
  obtain ⟨aus, R, rfl, hl, ok, nd, tr, s⟩ := h
  simp only [runF] at s
  split at s
  · rename_i heq
    split at heq
    · rename_i hc
      rw [erL_length] at hc
      refine ⟨gnd H R aus, startT lm N.length aus, [], R, Rel.start ok nd tr hl.symm (by omega), ?_⟩
      rw [startT_er]
      split at heq
      · rename_i t0 s0 e
        simp only [RF.ok.injEq] at heq
        obtain ⟨rfl, rfl⟩ := heq
        rw [e]
        intro A' R' σ' H' au ea hh et r'
        subst ea
        exact s A'.hd R' H' au rfl (by simpa [hdv, startT] using hh) et r'.noslots
      · rename_i s0 e
        simp only [RF.ok.injEq] at heq
        obtain ⟨rfl, rfl⟩ := heq
        rw [e]
        intro A' R' σ' H' ea hh r'
        subst ea
        exact s A'.hd R' H' (.atm .non) rfl (by simpa [hdv, startT] using hh) rfl (r'.atm rfl).noslots
      · cases heq
      · cases heq
    · cases heq
  · rename_i heq
    split at heq
    · rename_i hc
      rw [erL_length] at hc
      refine ⟨gnd H R aus, startT lm N.length aus, [], R, Rel.start ok nd tr hl.symm (by omega), ?_⟩
      rw [startT_er]
      split at heq
      · cases heq
      · cases heq
      · rename_i C0 fs0 s0 e
        simp only [RF.ex.injEq] at heq
        obtain ⟨rfl, rfl, rfl⟩ := heq
        rw [e]
        intro A' R' σ' H' d ea hh r'
        subst ea
        exact s A'.hd R' H' d rfl (by simpa [hdv, startT] using hh) r'.noslots
      · cases heq
    · cases heq
  · exact s.elim
theorem spT_len {lm : List Bool} {F : List T → RF} {vs : List V} {H : Hp} {Q : VK} {E : XK} (h : spT K lm F vs H Q E) : vs.length = lm.length := by
  obtain ⟨aus, R, rfl, hl, _⟩ := h
  simpa using hl
end
section
variable {P : Program} {w : World} {K : PySem.W.Frag} {mg : Str → Option Value} {base : Heap}
/-- a def of which no exception leaves -/
theorem fn_T {x qual : Str} {st : Stmt} {f : Addr} {fd : FuncData} {N ps : List Str} {k : Nat} {lm : List Bool} {g : S → RS} (F : Fun K x qual st f fd) (S : FnScope N ps (defScope st)) (hl : lm.length = ps.length)
    (hbody : ∀ (cdv : Value) (A : Around) (outer : List Env) (s : Shared) (H : Hp) (E : XK) (W : Wh), Room k (A.deeper (envOfC qual (defScope st) s.heap.objs.size f cdv)) →
      ISs (cxOf CX0 P w K mg base N qual (defScope st) f cdv A outer s H E).nox W (defBody st) g) : FnOk P w K mg base CX0 (k + 1) f fd ps (spT K lm (runF lm N.length g)) :=
  F.ok S (fun vs H Q E h => (spT_len h).trans hl) fun cdv A outer s H vs Q E hr h => let ⟨G, q⟩ := body_T (N := N) h; ⟨_, (hbody cdv A outer s H E _ hr).ps, q⟩
/-- a def that may raise -/
theorem fn_TX {x qual : Str} {st : Stmt} {f : Addr} {fd : FuncData} {N ps : List Str} {k : Nat} {lm : List Bool} {g : S → RS} (F : Fun K x qual st f fd) (S : FnScope N ps (defScope st)) (hl : lm.length = ps.length)
    (hbody : ∀ (cdv : Value) (A : Around) (outer : List Env) (s : Shared) (H : Hp) (E : XK) (G : Gr), Room k (A.deeper (envOfC qual (defScope st) s.heap.objs.size f cdv)) →
      ISs (cxOf (L2.CX P w) P w K mg base N qual (defScope st) f cdv A outer s H E) ⟨fun cls d _ H' => E cls d H', G⟩ (defBody st) g) : FnOk P w K mg base (L2.CX P w) (k + 1) f fd ps (spT K lm (runF lm N.length g)) :=
  F.okX S (fun vs H Q E h => (spT_len h).trans hl) fun cdv A outer s H vs Q E hr h => let ⟨G, q⟩ := body_T (N := N) h; ⟨_, (hbody cdv A outer s H E G hr).ps, q⟩
end
end TL
namespace TL
open PySem PySem.Spec L2

/-! ## The call of a def -/
def callArgs : List Bool → List Ev → S → Option (List T)
  | [], [], _ => some []
  | false :: ms, .v t :: es, s => (callArgs ms es s).map (t :: ·)
  | false :: ms, .p r q :: es, s => match s.gt r q with
    | some t => (callArgs ms es s).map (t.fz :: ·)
    | none => none
  | true :: ms, .p r [] :: es, s => match s.root r with
    | some (.box true k xs) => (callArgs ms es s).map (.box true k xs :: ·)
    | _ => none
  | _, _, _ => none
def lentR : List Bool → List Ev → List Rt
  | true :: ms, .p r _ :: es => r :: lentR ms es
  | _ :: ms, _ :: es => lentR ms es
  | _, _ => []
def borR : List Bool → List Ev → List Rt
  | false :: ms, .p r _ :: es => r :: borR ms es
  | _ :: ms, _ :: es => borR ms es
  | _, _ => []
def giveBack {α : Type} : List Rt → List α → SS α → SS α
  | r :: rs, t :: ts, s => giveBack rs ts ((s.setR r t).kill r [])
  | _, _, s => s
def apart (ls bs : List Rt) : Bool := decide ls.Nodup && ls.all fun r => decide (r ∉ bs)
def callMd (ls : List Rt) (m : Md) : Md := if ls.isEmpty = true then m else .many
def callE (lm : List Bool) (F : List T → RF) (g : S → RA) (s : S) : RE := match g s with
  | .ok es m s1 => match callArgs lm es s1 with
    | some ts => if apart (lentR lm es) (borR lm es) = true then match F ts with
      | .ok t rs => if (borR lm es).isEmpty = true ∨ (t.allO = true ∧ T.allOL rs = true) then .ok (.v t) (callMd (lentR lm es) m) (giveBack (lentR lm es) rs s1) else .fail
      | .ex C fs rs => if (borR lm es).isEmpty = true ∨ T.allOL rs = true then .ex C fs (giveBack (lentR lm es) rs s1) else .fail
      | .fail => .fail
      else .fail
    | none => .fail
  | .ex C fs s1 => .ex C fs s1
  | .fail => .fail
section
variable {X : Cx} {W : Wh} {K : PySem.W.Frag} {G : Gr}
/-! giving back -/
structure Gb (A A2 : AS) (rs : List Rt) (L hs : List AT) : Prop where
  cn : ∀ b, A2.cn b + AT.cnL b L = A.cn b + AT.cnL b hs
  hdv : hdv A2 = hdv A
  len : A2.sl.length = A.sl.length
  slt : ∀ (i : Nat) (t' : AT), A2.sl[i]? = some (Sl.t t') → (A.sl[i]? = some (Sl.t t') ∧ Rt.sl i ∉ rs) ∨ (t' ∈ hs ∧ ∃ t, A.sl[i]? = some (Sl.t t) ∧ t'.val = t.val)
  hdt : ∀ (k : Nat) (t' : AT), A2.hd[k]? = some t' → (A.hd[k]? = some t' ∧ Rt.hd k ∉ rs) ∨ t' ∈ hs
  ga : ∀ (i : Nat) (r : Rt) (p : List Nat), A2.sl[i]? = some (Sl.al r p) → A.sl[i]? = some (Sl.al r p) ∧ ∀ t : AT, A.ga r p = some t → ∃ u, A2.ga r p = some u ∧ u.val = t.val
theorem setR_sl {A : AS} {r : Rt} {x : AT} {i : Nat} : (A.setR r x).sl[i]? = if r = .sl i ∧ i < A.sl.length then some (.t x) else A.sl[i]? := by
  cases r with
  | sl j =>
    by_cases e : j = i
    · subst e
      by_cases hj : j < A.sl.length
      · simp [SS.setR, hj]
      · simp [SS.setR, hj]
    · simp [SS.setR, List.getElem?_set_ne e, e]
  | hd k => simp [SS.setR]
theorem setR_hd {A : AS} {r : Rt} {x : AT} {i : Nat} : (A.setR r x).hd[i]? = if r = .hd i ∧ i < A.hd.length then some x else A.hd[i]? := by
  cases r with
  | hd j =>
    by_cases e : j = i
    · subst e
      by_cases hj : j < A.hd.length
      · simp [SS.setR, hj]
      · simp [SS.setR, hj]
    · simp [SS.setR, List.getElem?_set_ne e, e]
  | sl k => simp [SS.setR]
theorem kill_sl {α : Type} {A : SS α} {r : Rt} {q : List Nat} {i : Nat} : (A.kill r q).sl[i]? = (A.sl[i]?).map (Sl.kill r q) := by simp [SS.kill]
theorem gb_one {A : AS} {r : Rt} {t x : AT} (e : A.root r = some t) (hv : x.val = t.val) : Gb A ((A.setR r x).kill r []) [r] [t] [x] := by
  refine ⟨fun b => ?_, ?_, ?_, fun i t' h => ?_, fun k t' h => ?_, fun i r' p h => ?_⟩
  · have := setR_cn (x := x) b e
    rw [kill_cn]; simp only [AT.cnL]; omega
  · exact (setR_hdv e hv)
  · cases r <;> simp [SS.kill, SS.setR]
  · rw [kill_sl, setR_sl] at h
    by_cases hr : r = .sl i ∧ i < A.sl.length
    · rw [if_pos hr] at h
      simp only [Option.map_some, Sl.kill, Option.some.injEq, Sl.t.injEq] at h
      subst h
      obtain ⟨rfl, hi⟩ := hr
      simp only [SS.root] at e
      split at e
      · rename_i y ey; cases e; exact .inr ⟨by simp, t, ey, hv⟩
      · cases e
    · rw [if_neg hr] at h
      cases e2 : A.sl[i]? with
      | none => rw [e2] at h; cases h
      | some y =>
        rw [e2] at h
        cases y with
        | no => cases h
        | t z =>
          simp only [Option.map_some, Sl.kill, Option.some.injEq, Sl.t.injEq] at h
          subst h
          refine .inl ⟨rfl, fun hm => hr ⟨by simpa using (List.mem_singleton.mp hm).symm, (List.getElem?_eq_some_iff.mp e2).1⟩⟩
        | al r2 p2 => simp only [Option.map_some, Sl.kill] at h; split at h <;> cases h
  · have h' : (A.setR r x).hd[k]? = some t' := h
    rw [setR_hd] at h'
    by_cases hr : r = .hd k ∧ k < A.hd.length
    · rw [if_pos hr] at h'; cases h'; exact .inr (by simp)
    · rw [if_neg hr] at h'
      exact .inl ⟨h', fun hm => hr ⟨by simpa using (List.mem_singleton.mp hm).symm, (List.getElem?_eq_some_iff.mp h').1⟩⟩
  · rw [kill_sl, setR_sl] at h
    by_cases hr : r = .sl i ∧ i < A.sl.length
    · rw [if_pos hr] at h; cases h
    · rw [if_neg hr] at h
      cases e2 : A.sl[i]? with
      | none => rw [e2] at h; cases h
      | some y =>
        rw [e2] at h
        cases y with
        | no => cases h
        | t z => cases h
        | al r2 p2 =>
          simp only [Option.map_some, Sl.kill] at h
          split at h
          · cases h
          · rename_i nb
            simp only [Option.some.injEq, Sl.al.injEq] at h
            obtain ⟨rfl, rfl⟩ := h
            refine ⟨rfl, fun w ew => ?_⟩
            simp only [SS.ga, root_kill] at ew ⊢
            by_cases hr2 : r2 = r
            · subst hr2
              rw [e] at ew
              rw [root_set_same e]
              cases p2 with
              | nil => simp only [AT.get, Option.some.injEq] at ew; subst ew; exact ⟨x, rfl, hv⟩
              | cons j p2 => simp [below] at nb
            · rw [root_set_ne hr2]; exact ⟨w, ew, rfl⟩
theorem gb_all : ∀ {rs : List Rt} {L hs : List AT} {A : AS}, rs.Nodup → Paired (fun r t => A.root r = some t) rs L → hs.map AT.val = L.map AT.val → Gb A (giveBack rs hs A) rs L hs
  | [], L, hs, A, _, p, hv => by
    cases p
    have : hs = [] := by simpa using hv
    subst this
    exact ⟨fun b => rfl, rfl, rfl, fun i t' h => .inl ⟨h, by simp⟩, fun k t' h => .inl ⟨h, by simp⟩, fun i r p h => ⟨h, fun t e => ⟨t, e, rfl⟩⟩⟩
  | r :: rs, L, hs, A, nd, p, hv => by
    cases p with
    | cons e p =>
      rename_i t L
      cases hs with
      | nil => simp at hv
      | cons x hs =>
        simp only [List.map_cons, List.cons.injEq] at hv
        obtain ⟨n1, n2⟩ := List.nodup_cons.mp nd
        have g1 := gb_one e hv.1
        have p2 : Paired (fun r' t => ((A.setR r x).kill r []).root r' = some t) rs L := by
          clear hv g1 nd n2
          induction p with
          | nil => exact .nil
          | cons a p ih =>
            refine .cons ?_ (ih fun h => n1 (List.mem_cons_of_mem _ h))
            rw [root_kill, root_set_ne (fun z => n1 (by simp [z]))]; exact a
        have g2 := gb_all (A := (A.setR r x).kill r []) n2 p2 hv.2
        refine ⟨fun b => ?_, g2.hdv.trans g1.hdv, g2.len.trans g1.len, fun i t' h => ?_, fun k t' h => ?_, fun i r' p h => ?_⟩
        · have h1 := g1.cn b
          have h2 := g2.cn b
          simp only [AT.cnL] at h1 ⊢
          show (giveBack rs hs _).cn b + _ = _
          omega
        · rcases g2.slt i t' h with ⟨h1, h2⟩ | ⟨h1, t2, h2, h3⟩
          · rcases g1.slt i t' h1 with ⟨k1, k2⟩ | ⟨k1, k2⟩
            · exact .inl ⟨k1, by simp only [List.mem_cons, not_or]; exact ⟨by simpa using k2, h2⟩⟩
            · exact .inr ⟨by simp only [List.mem_singleton] at k1; simp [k1], k2⟩
          · rcases g1.slt i t2 h2 with ⟨k1, k2⟩ | ⟨k1, t3, k2, k3⟩
            · exact .inr ⟨List.mem_cons_of_mem _ h1, t2, k1, h3⟩
            · exact .inr ⟨List.mem_cons_of_mem _ h1, t3, k2, h3.trans k3⟩
        · rcases g2.hdt k t' h with ⟨h1, h2⟩ | h1
          · rcases g1.hdt k t' h1 with ⟨k1, k2⟩ | k1
            · exact .inl ⟨k1, by simp only [List.mem_cons, not_or]; exact ⟨by simpa using k2, h2⟩⟩
            · exact .inr (by simp only [List.mem_singleton] at k1; simp [k1])
          · exact .inr (List.mem_cons_of_mem _ h1)
        · obtain ⟨h1, h2⟩ := g2.ga i r' p h
          obtain ⟨k1, k2⟩ := g1.ga i r' p h1
          refine ⟨k1, fun t e => ?_⟩
          obtain ⟨u, e1, v1⟩ := k2 t e
          obtain ⟨w, e2, v2⟩ := h2 u e1
          exact ⟨w, e2, v2.trans v1⟩
theorem gb_er : ∀ (rs : List Rt) (hs : List AT) (A : AS), (giveBack rs hs A).er = giveBack rs (AT.erL hs) A.er
  | [], _, A => by simp [giveBack]
  | _ :: _, [], A => by simp [giveBack, AT.erL]
  | r :: rs, x :: hs, A => by
    simp only [giveBack, AT.erL]
    rw [gb_er rs hs, kill_er, setR_er]
/-- distinct roots share nothing -/
theorem roots_cn (b : Addr) : ∀ {rs : List Rt} {L : List AT} {A : AS}, rs.Nodup → Paired (fun r t => A.root r = some t) rs L → AT.cnL b L ≤ A.cn b
  | [], _, A, _, p => by cases p; simp [AT.cnL]
  | r :: rs, _, A, nd, p => by
    cases p with
    | cons e p =>
      rename_i t L
      obtain ⟨n1, n2⟩ := List.nodup_cons.mp nd
      have p2 : Paired (fun r' t => (A.setR r (.atm .non)).root r' = some t) rs L := by
        clear nd n2
        induction p with
        | nil => exact .nil
        | cons a p ih =>
          refine .cons ?_ (ih fun h => n1 (List.mem_cons_of_mem _ h))
          rw [root_set_ne (fun z => n1 (by simp [z]))]; exact a
      have h1 := roots_cn b n2 p2
      have h2 := setR_cn (x := .atm .non) b e
      simp only [AT.cnL, AT.cn] at h2 ⊢
      omega
/-- all is changed that was handed over -/
theorem Rel.repl {A A' : AS} {Zc Zo Z : List AT} {R R' : Addr → Prop} {σ : St} {H H' : Hp} (own : Addr → Prop) (h : Rel K G A (Zc ++ Z) R σ H)
    (hsl : ∀ (i : Nat) (t' : AT), A'.sl[i]? = some (Sl.t t') → (A.sl[i]? = some (Sl.t t') ∧ ∀ b, 0 < t'.cn b → ¬ own b) ∨ (t'.ok K R' H' ∧ σ[i]? = some (some t'.val)))
    (hhd : ∀ (k : Nat) (t' : AT), A'.hd[k]? = some t' → (A.hd[k]? = some t' ∧ ∀ b, 0 < t'.cn b → ¬ own b) ∨ t'.ok K R' H')
    (okZo : AT.okL K R' H' Zo) (nd' : ∀ b, A'.cn b + AT.cnL b (Zo ++ Z) ≤ 1) (hZ : ∀ b, 0 < AT.cnL b Z → ¬ own b) (hR : ∀ a, R a → R' a) (hR2 : ∀ a, R' a → R a ∨ H a = none ∨ own a)
    (hH : ∀ a w, H a = some w → ¬ own a → H' a = some w) (hT : ∀ a, R' a → H' a ≠ none) (hown : ∀ b, own b → 0 < A.cn b + AT.cnL b (Zc ++ Z)) (hnew : ∀ b, 0 < A'.cn b + AT.cnL b (Zo ++ Z) → 0 < A.cn b + AT.cnL b (Zc ++ Z) ∨ H b = none)
    (len : A'.sl.length = A.sl.length) (slA' : ∀ (i : Nat) (r : Rt) (p : List Nat), A'.sl[i]? = some (Sl.al r p) → ∃ at', A'.ga r p = some at' ∧ σ[i]? = some (some at'.val)) : Rel K G A' (Zo ++ Z) R' σ H' := by
  have keep : ∀ {t : AT}, t.ok K R H → (∀ b, 0 < t.cn b → ¬ own b) → t.ok K R' H' := fun {t} ok ho => ok_mono ok hR (fun a ha ra => by
      rcases hR2 a ra with z | z | z
      · exact ok_notR ok a ha z
      · exact ok_there ok a ha z
      · exact ho a ha z) fun a w ha e => hH a w e (fun z => by
      rcases ha with ha | ha
      · have := hown a z
        rcases h.gO a this with q | q
        all_goals (exact (by
          have c := this
          have : ¬ R a := by
            intro ra
            -- an owned address is not among the frozen ones
            rcases Nat.eq_zero_or_pos (A.cn a) with c0 | c0
            · exact okL_notR h.okZ a (by omega) ra
            · unfold SS.cn at c0
              rcases Nat.eq_zero_or_pos (AT.cnL a A.hd) with c1 | c1
              · have : 0 < cnS a A.sl := by omega
                have key : ∀ l : List (Sl AT), (∀ (i : Nat) (t : AT), l[i]? = some (Sl.t t) → t.ok K R H) → 0 < cnS a l → False := by
                  intro l
                  induction l with
                  | nil => intro _ w; simp [cnS] at w
                  | cons x xs ih =>
                    intro hl w
                    simp only [cnS] at w
                    by_cases w1 : 0 < x.cn a
                    · cases x with
                      | t y => exact ok_notR (hl 0 y rfl) a w1 ra
                      | no => simp [Sl.cn] at w1
                      | al _ _ => simp [Sl.cn] at w1
                    · exact ih (fun i t e => hl (i + 1) t (by simpa using e)) (by omega)
                exact key A.sl h.okS this
              · exact okL_notR h.okH a c1 ra
          exact this ha))
      · exact ho a ha z)
  have hGM : ∀ b, 0 < A'.cn b + AT.cnL b (Zo ++ Z) → G.H b = none ∨ G.M b := fun b hb => by
    rcases hnew b hb with z | z
    · exact h.gO b z
    · exact h.fresh z
  refine ⟨fun i t e => ?_, okL_iff.mpr fun t ht => ?_, okL_append.mpr ⟨okZo, okL_iff.mpr fun t ht => keep (okL_mem (okL_append.mp h.okZ).2 ht) fun b hb => hZ b ?_⟩, nd', hT, h.len.trans len.symm, fun i t e => ?_, slA', fun a u e m => hH a u (h.gH a u e m) fun z => ?_, hGM, fun a ra => ?_, fun a ra => hR a (h.gS a ra)⟩
  · rcases hsl i t e with ⟨e1, e2⟩ | ⟨e1, _⟩
    · exact keep (h.okS i t e1) e2
    · exact e1
  · obtain ⟨k, hk⟩ := List.getElem?_of_mem ht
    rcases hhd k t hk with ⟨e1, e2⟩ | e1
    · exact keep (okL_mem h.okH (List.mem_of_getElem? e1)) e2
    · exact e1
  · have := cnL_mem (b := b) ht; omega
  · rcases hsl i t e with ⟨e1, e2⟩ | ⟨_, e1⟩
    · exact h.slT i t e1
    · exact e1
  · rcases h.gO a (hown a z) with q | q
    · rw [q] at e; cases e
    · exact m q
  · rcases hR2 a ra with z | z | z
    · exact h.gR a z
    · exact .inr (h.fresh z)
    · exact .inr (h.gO a (hown a z))
mutual
/-- wholly its own: in order whatever is frozen, but for what it owns -/
theorem allO_ok {R R' : Addr → Prop} {H : Hp} : ∀ {t : AT}, t.ok K R H → t.er.allO = true → (∀ a, 0 < t.cn a → ¬ R' a) → t.ok K R' H
  | .atm v, h, _, _ => h
  | .box true k a xs, h, ho, hr => by
    obtain ⟨h1, h3, h4⟩ := h
    simp only [AT.er, T.allO, Bool.true_and] at ho
    simp only [AtB, if_true] at h1
    exact ⟨by simp only [AtB, if_true]; exact ⟨hr a (by simp [AT.cn]; omega), h1.2⟩, allOL_ok h3 ho fun b hb => hr b (by simp only [AT.cn, if_true]; omega), h4⟩
  | .box false k a xs, h, ho, hr => by simp [AT.er, T.allO] at ho
theorem allOL_ok {R R' : Addr → Prop} {H : Hp} : ∀ {xs : List AT}, AT.okL K R H xs → T.allOL (AT.erL xs) = true → (∀ a, 0 < AT.cnL a xs → ¬ R' a) → AT.okL K R' H xs
  | [], _, _, _ => trivial
  | x :: xs, h, ho, hr => by
    simp only [AT.erL, T.allOL, Bool.and_eq_true] at ho
    exact ⟨allO_ok h.1 ho.1 fun a ha => hr a (by simp only [AT.cnL]; omega), allOL_ok h.2 ho.2 fun a ha => hr a (by simp only [AT.cnL]; omega)⟩
end
/-- the arguments told apart: aus for the callee; L the lent roots' trees, Bs the borrowed ones -/
theorem prep {A : AS} : ∀ {lm : List Bool} {es : List Ev} {aus0 tz : List AT} {ts : List T}, ArgsAt A es aus0 tz → callArgs lm es A.er = some ts →
    ∃ aus L Bs, aus.map AT.val = aus0.map AT.val ∧ AT.erL aus = ts ∧ aus.length = lm.length ∧ lentOf lm aus = L ∧ Paired (fun r t => A.root r = some t) (lentR lm es) L ∧ (∀ b, AT.cnL b aus = AT.cnL b tz + AT.cnL b L) ∧
      (∀ u ∈ Bs, ∃ r ∈ borR lm es, ∃ q, A.ga r q = some u) ∧ (∀ x ∈ aus, x ∈ tz ∨ x ∈ L ∨ ∃ u ∈ Bs, x = u.fz) ∧ ((borR lm es).isEmpty = true → Bs = [])
  | [], [], aus0, tz, ts, h, e => by
    obtain ⟨rfl, rfl⟩ := h
    simp only [callArgs, Option.some.injEq] at e; subst e
    exact ⟨[], [], [], rfl, rfl, rfl, rfl, .nil, fun _ => rfl, by simp, by simp, fun _ => rfl⟩
  | [], _ :: _, _, _, _, _, e => by simp [callArgs] at e
  | false :: _, [], _, _, _, _, e => by simp [callArgs] at e
  | true :: _, [], _, _, _, _, e => by simp [callArgs] at e
  | true :: _, .v _ :: _, _, _, _, _, e => by simp [callArgs] at e
  | true :: _, .p _ (_ :: _) :: _, _, _, _, _, e => by simp [callArgs] at e
  | false :: ms, .v t :: es, aus0, tz, ts, h, e => by
    obtain ⟨au, aus', tz', rfl, rfl, et, h⟩ := h
    simp only [callArgs] at e
    cases e2 : callArgs ms es A.er with
    | none => rw [e2] at e; cases e
    | some us =>
      rw [e2] at e
      simp only [Option.map_some, Option.some.injEq] at e; subst e
      obtain ⟨aus, L, Bs, h1, h2, h3, h4, h5, h6, h7, h8, h9⟩ := prep h e2
      refine ⟨au :: aus, L, Bs, by simp [h1], by simp [AT.erL, et, h2], by simp [h3], by simpa [lentOf] using h4, by simpa [lentR] using h5, fun b => by have := h6 b; simp only [AT.cnL]; omega, fun u hu => ?_, fun x hx => ?_, fun hb => h9 (by simpa [borR] using hb)⟩
      · obtain ⟨r, hr, q⟩ := h7 u hu
        exact ⟨r, by simpa [borR] using hr, q⟩
      · rcases List.mem_cons.mp hx with rfl | hx
        · exact .inl (by simp)
        · exact (h8 x hx).imp (List.mem_cons_of_mem _) id
  | false :: ms, .p r q :: es, aus0, tz, ts, h, e => by
    obtain ⟨au, aus', rfl, ga, h⟩ := h
    simp only [callArgs, er_ga, ga, Option.map_some] at e
    cases e2 : callArgs ms es A.er with
    | none => rw [e2] at e; cases e
    | some us =>
      rw [e2] at e
      simp only [Option.map_some, Option.some.injEq] at e; subst e
      obtain ⟨aus, L, Bs, h1, h2, h3, h4, h5, h6, h7, h8, h9⟩ := prep h e2
      refine ⟨au.fz :: aus, L, au :: Bs, by simp [h1, fz_val], by simp [AT.erL, fz_er, h2], by simp [h3], by simpa [lentOf] using h4, by simpa [lentR] using h5, fun b => by have := h6 b; simp only [AT.cnL, fz_cn]; omega, fun u hu => ?_, fun x hx => ?_, fun hb => by simp [borR] at hb⟩
      · rcases List.mem_cons.mp hu with rfl | hu
        · exact ⟨r, by simp [borR], q, ga⟩
        · obtain ⟨r', hr, q'⟩ := h7 u hu
          exact ⟨r', by simp [borR, hr], q'⟩
      · rcases List.mem_cons.mp hx with rfl | hx
        · exact .inr (.inr ⟨au, by simp, rfl⟩)
        · rcases h8 x hx with h | h | ⟨u, hu, h⟩
          · exact .inl h
          · exact .inr (.inl h)
          · exact .inr (.inr ⟨u, List.mem_cons_of_mem _ hu, h⟩)
  | true :: ms, .p r [] :: es, aus0, tz, ts, h, e => by
    obtain ⟨au, aus', rfl, ga, h⟩ := h
    have hr : A.root r = some au := by
      simp only [SS.ga] at ga
      split at ga
      · rename_i t et; simp only [AT.get, Option.some.injEq] at ga; rw [et, ga]
      · cases ga
    simp only [callArgs, er_root, hr, Option.map_some] at e
    split at e
    · rename_i k xs ex
      simp only [Option.some.injEq] at ex
      cases e2 : callArgs ms es A.er with
      | none => rw [e2] at e; cases e
      | some us =>
        rw [e2] at e
        simp only [Option.map_some, Option.some.injEq] at e; subst e
        obtain ⟨aus, L, Bs, h1, h2, h3, h4, h5, h6, h7, h8, h9⟩ := prep h e2
        refine ⟨au :: aus, au :: L, Bs, by simp [h1], by simp [AT.erL, ex, h2], by simp [h3], by simp [lentOf, h4], by simp only [lentR]; exact .cons hr h5, fun b => by have := h6 b; simp only [AT.cnL]; omega, fun u hu => ?_, fun x hx => ?_, fun hb => h9 (by simpa [borR] using hb)⟩
        · obtain ⟨r', hr', q⟩ := h7 u hu
          exact ⟨r', by simpa [borR] using hr', q⟩
        · rcases List.mem_cons.mp hx with rfl | hx
          · exact .inr (.inl (by simp))
          · rcases h8 x hx with h | h | h
            · exact .inl h
            · exact .inr (.inl (List.mem_cons_of_mem _ h))
            · exact .inr (.inr h)
    · cases e
theorem ga_root {A : AS} {r : Rt} {q : List Nat} {u : AT} (h : A.ga r q = some u) : ∃ t, A.root r = some t ∧ t.get q = some u := by
  simp only [SS.ga] at h
  split at h
  · rename_i t et; exact ⟨t, et, h⟩
  · cases h
theorem mem_cnL {b : Addr} : ∀ {xs : List AT}, 0 < AT.cnL b xs → ∃ x ∈ xs, 0 < x.cn b
  | [], h => by simp [AT.cnL] at h
  | x :: xs, h => by
    simp only [AT.cnL] at h
    by_cases e : 0 < x.cn b
    · exact ⟨x, by simp, e⟩
    · obtain ⟨y, hy, e2⟩ := mem_cnL (b := b) (xs := xs) (by omega)
      exact ⟨y, List.mem_cons_of_mem _ hy, e2⟩
theorem call_sat {lm : List Bool} {F : List T → RF} {g : S → RA} {σ : St} {H : Hp} {Q : VK} (h : tE K W (callE lm F g) σ H Q) : tA K W g σ H fun vs H1 => spT K lm F (vs ++ []) H1 Q (WE W.x σ) := by
  obtain ⟨A0, Z, R, rel, s⟩ := h
  refine ⟨A0, Z, R, rel, ?_⟩
  simp only [callE] at s
  cases e1 : g A0.er with
  | fail => rw [e1] at s; exact s
  | ex C fs s1 => rw [e1] at s; exact s
  | ok es m s1 =>
    rw [e1] at s
    simp only at s
    intro A R H aus0 tz ea k at' r
    subst ea
    cases e2 : callArgs lm es A.er with
    | none => rw [e2] at s; exact s.elim
    | some ts =>
      rw [e2] at s
      simp only at s
      by_cases ap : apart (lentR lm es) (borR lm es) = true
      · rw [if_pos ap] at s
        obtain ⟨aus, L, Bs, hv, rfl, hlen, hL, hp, hcn, hB, hmem, hBe⟩ := prep at' e2
        simp only [apart, Bool.and_eq_true, decide_eq_true_eq, List.all_eq_true] at ap
        obtain ⟨nd1, nd2⟩ := ap
        have okz := okL_append.mp r.okZ
        have ndr := fun b => by have := r.nd b; rw [cnL_append] at this; exact this
        have cL := fun b => roots_cn b nd1 hp
        -- the borrowed addresses
        have bor : ∀ {b : Addr}, 0 < AT.cnL b Bs → 0 < A.cn b ∧ AT.cnL b L = 0 ∧ AT.cnL b tz = 0 ∧ AT.cnL b Z = 0 := fun {b} hb => by
          obtain ⟨u, hu, cu⟩ := mem_cnL hb
          obtain ⟨r0, hr0, q, ga⟩ := hB u hu
          obtain ⟨t, et, eg⟩ := ga_root ga
          have ct := (get_ok q (r.root_ok et) eg).2 b
          have nin : r0 ∉ lentR lm es := fun z => nd2 r0 z hr0
          have := roots_cn b (rs := r0 :: lentR lm es) (L := t :: L) (List.nodup_cons.mpr ⟨nin, nd1⟩) (.cons et hp)
          simp only [AT.cnL] at this
          have := ndr b
          omega
        have okL : AT.okL K R H L := by
          have : ∀ {rs : List Rt} {L : List AT}, Paired (fun r t => A.root r = some t) rs L → AT.okL K R H L := by
            intro rs L p
            induction p with
            | nil => trivial
            | cons e p ih => exact ⟨r.root_ok e, ih⟩
          exact this hp
        have okB : ∀ u ∈ Bs, u.ok K R H := fun u hu => by
          obtain ⟨r0, _, q, ga⟩ := hB u hu
          exact (r.ga_ok ga).1
        have cnB : ∀ {b : Addr} {u : AT}, u ∈ Bs → u.cn b ≤ AT.cnL b Bs := fun hu => cnL_mem hu
        have notRB : ∀ {a : Addr}, 0 < AT.cnL a Bs → ¬ R a := fun {a} ha => by
          obtain ⟨u, hu, cu⟩ := mem_cnL ha
          exact ok_notR (okB u hu) a cu
        -- what the callee takes as frozen
        let R2 : Addr → Prop := fun a => R a ∨ 0 < AT.cnL a Bs
        have okaus : AT.okL K R2 H aus := okL_iff.mpr fun x hx => by
          rcases hmem x hx with hx | hx | ⟨u, hu, rfl⟩
          · refine ok_mono (okL_mem okz.1 hx) (fun _ => .inl) (fun a ha hra => ?_) fun _ _ _ e => e
            rcases hra with hra | hra
            · exact ok_notR (okL_mem okz.1 hx) a ha hra
            · have := cnL_mem (b := a) hx; have := bor hra; omega
          · refine ok_mono (okL_mem okL hx) (fun _ => .inl) (fun a ha hra => ?_) fun _ _ _ e => e
            rcases hra with hra | hra
            · exact ok_notR (okL_mem okL hx) a ha hra
            · have := cnL_mem (b := a) hx; have := bor hra; omega
          · exact fz_ok (okB u hu) (fun _ => .inl) fun a ha => .inr (Nat.lt_of_lt_of_le ha (cnB hu))
        have ndaus : ∀ b, AT.cnL b aus ≤ 1 := fun b => by have := hcn b; have := cL b; have := ndr b; omega
        have tr2 : ∀ a, R2 a → H a ≠ none := fun a ra => by
          rcases ra with ra | ra
          · exact r.tr a ra
          · obtain ⟨u, hu, cu⟩ := mem_cnL ra
            exact ok_there (okB u hu) a cu
        refine ⟨aus, R2, by rw [List.append_nil, hv], hlen, okaus, ndaus, tr2, ?_⟩
        -- behind the call
        have back : ∀ {hs Zo : List AT} {R' : Addr → Prop} {H' : Hp}, hs.map AT.val = (lentOf lm aus).map AT.val → Rel K (gnd H R2 aus) ⟨[], hs⟩ Zo R' [] H' → ((borR lm es).isEmpty = true ∨ (T.allOL (AT.erL Zo) = true ∧ T.allOL (AT.erL hs) = true)) →
            Rel K W.G (giveBack (lentR lm es) hs A) (Zo ++ Z) (fun a => R' a ∧ ¬ 0 < AT.cnL a Bs) σ H' := by
          intro hs Zo R' H' hvs rc hb
          rw [hL] at hvs
          have gb := gb_all (A := A) nd1 hp hvs
          have ndc := rc.nd
          simp only [SS.cn, cnS, Nat.zero_add] at ndc
          have gOc : ∀ b, 0 < AT.cnL b hs + AT.cnL b Zo → H b = none ∨ 0 < AT.cnL b aus := fun b hb => rc.gO b (by simpa [SS.cn, cnS] using hb)
          -- in order for the caller
          have okx : ∀ {xs : List AT}, AT.okL K R' H' xs → (∀ b, 0 < AT.cnL b xs → 0 < AT.cnL b hs + AT.cnL b Zo) → ((borR lm es).isEmpty = true ∨ T.allOL (AT.erL xs) = true) → AT.okL K (fun a => R' a ∧ ¬ 0 < AT.cnL a Bs) H' xs := by
            intro xs ok hc hbx
            rcases hbx with hbx | hbx
            · have := hBe hbx
              subst this
              exact okL_mono ok (fun a ra => ⟨ra, by simp [AT.cnL]⟩) (fun a ha ra => okL_notR ok a ha ra.1) fun _ _ _ e => e
            · exact allOL_ok ok hbx fun a ha ra => okL_notR ok a ha ra.1
          have okhs : AT.okL K (fun a => R' a ∧ ¬ 0 < AT.cnL a Bs) H' hs := okx rc.okH (fun b hb => by omega) (hb.imp id And.right)
          have disj : ∀ b, 0 < AT.cnL b aus → AT.cnL b Z = 0 := fun b hb => by have := hcn b; have := cL b; have := ndr b; omega
          refine Rel.repl (Zc := tz) (fun a => 0 < AT.cnL a aus) r (fun i t' e => ?_) (fun kk t' e => ?_) (okx rc.okZ (fun b hb => by omega) (hb.imp id And.left)) (fun b => ?_) (fun b hb h => by have := disj b h; omega) (fun a ra => ⟨rc.gS a (.inl ra), fun z => notRB z ra⟩) (fun a ra => ?_) (fun a w e na => ?_) (fun a ra => rc.tr a ra.1) (fun b hb => ?_) (fun b hb => ?_) gb.len fun i r' p e => ?_
          · rcases gb.slt i t' e with ⟨h1, h2⟩ | ⟨h1, t0, h2, h3⟩
            · refine .inl ⟨h1, fun b hb ho => ?_⟩
              have e0 : A.root (.sl i) = some t' := by simp only [SS.root, h1]
              have := roots_cn b (rs := .sl i :: lentR lm es) (L := t' :: L) (List.nodup_cons.mpr ⟨h2, nd1⟩) (.cons e0 hp)
              simp only [AT.cnL] at this
              have := hcn b; have := ndr b
              omega
            · exact .inr ⟨okL_mem okhs h1, by rw [h3]; exact r.slT i t0 h2⟩
          · rcases gb.hdt kk t' e with ⟨h1, h2⟩ | h1
            · refine .inl ⟨h1, fun b hb ho => ?_⟩
              have e0 : A.root (.hd kk) = some t' := h1
              have := roots_cn b (rs := .hd kk :: lentR lm es) (L := t' :: L) (List.nodup_cons.mpr ⟨h2, nd1⟩) (.cons e0 hp)
              simp only [AT.cnL] at this
              have := hcn b; have := ndr b
              omega
            · exact .inr (okL_mem okhs h1)
          · have h1 := gb.cn b
            have h2 := ndc b
            have h3 := cL b
            have h4 := ndr b
            have h5 := hcn b
            rw [cnL_append]
            by_cases q : 0 < AT.cnL b hs + AT.cnL b Zo
            · rcases gOc b q with z | z
              · have := r.free z
                rw [cnL_append] at this
                omega
              · omega
            · omega
          · rcases rc.gR a ra.1 with z | z | z
            · rcases z with z | z
              · exact .inl z
              · exact absurd z ra.2
            · exact .inr (.inl z)
            · exact .inr (.inr z)
          · exact rc.gH a w e na
          · have := hcn b; have := cL b; rw [cnL_append]; omega
          · have h1 := gb.cn b
            have h3 := cL b
            have h5 := hcn b
            rw [cnL_append] at hb ⊢
            by_cases q : 0 < AT.cnL b hs + AT.cnL b Zo
            · rcases gOc b q with z | z
              · exact .inr z
              · left; omega
            · left; omega
          · obtain ⟨h1, h2⟩ := gb.ga i r' p e
            obtain ⟨t, g1, sv⟩ := r.slA i r' p h1
            obtain ⟨u, g2, v2⟩ := h2 t g1
            exact ⟨u, g2, by rw [v2]; exact sv⟩
        cases e3 : F (AT.erL aus) with
        | fail => rw [e3] at s; exact s
        | ok t rs =>
          rw [e3] at s
          simp only at s ⊢
          intro hs R' H' au ers hvs et rc
          by_cases hb : (borR lm es).isEmpty = true ∨ (t.allO = true ∧ T.allOL rs = true)
          · rw [if_pos hb] at s
            subst ers et
            have r3 := back hvs rc (hb.imp id fun ⟨a, b⟩ => ⟨by simp [AT.erL, T.allOL, a], b⟩)
            have gb := gb_all (A := A) (hs := hs) nd1 hp (by rw [← hL]; exact hvs)
            refine s _ _ H' au (gb_er _ _ _) ?_ rfl r3
            unfold callMd
            split
            · rename_i hem
              have hnil : lentR lm es = [] := by simpa using hem
              have : giveBack (lentR lm es) hs A = A := by rw [hnil]; rfl
              rw [this]; exact k
            · exact gb.hdv.trans k.hdv
          · rw [if_neg hb] at s; exact s.elim
        | ex C fs rs =>
          rw [e3] at s
          simp only at s ⊢
          intro hs R' H' d ers hvs rc
          by_cases hb : (borR lm es).isEmpty = true ∨ T.allOL rs = true
          · rw [if_pos hb] at s
            subst ers
            have hxd : ∀ l : Xf, T.allOL (AT.erL (l.map fun p => AT.atm (.int p.2))) = true := by
              intro l
              induction l with
              | nil => rfl
              | cons p l ih => simp only [List.map_cons, AT.erL, AT.er, T.allOL, T.allO, Bool.true_and]; exact ih
            have r3 := back hvs rc (hb.imp id fun b => ⟨by simp only [AT.erL, xdT, AT.er, T.allOL, T.allO, Bool.true_and, Bool.and_true]; exact hxd fs, b⟩)
            have gb := gb_all (A := A) (hs := hs) nd1 hp (by rw [← hL]; exact hvs)
            exact s _ _ H' d (gb_er _ _ _) (gb.hdv.trans k.hdv) (r3.temps ⟨r3.head, trivial⟩ fun b => by simp [AT.cnL])
          · rw [if_neg hb] at s; exact s.elim
      · rw [if_neg ap] at s; exact s.elim
theorem ie_call {CX : CXT} {lm : List Bool} {F : List T → RF} {k : Nat} {f : Addr} {fd : FuncData} {ps : List Str} {x : Str} {e : Expr} {es : List Expr} {gs : List (S → RE)} {p pos : Pos} (hF : FnOk X.prog X.w X.K X.mg X.base CX k f fd ps (spT X.K lm F)) (hr : Room k X.A) (hm : X.mg x = some (.ref f))
    (hk : PySem.W.keepIn X.K (.ref f) = true) (hb : Binds X.K fd ps []) (hx : ∀ σ, PassesAt CX X σ (WE W.x σ)) (ha : IA X W (e :: es) gs) (hg : Gl X x := by rfl) (hdb : (x == ("__debug__" : Str)) = false := by decide)
    (he : starEach (e :: es) X.env = (false, eval e X.env) :: starEach es X.env := by rfl) (hpl : (backTo pos (starEach es X.env)).any (·.1) = false := by rfl) : IE X W (.Call (.Name x p) (e :: es) [] pos) (callE lm F (argsG gs)) :=
  ⟨PE.mono (pe_callSD hF hr hg hm hk hb .nil hx ha.pa hdb he hpl) fun σ H Q h => call_sat h⟩
theorem passS0 {W' : Wh} : ∀ σ, PassesAt CX0 X σ (WE W'.x σ) := fun _ _ _ _ _ _ _ h => h.elim
end
end TL
namespace TL
open PySem PySem.Spec L2

/-! ## Built-ins -/
section
variable {X : Cx} {W : Wh} {K : PySem.W.Frag} {G : Gr}
/-- a built-in class's name as a value -/
theorem ie_ty {n : String} {x : Str} {pos : Pos} (hm : X.mg x = none) (hv : bootBuiltins x = some (.type n)) (hg : Gl X x := by rfl) (hn : x ≠ "__name__" := by decide) (hd : (x == ("__debug__" : Str)) = false := by decide) : IE X W (.Name x pos) (kE (.ty n)) :=
  ie_k (pe_bltn hg hm hv (show RelV (.ty n) (.type n) from rfl) hn hd)
/-! isinstance -/
def tyN : T → Option String
  | .atm .non => some "NoneType"
  | .atm (.bl _) => some "bool"
  | .atm (.int _) => some "int"
  | .atm (.str _) => some "str"
  | .box _ .lst _ => some "list"
  | .box _ .tup _ => some "tuple"
  | .box _ (.dct _) _ => some "dict"
  | .box _ (.dtp _) _ => some "dict"
  | _ => none
def isiF : List T → Option RV
  | [t, .atm (.ty n)] => match tyN t with
    | some m => match kitB m n with
      | some b => some (.a (.bl b))
      | none => none
    | none => none
  | _ => none
theorem vok_isi : VOK K (rIsi K) isiF := by
  intro R H aus Q ok
  unfold isiF
  split
  · rename_i t n e
    obtain ⟨a, b, rfl, rfl, eb⟩ := inv2 e
    obtain rfl := invA eb
    split
    · rename_i m em
      split
      · rename_i bb eb
        have key : TyX K H a.val (.type m) := by
          cases a with
          | atm v => cases v <;> simp only [AT.er, tyN, Option.some.injEq, reduceCtorEq] at em <;> subst em <;> first | exact .base .non | exact .base (.bl _) | exact .base (.int _) | exact .base (.str _)
          | box o k p xs =>
            cases k <;> simp only [AT.er, tyN, Option.some.injEq, reduceCtorEq] at em <;> subst em
            · exact .base (.lst (ok_list ok.1))
            · exact .base (.tup (ok_tup ok.1))
            · exact .base (.dK (ok_dct ok.1).2)
            · exact .base (.dT (ok_dtp ok.1).2)
        exact ⟨rfl, fun q => ⟨_, _, _, _, bb, rfl, .ty n, key, kit_ty eb, q⟩⟩
      · trivial
    · trivial
  · trivial
theorem ie_isi {e c : Expr} {g gc : S → RE} {p pos : Pos} (hm : X.mg "isinstance" = none) (ha : IE X W e g) (hc : IE X W c gc) (hg : Gl X "isinstance" := by rfl) (he : starEach [e, c] X.env = (false, eval e X.env) :: starEach [c] X.env := by rfl) (he2 : starEach [c] X.env = (false, eval c X.env) :: starEach [] X.env := by rfl)
    (hpl : (backTo pos (starEach [c] X.env)).any (·.1) = false := by rfl) : IE X W (.Call (.Name "isinstance" p) [e, c] [] pos) (opE isiF (argsG [g, gc])) := ie_callB call_isi vok_isi (ia_cons ha (ia_cons hc ia_nil he2) he) (by decide +kernel) hm hg (by decide) (by decide) he hpl
/-! min, max, sum of ints, abs -/
def minF : List T → Option RV
  | [.box _ .lst xs] => match T.intL xs with
    | some is => match is.min? with
      | some m => some (.a (.int m))
      | none => none
    | none => none
  | [.box _ .scr xs] => match T.intL xs with
    | some is => match is.min? with
      | some m => some (.a (.int m))
      | none => none
    | none => none
  | [.atm (.int i), .atm (.int j)] => some (.a (.int (if j < i then j else i)))
  | _ => none
def maxF : List T → Option RV
  | [.box _ .lst xs] => match T.intL xs with
    | some is => match is.max? with
      | some m => some (.a (.int m))
      | none => none
    | none => none
  | [.box _ .scr xs] => match T.intL xs with
    | some is => match is.max? with
      | some m => some (.a (.int m))
      | none => none
    | none => none
  | [.atm (.int i), .atm (.int j)] => some (.a (.int (if j > i then j else i)))
  | _ => none
def rMin2 : List V → Hp → VK → Prop := fun xs H Q => ∃ i j, xs = [.int i, .int j] ∧ Q (.int (if j < i then j else i)) H
def rMax2' : List V → Hp → VK → Prop := fun xs H Q => ∃ i j, xs = [.int i, .int j] ∧ Q (.int (if j > i then j else i)) H
theorem intL_val {xs : List AT} {is : List Int} (h : T.intL (AT.erL xs) = some is) : xs.map AT.val = is.map V.int := by rw [intL_of h, List.map_map]; rfl
theorem vok_min : VOK K (fun vs H Q => rMin K vs H Q ∨ rMin2 vs H Q) minF := by
  intro R H aus Q ok
  unfold minF
  split
  · rename_i o xs e
    obtain ⟨a, rfl, ea⟩ := inv1 e
    obtain ⟨p, xs, rfl, rfl⟩ := invB ea
    split
    · rename_i is ei
      split
      · rename_i m em
        refine ⟨rfl, fun q => .inl ⟨p, is, rfl, by rw [← intL_val ei]; exact .of (ok_list ok.1), ?_, fun m' h1 h2 => ?_⟩⟩
        · cases is with
          | nil => cases em
          | cons => simp
        · obtain ⟨k1, k2⟩ := List.min?_eq_some_iff.mp em
          have : m' = m := by have := h2 m k1; have := k2 m' h1; omega
          subst this; exact q
      · trivial
    · trivial
  · rename_i o xs e
    obtain ⟨a, rfl, ea⟩ := inv1 e
    obtain ⟨p, xs, rfl, rfl⟩ := invB ea
    split
    · rename_i is ei
      split
      · rename_i m em
        refine ⟨rfl, fun q => .inl ⟨p, is, rfl, by rw [← intL_val ei]; exact ok_scr ok.1, ?_, fun m' h1 h2 => ?_⟩⟩
        · cases is with
          | nil => cases em
          | cons => simp
        · obtain ⟨k1, k2⟩ := List.min?_eq_some_iff.mp em
          have : m' = m := by have := h2 m k1; have := k2 m' h1; omega
          subst this; exact q
      · trivial
    · trivial
  · rename_i i j e
    obtain ⟨a, b, rfl, ea, eb⟩ := inv2 e
    obtain rfl := invA ea
    obtain rfl := invA eb
    exact ⟨rfl, fun q => .inr ⟨i, j, rfl, q⟩⟩
  · trivial
theorem vok_max : VOK K (fun vs H Q => rMax K vs H Q ∨ rMax2' vs H Q) maxF := by
  intro R H aus Q ok
  unfold maxF
  split
  · rename_i o xs e
    obtain ⟨a, rfl, ea⟩ := inv1 e
    obtain ⟨p, xs, rfl, rfl⟩ := invB ea
    split
    · rename_i is ei
      split
      · rename_i m em
        refine ⟨rfl, fun q => .inl ⟨p, is, rfl, by rw [← intL_val ei]; exact .of (ok_list ok.1), ?_, fun m' h1 h2 => ?_⟩⟩
        · cases is with
          | nil => cases em
          | cons => simp
        · obtain ⟨k1, k2⟩ := List.max?_eq_some_iff.mp em
          have : m' = m := by have := h2 m k1; have := k2 m' h1; omega
          subst this; exact q
      · trivial
    · trivial
  · rename_i o xs e
    obtain ⟨a, rfl, ea⟩ := inv1 e
    obtain ⟨p, xs, rfl, rfl⟩ := invB ea
    split
    · rename_i is ei
      split
      · rename_i m em
        refine ⟨rfl, fun q => .inl ⟨p, is, rfl, by rw [← intL_val ei]; exact ok_scr ok.1, ?_, fun m' h1 h2 => ?_⟩⟩
        · cases is with
          | nil => cases em
          | cons => simp
        · obtain ⟨k1, k2⟩ := List.max?_eq_some_iff.mp em
          have : m' = m := by have := h2 m k1; have := k2 m' h1; omega
          subst this; exact q
      · trivial
    · trivial
  · rename_i i j e
    obtain ⟨a, b, rfl, ea, eb⟩ := inv2 e
    obtain rfl := invA ea
    obtain rfl := invA eb
    exact ⟨rfl, fun q => .inr ⟨i, j, rfl, q⟩⟩
  · trivial
theorem ie_min {e : Expr} {es : List Expr} {gs : List (S → RE)} {p pos : Pos} (hc : X.calm = true) (hm : X.mg "min" = none) (ha : IA X W (e :: es) gs) (hg : Gl X "min" := by rfl) (he : starEach (e :: es) X.env = (false, eval e X.env) :: starEach es X.env := by rfl) (hpl : (backTo pos (starEach es X.env)).any (·.1) = false := by rfl) :
    IE X W (.Call (.Name "min" p) (e :: es) [] pos) (opE minF (argsG gs)) := ie_callB (CallR.or (cr_min hc) (call_min2 hc)) vok_min ha (by decide +kernel) hm hg (by decide) (by decide) he hpl
theorem ie_max {e : Expr} {es : List Expr} {gs : List (S → RE)} {p pos : Pos} (hc : X.calm = true) (hm : X.mg "max" = none) (ha : IA X W (e :: es) gs) (hg : Gl X "max" := by rfl) (he : starEach (e :: es) X.env = (false, eval e X.env) :: starEach es X.env := by rfl) (hpl : (backTo pos (starEach es X.env)).any (·.1) = false := by rfl) :
    IE X W (.Call (.Name "max" p) (e :: es) [] pos) (opE maxF (argsG gs)) := ie_callB (CallR.or (cr_max hc) (call_max2 hc)) vok_max ha (by decide +kernel) hm hg (by decide) (by decide) he hpl
def sumF : List T → Option RV
  | [.box _ .lst xs] => match T.intL xs with
    | some is => some (.a (.int is.sum))
    | none => none
  | _ => none
theorem vok_sum : VOK K (rSum K) sumF := by
  intro R H aus Q ok
  unfold sumF
  split
  · rename_i o xs e
    obtain ⟨a, rfl, ea⟩ := inv1 e
    obtain ⟨p, xs, rfl, rfl⟩ := invB ea
    split
    · rename_i is ei
      exact ⟨rfl, fun q => ⟨p, is, rfl, by rw [← intL_val ei]; exact .of (ok_list ok.1), q⟩⟩
    · trivial
  · trivial
theorem ie_sum {e : Expr} {g : S → RE} {p pos : Pos} (hc : X.calm = true) (hm : X.mg "sum" = none) (ha : IE X W e g) (hg : Gl X "sum" := by rfl) (he : starEach [e] X.env = (false, eval e X.env) :: starEach [] X.env := by rfl) (hpl : (backTo pos (starEach [] X.env)).any (·.1) = false := by rfl) :
    IE X W (.Call (.Name "sum" p) [e] [] pos) (opE sumF (argsG [g])) := ie_callB (cr_sum hc) vok_sum (ia_cons ha ia_nil he) (by decide +kernel) hm hg (by decide) (by decide) he hpl
def absF : List T → Option RV
  | [.atm (.int i)] => some (.a (.int (if i < 0 then -i else i)))
  | _ => none
theorem vok_abs : VOK K (fun xs H Q => ∃ i, xs = [V.int i] ∧ Q (.int (if i < 0 then -i else i)) H) absF := by
  intro R H aus Q ok
  unfold absF
  split
  · rename_i i e
    obtain ⟨a, rfl, ea⟩ := inv1 e
    obtain rfl := invA ea
    exact ⟨rfl, fun q => ⟨i, rfl, q⟩⟩
  · trivial
theorem ie_abs {e : Expr} {g : S → RE} {p pos : Pos} (hm : X.mg "abs" = none) (ha : IE X W e g) (hg : Gl X "abs" := by rfl) (he : starEach [e] X.env = (false, eval e X.env) :: starEach [] X.env := by rfl) (hpl : (backTo pos (starEach [] X.env)).any (·.1) = false := by rfl) :
    IE X W (.Call (.Name "abs" p) [e] [] pos) (opE absF (argsG [g])) := ie_callB call_abs vok_abs (ia_cons ha ia_nil he) (by decide +kernel) hm hg (by decide) (by decide) he hpl
/-! all, any of truths -/
def T.blL : List T → Option (List Bool)
  | [] => some []
  | .atm (.bl b) :: xs => match T.blL xs with
    | some bs => some (b :: bs)
    | none => none
  | _ => none
theorem blL_of : ∀ {xs : List AT} {bs : List Bool}, T.blL (AT.erL xs) = some bs → xs.map AT.val = bs.map V.bl
  | [], bs, h => by simp only [AT.erL, T.blL, Option.some.injEq] at h; subst h; rfl
  | .atm v :: xs, bs, h => by
    cases v <;> simp only [AT.erL, AT.er, T.blL, reduceCtorEq] at h
    split at h
    · rename_i cs e
      simp only [Option.some.injEq] at h; subst h
      simp [blL_of e, AT.val]
    · cases h
  | .box _ _ _ _ :: xs, bs, h => by simp [AT.erL, AT.er, T.blL] at h
def allB (any : Bool) : List T → Option RV
  | [.box _ .lst xs] => match T.blL xs with
    | some bs => some (.a (.bl (if any = true then bs.any id else bs.all id)))
    | none => none
  | _ => none
theorem vok_all : VOK K (rAll K) (allB false) := by
  intro R H aus Q ok
  unfold allB
  split
  · rename_i o xs e
    obtain ⟨a, rfl, ea⟩ := inv1 e
    obtain ⟨p, xs, rfl, rfl⟩ := invB ea
    split
    · rename_i bs ei
      exact ⟨rfl, fun q => ⟨p, bs, rfl, by rw [← blL_of ei]; exact .of (ok_list ok.1), by simpa using q⟩⟩
    · trivial
  · trivial
theorem vok_any : VOK K (rAny K) (allB true) := by
  intro R H aus Q ok
  unfold allB
  split
  · rename_i o xs e
    obtain ⟨a, rfl, ea⟩ := inv1 e
    obtain ⟨p, xs, rfl, rfl⟩ := invB ea
    split
    · rename_i bs ei
      exact ⟨rfl, fun q => ⟨p, bs, rfl, by rw [← blL_of ei]; exact .of (ok_list ok.1), by simpa using q⟩⟩
    · trivial
  · trivial
theorem ie_all {e : Expr} {g : S → RE} {p pos : Pos} (hc : X.calm = true) (hm : X.mg "all" = none) (ha : IE X W e g) (hg : Gl X "all" := by rfl) (he : starEach [e] X.env = (false, eval e X.env) :: starEach [] X.env := by rfl) (hpl : (backTo pos (starEach [] X.env)).any (·.1) = false := by rfl) :
    IE X W (.Call (.Name "all" p) [e] [] pos) (opE (allB false) (argsG [g])) := ie_callB (cr_all hc) vok_all (ia_cons ha ia_nil he) (by decide +kernel) hm hg (by decide) (by decide) he hpl
theorem ie_any {e : Expr} {g : S → RE} {p pos : Pos} (hc : X.calm = true) (hm : X.mg "any" = none) (ha : IE X W e g) (hg : Gl X "any" := by rfl) (he : starEach [e] X.env = (false, eval e X.env) :: starEach [] X.env := by rfl) (hpl : (backTo pos (starEach [] X.env)).any (·.1) = false := by rfl) :
    IE X W (.Call (.Name "any" p) [e] [] pos) (opE (allB true) (argsG [g])) := ie_callB (cr_any hc) vok_any (ia_cons ha ia_nil he) (by decide +kernel) hm hg (by decide) (by decide) he hpl
/-! ### a method that reads: its receiver's kind is seen -/
def chkE (chk : T → Bool) (g : S → RE) (s : S) : RE := match g s with
  | .ok e m s1 => match view s1 e with
    | some t => if chk t = true then .ok e m s1 else .fail
    | none => .fail
  | .ex C fs s1 => .ex C fs s1
  | .fail => .fail
theorem chk_sat {chk : T → Bool} {P : V → Hp → Prop} (hP : ∀ (R : Addr → Prop) (H : Hp) (au : AT), au.ok K R H → chk au.er = true → P au.val H) {g : S → RE} {σ : St} {H : Hp} {Q : VK} (h : tE K W (chkE chk g) σ H Q) : tE K W g σ H fun x H1 => P x H1 ∧ Q x H1 := by
  obtain ⟨A, Z, R, r, s⟩ := h
  refine ⟨A, Z, R, r, ?_⟩
  simp only [chkE] at s
  cases e1 : g A.er with
  | fail => rw [e1] at s; exact s
  | ex C fs s1 => rw [e1] at s; exact s
  | ok ev m s1 =>
    rw [e1] at s
    simp only at s
    cases e2 : view s1 ev with
    | none => rw [e2] at s; exact s.elim
    | some t =>
      rw [e2] at s
      simp only at s
      by_cases hc : chk t = true
      · rw [if_pos hc] at s
        cases ev with
        | v u =>
          intro A' R' H' au ea k et r'
          simp only [view, Option.some.injEq] at e2
          subst e2 et
          exact ⟨hP _ _ au r'.head hc, s A' R' H' au ea k rfl r'⟩
        | p r0 q =>
          intro A' R' H' au ea k ga r'
          subst ea
          have := view_at ga e2
          subst this
          exact ⟨hP _ _ au (r'.ga_ok ga).1 hc, s A' R' H' au rfl k ga r'⟩
      · rw [if_neg hc] at s; exact s.elim
def isL : T → Bool
  | .box _ .lst _ => true
  | .box _ .scr _ => true
  | _ => false
def isStr : T → Bool
  | .atm (.str _) => true
  | _ => false
def isDct : T → Bool
  | .box _ (.dct _) _ => true
  | .box _ (.dtp _) _ => true
  | _ => false
theorem isL_ty {R : Addr → Prop} {H : Hp} {au : AT} (ok : au.ok K R H) (h : isL au.er = true) : tyV K "list" au.val H := by
  cases au with
  | atm v => simp [AT.er, isL] at h
  | box o k p xs =>
    cases k <;> simp only [AT.er, isL, reduceCtorEq] at h
    · exact tyV_list ok
    · exact Or.inl ⟨rfl, _, ok_scr ok⟩
    all_goals (exact absurd h (by decide))
theorem isStr_ty {R : Addr → Prop} {H : Hp} {au : AT} (ok : au.ok K R H) (h : isStr au.er = true) : tyV K "str" au.val H := by
  cases au with
  | atm v => cases v <;> simp [AT.er, isStr] at h; rfl
  | box o k p xs => simp [AT.er, isStr] at h
def rRecv (r : V → List V → Hp → VK → Prop) : RN := fun vs H Q => ∃ x xs, vs = x :: xs ∧ r x xs H Q
theorem ie_meth {T' id : String} {name : Str} {chk : T → Bool} {r : V → List V → Hp → VK → Prop} {f : List T → Option RV} {o e : Expr} {es : List Expr} {g0 : S → RE} {gs : List (S → RE)} {apos cpos : Pos} (pa : PlainAttrs T') (slot : Slot T' name id)
    (hty : typeOf (.builtin id) = pure (.type "method_descriptor")) (hP : ∀ (R : Addr → Prop) (H : Hp) (au : AT), au.ok X.K R H → chk au.er = true → tyV X.K T' au.val H) (hm : MtR X id r) (hv : VOK X.K (rRecv r) f) (ho : IE X W o g0) (ha : IA X W (e :: es) gs)
    (hbase : attributeBase o name X.env (eval o X.env) = eval o X.env := by rfl)
    (hfew : ((backTo cpos (starEach (e :: es) X.env)).all (fun x => !x.1) && (backToKw cpos (keywordEach [] X.env)).all (fun x => x.1.isSome)
      && decide ((e :: es).length + ([] : List Keyword).length + (if ([] : List Keyword).isEmpty then 0 else 1) < 30)) = true := by rfl)
    (hline : (apos.endLine == cpos.line) = true := by rfl) (hs : starEach (e :: es) X.env = (false, eval e X.env) :: starEach es X.env := by rfl) (hplain : (backTo cpos (starEach es X.env)).any (·.1) = false := by rfl) :
    IE X W (.Call (.Attribute o name apos) (e :: es) [] cpos) (opE f (argsG (chkE chk g0 :: gs))) :=
  ⟨PE.mono (pe_bm pa slot hty hm ho.pe ha.pa hbase hfew hline hs hplain) fun σ H Q h => (chk_sat (P := fun x H1 => tyV X.K T' x H1) hP (tA_cons (op_sat hv h))).mono fun x H1 ⟨h1, h2⟩ => ⟨h1, by
    obtain ⟨A, Z, R, r1, s⟩ := h2
    refine ⟨A, Z, R, r1, ?_⟩
    cases e1 : argsG gs A.er with
    | fail => rw [e1] at s; exact s
    | ex C fs s1 => rw [e1] at s; exact s
    | ok es m s1 =>
      rw [e1] at s
      exact fun A' R' H' aus tz a b c d => by
        obtain ⟨x', xs', e, q⟩ := s A' R' H' aus tz a b c d
        simp only [List.cons.injEq] at e; obtain ⟨rfl, rfl⟩ := e; exact q⟩⟩
theorem ie_meth0 {T' id : String} {name : Str} {chk : T → Bool} {r : V → List V → Hp → VK → Prop} {f : List T → Option RV} {o : Expr} {g0 : S → RE} {apos cpos : Pos} (pa : PlainAttrs T') (slot : Slot T' name id)
    (hty : typeOf (.builtin id) = pure (.type "method_descriptor")) (hP : ∀ (R : Addr → Prop) (H : Hp) (au : AT), au.ok X.K R H → chk au.er = true → tyV X.K T' au.val H) (hm : MtR X id r) (hv : VOK X.K (rRecv r) f) (ho : IE X W o g0)
    (hbase : attributeBase o name X.env (eval o X.env) = eval o X.env := by rfl) (hline : (apos.endLine == cpos.line) = true := by rfl) :
    IE X W (.Call (.Attribute o name apos) [] [] cpos) (opE f (argsG [chkE chk g0])) :=
  ⟨PE.mono (pe_bm0 pa slot hty hm ho.pe hbase hline) fun σ H Q h => (chk_sat (P := fun x H1 => tyV X.K T' x H1) hP (tA_one (op_sat hv h))).mono fun x H1 ⟨h1, h2⟩ => ⟨h1, by
    obtain ⟨x', xs', e, q⟩ := h2
    simp only [List.cons.injEq] at e; obtain ⟨rfl, rfl⟩ := e; exact q⟩⟩
/-! list.index, flat -/
def idxF : List T → Option RV
  | [.box _ .lst ys, y] => match flatTs ys, flatT y with
    | some vs, some v => match vs.findIdx? fun z => eqV z v with
      | some j => some (.a (.int (j : Nat)))
      | none => none
    | _, _ => none
  | _ => none
theorem vok_idx : VOK K (rRecv (rIndex K)) idxF := by
  intro R H aus Q ok
  unfold idxF
  split
  · rename_i o ys y e
    obtain ⟨a, b, rfl, ea, rfl⟩ := inv2 e
    obtain ⟨p, ys, rfl, rfl⟩ := invB ea
    split
    · rename_i vs v e1 e2
      obtain ⟨a1, a2⟩ := flatT_of e2
      obtain ⟨b1, b2⟩ := flatTs_of e1
      split
      · rename_i j ej
        refine ⟨rfl, fun q => ⟨_, _, rfl, p, vs, v, j, ?_⟩⟩
        rw [List.findIdx?_eq_some_iff_getElem] at ej
        obtain ⟨hj, h1, h2⟩ := ej
        exact ⟨vs[j], rfl, by simp [a1], .of (by rw [← b1]; exact ok_list ok.1), a2, b2, List.getElem?_eq_getElem hj, h1, fun m z hm hz => by
          obtain ⟨hm', rfl⟩ := List.getElem?_eq_some_iff.mp hz
          simpa using h2 m hm, q⟩
      · trivial
    · trivial
  · trivial
theorem ie_index {o e : Expr} {g0 g : S → RE} {apos cpos : Pos} (ho : IE X W o g0) (ha : IE X W e g) (hbase : attributeBase o "index" X.env (eval o X.env) = eval o X.env := by rfl)
    (hfew : ((backTo cpos (starEach [e] X.env)).all (fun x => !x.1) && (backToKw cpos (keywordEach [] X.env)).all (fun x => x.1.isSome)
      && decide ([e].length + ([] : List Keyword).length + (if ([] : List Keyword).isEmpty then 0 else 1) < 30)) = true := by rfl)
    (hline : (apos.endLine == cpos.line) = true := by rfl) (hs : starEach [e] X.env = (false, eval e X.env) :: starEach [] X.env := by rfl) (hplain : (backTo cpos (starEach [] X.env)).any (·.1) = false := by rfl) :
    IE X W (.Call (.Attribute o "index" apos) [e] [] cpos) (opE idxF (argsG [chkE isL g0, g])) := ie_meth PySem.F.plainAttrs_list PySem.F.slot_list_index PySem.F.type_list_index (fun _ _ _ => isL_ty) mt_index vok_idx ho (ia_cons ha ia_nil hs) hbase hfew hline hs hplain
/-! ### what takes its one argument over: a new box of its things -/
def takeE (f : T → Option (Kd × List T)) (g : S → RE) (s : S) : RE := match g s with
  | .ok (.v t) m s1 => match f t with
    | some (k, ys) => .ok (.v (.box true k ys)) m s1
    | none => .fail
  | .ok (.p r q) m s1 => match s1.gt r q with
    | some t => match f t with
      | some (k, ys) => if T.allFL ys = true then .ok (.v (.box true k ys)) m s1 else .fail
      | none => .fail
    | none => .fail
  | .ex C fs s' => .ex C fs s'
  | .fail => .fail
/-- the reading makes a box of the argument's things -/
def TOK (K : PySem.W.Frag) (r : RN) (f : T → Option (Kd × List T)) : Prop := ∀ (R : Addr → Prop) (H : Hp) (au : AT) (Q : VK), au.ok K R H → match f au.er with
  | none => True
  | some (k, ys') => ∃ ys : List AT, AT.erL ys = ys' ∧ AT.okL K R H ys ∧ k.fits ys.length ∧ (∀ b, AT.cnL b ys ≤ au.cn b) ∧ ((∀ p, H p = none → Q (.ref p) (upd H p (k.ho (ys.map AT.val)))) → r [au.val] H Q)
theorem take_sat {r : RN} {f : T → Option (Kd × List T)} {g : S → RE} (v : TOK K r f) {σ : St} {H : Hp} {Q : VK} (h : tE K W (takeE f g) σ H Q) : tE K W g σ H fun x H' => r [x] H' Q := by
  obtain ⟨A, Z, R, rel, s⟩ := h
  refine ⟨A, Z, R, rel, ?_⟩
  simp only [takeE] at s
  cases e1 : g A.er with
  | fail => rw [e1] at s; exact s
  | ex C fs s1 => rw [e1] at s; exact s
  | ok ev m s1 =>
    rw [e1] at s
    cases ev with
    | v t =>
      intro A' R' H' au ea k et r'
      subst ea et
      simp only at s
      have z := v R' H' au Q r'.head
      cases e2 : f au.er with
      | none => rw [e2] at s; exact s.elim
      | some p =>
        obtain ⟨kk, ys'⟩ := p
        rw [e2] at s z
        obtain ⟨ys, rfl, oky, fit, hc, z⟩ := z
        refine z fun p hp => ?_
        exact s A' R' _ (.box true kk p ys) rfl k (by simp [AT.er]) (r'.new (Z' := Z) hp (hold_new (by simpa using fit)) oky r'.okZ.2 fun b => by have := hc b; simp only [AT.cnL]; omega)
    | p r0 q =>
      intro A' R' H' au ea k ga r'
      subst ea
      simp only [er_ga, ga, Option.map_some] at s
      have z := v R' H' au Q (r'.ga_ok ga).1
      cases e2 : f au.er with
      | none => rw [e2] at s; exact s.elim
      | some p =>
        obtain ⟨kk, ys'⟩ := p
        rw [e2] at s z
        simp only at s
        by_cases hf : T.allFL ys' = true
        · rw [if_pos hf] at s
          obtain ⟨ys, rfl, oky, fit, hc, z⟩ := z
          refine z fun p hp => ?_
          exact s A' R' _ (.box true kk p ys) rfl k (by simp [AT.er]) (r'.new (Z' := Z) hp (hold_new (by simpa using fit)) oky r'.okZ fun b => by rw [allFL_cn b ys hf]; omega)
        · rw [if_neg hf] at s; exact s.elim
/-! list(xs), tuple(xs) -/
def listF : T → Option (Kd × List T)
  | .box _ .lst xs => some (.lst, xs)
  | .box _ .tup xs => some (.lst, xs)
  | .box _ .scr xs => some (.lst, xs)
  | _ => none
theorem box_cn {o : Bool} {k : Kd} {a : Addr} {xs : List AT} {R : Addr → Prop} {H : Hp} (ok : (AT.box o k a xs).ok K R H) (b : Addr) : AT.cnL b xs ≤ (AT.box o k a xs).cn b := by
  cases o with
  | true => simp only [AT.cn, if_true]; omega
  | false => rw [allFL_cn b xs (ok.2.2 rfl)]; omega
theorem tok_list : TOK K (fun xs H Q => ∃ p ys, xs = [V.ref p] ∧ (SqL K H p ys ∨ SqT K H p ys) ∧ ∀ l, H l = none → Q (.ref l) (upd H l (.lst ys))) listF := by
  intro R H au Q ok
  unfold listF
  split
  · trivial
  · rename_i k ys' e
    split at e
    all_goals first
      | (cases e; done)
      | (simp only [Option.some.injEq, Prod.mk.injEq] at e
         obtain ⟨rfl, rfl⟩ := e
         rename_i heq
         obtain ⟨p, xs, rfl, rfl⟩ := invB heq
         first
           | exact ⟨xs, rfl, ok.2.1, trivial, box_cn ok, fun q => ⟨p, _, rfl, .inl (.of (ok_list ok)), q⟩⟩
           | exact ⟨xs, rfl, ok.2.1, trivial, box_cn ok, fun q => ⟨p, _, rfl, .inr (.of (ok_tup ok)), q⟩⟩
           | exact ⟨xs, rfl, ok.2.1, trivial, box_cn ok, fun q => ⟨p, _, rfl, .inl (ok_scr ok), q⟩⟩)
theorem ie_take {T' : String} {r : RN} {f : T → Option (Kd × List T)} {x : Str} {e : Expr} {g : S → RE} {p pos : Pos} (hc : CallR X (.type T') r) (hv : TOK X.K r f) (ha : IE X W e g) (hb : bootBuiltins x = some (.type T')) (hm : X.mg x = none) (hg : Gl X x := by rfl)
    (hn : x ≠ "__name__" := by decide) (hdb : (x == ("__debug__" : Str)) = false := by decide) (he : starEach [e] X.env = (false, eval e X.env) :: starEach [] X.env := by rfl) (hpl : (backTo pos (starEach [] X.env)).any (·.1) = false := by rfl) :
    IE X W (.Call (.Name x p) [e] [] pos) (takeE f g) := ⟨PE.mono (pe_callTy hc hg hm hb (ia_cons ha ia_nil he).pa hn hdb he hpl) fun σ H Q h => tE_args1 (take_sat hv h)⟩
theorem ie_takeB {T' : String} {r : RN} {f : T → Option (Kd × List T)} {x : Str} {e : Expr} {g : S → RE} {p pos : Pos} (hc : CallR X (.builtin T') r) (hv : TOK X.K r f) (ha : IE X W e g) (hb : bootBuiltins x = some (.builtin T')) (hm : X.mg x = none) (hg : Gl X x := by rfl)
    (hn : x ≠ "__name__" := by decide) (hdb : (x == ("__debug__" : Str)) = false := by decide) (he : starEach [e] X.env = (false, eval e X.env) :: starEach [] X.env := by rfl) (hpl : (backTo pos (starEach [] X.env)).any (·.1) = false := by rfl) :
    IE X W (.Call (.Name x p) [e] [] pos) (takeE f g) := ⟨PE.mono (pe_callB hc hg hm hb (ia_cons ha ia_nil he).pa hn hdb he hpl) fun σ H Q h => tE_args1 (take_sat hv h)⟩
theorem ie_list {e : Expr} {g : S → RE} {p pos : Pos} (hm : X.mg "list" = none) (ha : IE X W e g) (hg : Gl X "list" := by rfl) (he : starEach [e] X.env = (false, eval e X.env) :: starEach [] X.env := by rfl) (hpl : (backTo pos (starEach [] X.env)).any (·.1) = false := by rfl) :
    IE X W (.Call (.Name "list" p) [e] [] pos) (takeE listF g) := ie_take call_list_of tok_list ha (by decide +kernel) hm hg (by decide) (by decide) he hpl
end
end TL
namespace TL
open PySem PySem.Spec L2

/-! ## A law's end; small rules -/
section
variable {X : Cx} {W : Wh} {K : PySem.W.Frag} {G : Gr}
def nevS (_ : S) : RS := .fail
theorem is_never {st : Stmt} : IS X W st nevS := ⟨PS.mono ps_never fun D σ H ⟨_, _, _, _, s⟩ => s⟩
theorem is_asgLcF (i : Nat) {y : Str} {py : Pos} {elt tg iter : Expr} {ifs : List Expr} {scope : Scope} {own : List (Str × Nat)} {pos spos : Pos} {gi : S → RI} {b : T → S → Option S} {t : S → RT} {g : S → RE} {ws : List Nat} (hc : X.calm = true) (hN : X.N.Nodup) (hyl : X.env.scope.names.lookup y = some .local)
    (hsw : swapsWith (.ListComp elt [⟨tg, iter, ifs, 0⟩] scope pos) (some (.Name y py)) spos.line X.env = pure true) (sub : ∀ v ∈ ws, v ∈ own.map (·.2)) (hi : II X W tg iter gi) (ok : BlkOk X.N X.env.scope scope own)
    (hg : ∀ (s : Shared) (H : Hp) (C : Addr) (cl : List (Str × Addr)) (fp : List Addr), IG (X.blk s H scope (compEnvC scope cl C X.env) fp) W.in tg ws b) (ht : ∀ (s : Shared) (H : Hp) (C : Addr) (cl : List (Str × Addr)) (fp : List Addr), ITs (X.blk s H scope (compEnvC scope cl C X.env) fp) W.in ifs t)
    (he : ∀ (s : Shared) (H : Hp) (C : Addr) (cl : List (Str × Addr)) (fp : List Addr), IE (X.blk s H scope (compEnvC scope cl C X.env) fp) W.in elt g) (hy : X.N[i]? = some y := by rfl) (hs : ∀ x, foldedSetIterable iter X.env x = pure x := by intro _; rfl) :
    IS X W (.Assign [.Name y py] (.ListComp elt [⟨tg, iter, ifs, 0⟩] scope pos) spos) (asgS i (fzE (lcE gi b t g (own.map (·.2))))) :=
  ⟨PS.mono (ps_setLc hc hN hy hyl hsw hi.pi ok (fun s H C cl fp => (hg s H C cl fp).pg) (fun s H C cl fp => (ht s H C cl fp).pt) (fun s H C cl fp => (he s H C cl fp).pe) hs) fun D σ H h => lc_sat sub (Q := fun x H1 => gName i x σ H1 D.nx) (fz_sat (asg_sat h))⟩
theorem u65 {A : Around} {k : Nat} (hr : Room k A) : A.units + 65 < cLine := by have := hr.un; omega
theorem ie_glob {x : Str} {v : V} {u : Value} {pos : Pos} (hm : X.mg x = some u) (r : RelV v u) (hv : isAtm v = true := by rfl) (hg : Gl X x := by rfl) (hd : (x == ("__debug__" : Str)) = false := by decide) : IE X W (.Name x pos) (kE v) := ie_k (pe_glob hg hm r hd) hv
/-- the script -/
def scrT (ns : List Int) : T := .box false .scr (ns.map fun i => .atm (.int i))
theorem scr_allF : ∀ ns : List Int, T.allFL (ns.map fun i => T.atm (.int i)) = true
  | [] => rfl
  | n :: ns => by simp [T.allFL, T.allF, scr_allF ns]
theorem law_sp {n : Nat} {F : List T → RF} (h : ∀ ns : List Int, ns.length ≤ n → ∃ rs, F [scrT ns] = .ok (.atm (.bl true)) rs) (K : PySem.W.Frag) (H : Hp) (a : Addr) (ns : List Int) (hl : ns.length ≤ n) (hS : SqL K H a (ns.map V.int)) :
    spT K [false] F [.ref a] H (fun v _ => v = .bl true) fun _ _ _ => False := by
  obtain ⟨rs, hF⟩ := h ns hl
  have er : AT.erL [AT.box false .scr a (ns.map fun i => .atm (.int i))] = [scrT ns] := by
    simp only [AT.erL, AT.er, scrT, erL_map, List.map_map]; rfl
  have vs : (ns.map fun i => AT.atm (.int i)).map AT.val = ns.map V.int := by rw [List.map_map]; rfl
  have okc : ∀ R : Addr → Prop, AT.okL K R H (ns.map fun i => AT.atm (.int i)) := fun R => okL_iff.mpr fun y hy => by
    obtain ⟨j, _, rfl⟩ := List.mem_map.mp hy; rfl
  have fr : T.allFL (AT.erL (ns.map fun i => AT.atm (.int i))) = true := by
    have := scr_allF ns
    rwa [erL_map, List.map_map]
  refine ⟨[.box false .scr a (ns.map fun i => .atm (.int i))], fun b => b = a ∧ Rd H a (.lst (ns.map V.int)), rfl, rfl, ⟨⟨?_, okc _, fun _ => fr⟩, trivial⟩, fun b => by simp [AT.cnL, AT.cn], ?_, ?_⟩
  · simp only [AtB, Bool.false_eq_true, if_false, Hfz, vs]
    rcases hS with hS | hS
    · exact .inr ⟨⟨trivial, hS⟩, hS⟩
    · exact .inl hS
  · rintro b ⟨rfl, hr⟩
    rcases hr with hr | ⟨o, hr⟩ <;> rw [hr] <;> simp
  · rw [er, hF]
    intro hs R' H' au _ _ et _
    cases au with
    | atm v => simp only [AT.er, T.atm.injEq] at et; subst et; rfl
    | box o k p xs => simp [AT.er] at et
end
/-- a def of the text, with what the top says of it -/
structure Df (K : PySem.W.Frag) (mg : Str → Option Value) (nm : Str) (st : Stmt) (ps : List Str) where
  f : Addr
  fd : FuncData
  F : Fun K nm nm st f fd
  b : Binds K fd ps []
  g : mg nm = some (.ref f)
end TL
namespace TL
open PySem PySem.Spec L2
/-! ## The functions, step by step (for simp): each waits until its argument is known -/
section
variable {f : List T → Option RV} {g h ga gb : S → RE} {t : S → RT} {a b : S → RS} {s s1 : S} {m m' : Md} {e : Ev} {es : List Ev} {v : V} {u w : T} {i j : Nat} {C : Addr} {fs : Xf} {r : Rt} {p q : List Nat} {sl : List (Sl T)} {hd : List T} {c : Prop} [Decidable c]
/-! expressions -/
@[simp] theorem k_kE : kE v s = .ok (.v (.atm v)) .pure s := rfl
def rdT (i : Nat) (u : T) (s : S) : RE := if u.allF = true then .ok (.v u) .pure s else .ok (.p (.sl i) []) .pure s
def rdP (r : Rt) (p : List Nat) (o : Option T) (s : S) : RE := match o with
  | some u => if u.allF = true then .ok (.v u) .pure s else .ok (.p r p) .pure s
  | none => .fail
def rdK (i : Nat) (x : Option (Sl T)) (s : S) : RE := match x with
  | some (.t u) => rdT i u s
  | some (.al r p) => rdP r p (s.gt r p) s
  | _ => .fail
@[simp] theorem k_rd : rdE i s = rdK i s.sl[i]? s := by
  unfold rdE rdK rdT rdP
  cases s.sl[i]? with
  | none => rfl
  | some x => cases x with
    | no => rfl
    | t u => rfl
    | al r p => rfl
@[simp] theorem k_rdK_t : rdK i (some (.t u)) s = rdT i u s := rfl
@[simp] theorem k_rdK_al : rdK i (some (.al r p)) s = rdP r p (s.gt r p) s := rfl
@[simp] theorem k_rdT_a : rdT i (.atm v) s = .ok (.v (.atm v)) .pure s := rfl
@[simp] theorem k_rdT_o {k : Kd} {xs : List T} : rdT i (.box true k xs) s = .ok (.p (.sl i) []) .pure s := rfl
@[simp] theorem k_rdT_f {k : Kd} {xs : List T} (h : T.allFL xs = true) : rdT i (.box false k xs) s = .ok (.v (.box false k xs)) .pure s := by simp [rdT, T.allF, h]
@[simp] theorem k_rdP_a : rdP r p (some (.atm v)) s = .ok (.v (.atm v)) .pure s := rfl
@[simp] theorem k_rdP_o {k : Kd} {xs : List T} : rdP r p (some (.box true k xs)) s = .ok (.p r p) .pure s := rfl
@[simp] theorem k_rdP_f {k : Kd} {xs : List T} (h : T.allFL xs = true) : rdP r p (some (.box false k xs)) s = .ok (.v (.box false k xs)) .pure s := by simp [rdP, T.allF, h]
/-- moved -/
def mvK (i : Nat) (x : Option (Sl T)) (s : S) : RE := match x with
  | some (.t t) => .ok (.v t) .many (s.put i .no)
  | _ => .fail
@[simp] theorem k_mv : mvE i s = mvK i s.sl[i]? s := by unfold mvE mvK; rfl
@[simp] theorem k_mvK : mvK i (some (.t u)) s = .ok (.v u) .many (s.put i .no) := rfl
/-- frozen -/
def fzP (o : Option T) (r : Rt) (q : List Nat) (m : Md) (s : S) : RE := match o with
  | some t => .ok (.v t.fz) (m.seq .fz) (s.fzAt r q)
  | none => .fail
def fzK : RE → RE
  | .ok (.v t) m s1 => .ok (.v t.fz) m s1
  | .ok (.p r q) m s1 => fzP (s1.gt r q) r q m s1
  | .ex C fs s' => .ex C fs s'
  | .fail => .fail
@[simp] theorem k_fz : fzE g s = fzK (g s) := by
  unfold fzE fzK fzP
  cases g s with
  | ok e m s1 => cases e <;> rfl
  | ex C fs s1 => rfl
  | fail => rfl
@[simp] theorem k_fzK_v : fzK (.ok (.v u) m s) = .ok (.v u.fz) m s := rfl
@[simp] theorem k_fzK_p : fzK (.ok (.p r q) m s) = fzP (s.gt r q) r q m s := rfl
@[simp] theorem k_fzK_x : fzK (.ex C fs s) = .ex C fs s := rfl
@[simp] theorem k_fzK_ite {x y : RE} : fzK (if c then x else y) = if c then fzK x else fzK y := by split <;> rfl
@[simp] theorem k_fzP : fzP (some u) r q m s = .ok (.v u.fz) (m.seq .fz) (s.fzAt r q) := rfl
@[simp] theorem k_fz_a : (T.atm v).fz = .atm v := rfl
@[simp] theorem k_fz_b {o : Bool} {k : Kd} {xs : List T} : (T.box o k xs).fz = .box false k (T.fzL xs) := rfl
@[simp] theorem k_fzL_n : T.fzL [] = [] := rfl
@[simp] theorem k_fzL_c {xs : List T} : T.fzL (u :: xs) = u.fz :: T.fzL xs := rfl
@[simp] theorem k_fzL_app : ∀ {xs ys : List T}, T.fzL (xs ++ ys) = T.fzL xs ++ T.fzL ys
  | [], _ => rfl
  | x :: xs, ys => by simp [k_fzL_app (xs := xs) (ys := ys)]
@[simp] theorem k_fzL_fzL (xs : List T) : T.fzL (T.fzL xs) = T.fzL xs := fzL_of_allF _ (fzL_allF xs)
@[simp] theorem k_allFL_fzL (xs : List T) : T.allFL (T.fzL xs) = true := fzL_allF xs
@[simp] theorem k_fzL_len (xs : List T) : (T.fzL xs).length = xs.length := by simp [fzL_map]
@[simp] theorem k_allFL_n : T.allFL [] = true := (rfl)
@[simp] theorem k_allFL_c {xs : List T} : T.allFL (u :: xs) = (u.allF && T.allFL xs) := (rfl)
@[simp] theorem k_allFL_app : ∀ {xs ys : List T}, T.allFL (xs ++ ys) = (T.allFL xs && T.allFL ys)
  | [], _ => by simp
  | x :: xs, ys => by simp [k_allFL_app (xs := xs) (ys := ys), Bool.and_assoc]
@[simp] theorem k_allF_a : (T.atm v).allF = true := (rfl)
@[simp] theorem k_allF_b {o : Bool} {k : Kd} {xs : List T} : (T.box o k xs).allF = (!o && T.allFL xs) := (rfl)
@[simp] theorem k_allO_a : (T.atm v).allO = true := (rfl)
@[simp] theorem k_allO_b {o : Bool} {k : Kd} {xs : List T} : (T.box o k xs).allO = (o && T.allOL xs) := (rfl)
@[simp] theorem k_allOL_n : T.allOL [] = true := (rfl)
@[simp] theorem k_allOL_c {xs : List T} : T.allOL (u :: xs) = (u.allO && T.allOL xs) := (rfl)
@[simp] theorem k_allOL_app : ∀ {xs ys : List T}, T.allOL (xs ++ ys) = (T.allOL xs && T.allOL ys)
  | [], _ => by simp
  | x :: xs, ys => by simp [k_allOL_app (xs := xs) (ys := ys), Bool.and_assoc]
/-! argument lists -/
def argsL (e : Ev) (m : Md) : RA → RA
  | .ok es m' s2 => if surv e m' = true then .ok (e :: es) (m.seq m') s2 else .fail
  | r => r
def argsK (gs : List (S → RE)) : RE → RA
  | .ok e m s1 => argsL e m (argsG gs s1)
  | .ex C fs s' => .ex C fs s'
  | .fail => .fail
@[simp] theorem k_args0 : argsG [] s = .ok [] .pure s := rfl
@[simp] theorem k_args {gs : List (S → RE)} : argsG (g :: gs) s = argsK gs (g s) := by
  simp only [argsG, argsK, argsL]
  cases g s with
  | ok e m s1 => simp only; cases argsG gs s1 <;> rfl
  | ex C fs s1 => rfl
  | fail => rfl
@[simp] theorem k_argsK {gs : List (S → RE)} : argsK gs (.ok e m s) = argsL e m (argsG gs s) := rfl
@[simp] theorem k_argsK_x {gs : List (S → RE)} : argsK gs (.ex C fs s) = .ex C fs s := rfl
@[simp] theorem k_argsK_ite {gs : List (S → RE)} {x y : RE} : argsK gs (if c then x else y) = if c then argsK gs x else argsK gs y := by split <;> rfl
@[simp] theorem k_argsL_v : argsL (.v u) m (.ok es m' s) = .ok (.v u :: es) (m.seq m') s := rfl
@[simp] theorem k_argsL_p : argsL (.p r q) m (.ok es .pure s) = .ok (.p r q :: es) (m.seq .pure) s := rfl
@[simp] theorem k_argsL_pf : argsL (.p r q) m (.ok es .fz s) = .ok (.p r q :: es) (m.seq .fz) s := rfl
@[simp] theorem k_argsL_pp {r0 : Rt} : argsL (.p r q) m (.ok es (.pop r0) s) = if (decide (r ≠ r0) || q.isEmpty) = true then .ok (.p r q :: es) (m.seq (.pop r0)) s else .fail := rfl
@[simp] theorem k_argsL_x : argsL e m (.ex C fs s) = .ex C fs s := rfl
@[simp] theorem k_argsL_ite {x y : RA} : argsL e m (if c then x else y) = if c then argsL e m x else argsL e m y := by split <;> rfl
@[simp] theorem k_seq_pl : Md.seq .pure m = m := by cases m <;> rfl
@[simp] theorem k_seq_pr : Md.seq m .pure = m := by cases m <;> rfl
@[simp] theorem k_seq_ff : Md.seq .fz .fz = .fz := rfl
@[simp] theorem k_seq_fm : Md.seq .fz .many = .many := rfl
@[simp] theorem k_seq_mf : Md.seq .many .fz = .many := rfl
@[simp] theorem k_seq_mm : Md.seq .many .many = .many := rfl
@[simp] theorem k_seq_fp : Md.seq .fz (.pop r) = .pop r := rfl
@[simp] theorem k_seq_pf : Md.seq (.pop r) .fz = .pop r := rfl
@[simp] theorem k_seq_ppp : Md.seq (.pop r) (.pop r) = .pop r := by simp [Md.seq]
@[simp] theorem k_views0 : views s [] = some [] := rfl
def vcons : Option T → Option (List T) → Option (List T)
  | some t, some ts => some (t :: ts)
  | _, _ => none
@[simp] theorem k_views : views s (e :: es) = vcons (view s e) (views s es) := by
  simp only [views]
  cases view s e with
  | none => rfl
  | some t => simp only; cases views s es <;> rfl
@[simp] theorem k_vcons {ts : List T} : vcons (some u) (some ts) = some (u :: ts) := rfl
@[simp] theorem k_view_v : view s (.v u) = some u := rfl
@[simp] theorem k_view_p : view s (.p r q) = s.gt r q := rfl
@[simp] theorem k_tvs0 : tvs [] = some [] := rfl
@[simp] theorem k_tvs : tvs (.v u :: es) = vcons (some u) (tvs es) := by
  simp only [tvs]
  cases tvs es <;> rfl
/-! operations -/
def opR (m : Md) (s : S) : Option RV → RE
  | some (.a v) => .ok (.v (.atm v)) m s
  | some (.n k xs) => if T.allFL xs = true then .ok (.v (.box true k xs)) m s else .fail
  | none => .fail
def opV (f : List T → Option RV) (m : Md) (s : S) : Option (List T) → RE
  | some ts => opR m s (f ts)
  | none => .fail
def opK (f : List T → Option RV) : RA → RE
  | .ok es m s1 => opV f m s1 (views s1 es)
  | .ex C fs s' => .ex C fs s'
  | .fail => .fail
@[simp] theorem k_op {g : S → RA} : opE f g s = opK f (g s) := by
  unfold opE opK opV opR
  cases g s with
  | ok es m s1 =>
    simp only
    all_goals cases views s1 es with
    | none => rfl
    | some ts =>
      simp only
      cases f ts with
      | none => rfl
      | some rv => cases rv <;> rfl
  | ex C fs s1 => rfl
  | fail => rfl
@[simp] theorem k_opK : opK f (.ok es m s) = opV f m s (views s es) := rfl
@[simp] theorem k_opK_x : opK f (.ex C fs s) = .ex C fs s := rfl
@[simp] theorem k_opK_ite {x y : RA} : opK f (if c then x else y) = if c then opK f x else opK f y := by split <;> rfl
@[simp] theorem k_opV {ts : List T} : opV f m s (some ts) = opR m s (f ts) := rfl
@[simp] theorem k_opR_a : opR m s (some (.a v)) = .ok (.v (.atm v)) m s := rfl
@[simp] theorem k_opR_n {k : Kd} {xs : List T} (h : T.allFL xs = true) : opR m s (some (.n k xs)) = .ok (.v (.box true k xs)) m s := by simp [opR, h]
@[simp] theorem k_opR_ite {x y : Option RV} : opR m s (if c then x else y) = if c then opR m s x else opR m s y := by split <;> rfl
/-! tests -/
def tstK : RE → RT
  | .ok (.v (.atm (.bl b))) m s1 => .ok b m s1
  | .ex C fs s' => .ex C fs s'
  | _ => .fail
@[simp] theorem k_tst : tstE g s = tstK (g s) := by unfold tstE tstK; rfl
@[simp] theorem k_tstK {b : Bool} : tstK (.ok (.v (.atm (.bl b))) m s) = .ok b m s := rfl
@[simp] theorem k_tstK_x : tstK (.ex C fs s) = .ex C fs s := rfl
@[simp] theorem k_tstK_ite {x y : RE} : tstK (if c then x else y) = if c then tstK x else tstK y := by split <;> rfl
def truB (m : Md) (s : S) : Option Bool → RT
  | some b => .ok b m s
  | none => .fail
def truV (m : Md) (s : S) : Option T → RT
  | some t => truB m s t.truth
  | none => .fail
def truK : RE → RT
  | .ok e m s1 => truV m s1 (view s1 e)
  | .ex C fs s' => .ex C fs s'
  | .fail => .fail
@[simp] theorem k_tru : truE g s = truK (g s) := by
  unfold truE truK truV truB
  cases g s with
  | ok e m s1 =>
    simp only
    all_goals cases view s1 e with
    | none => rfl
    | some t => rfl
  | ex C fs s1 => rfl
  | fail => rfl
@[simp] theorem k_truK : truK (.ok e m s) = truV m s (view s e) := rfl
@[simp] theorem k_truK_x : truK (.ex C fs s) = .ex C fs s := rfl
@[simp] theorem k_truK_ite {x y : RE} : truK (if c then x else y) = if c then truK x else truK y := by split <;> rfl
@[simp] theorem k_truV : truV m s (some u) = truB m s u.truth := rfl
@[simp] theorem k_truB {b : Bool} : truB m s (some b) = .ok b m s := rfl
@[simp] theorem k_tr_n : (T.atm .non).truth = some false := rfl
@[simp] theorem k_tr_b {b : Bool} : (T.atm (.bl b)).truth = some b := rfl
@[simp] theorem k_tr_i {i : Int} : (T.atm (.int i)).truth = some (i != 0) := rfl
@[simp] theorem k_tr_l {o : Bool} {xs : List T} : (T.box o .lst xs).truth = some (!xs.isEmpty) := rfl
@[simp] theorem k_tr_t {o : Bool} {xs : List T} : (T.box o .tup xs).truth = some (!xs.isEmpty) := rfl
@[simp] theorem k_tr_s {o : Bool} {xs : List T} : (T.box o .scr xs).truth = some (!xs.isEmpty) := rfl
@[simp] theorem k_tr_d {o : Bool} {ks : List Key} {xs : List T} : (T.box o (.dct ks) xs).truth = some (!ks.isEmpty) := rfl
def notK : RT → RT
  | .ok b m s1 => .ok (!b) m s1
  | r => r
@[simp] theorem k_not : notT t s = notK (t s) := by unfold notT notK; rfl
@[simp] theorem k_notK {b : Bool} : notK (.ok b m s) = .ok (!b) m s := rfl
@[simp] theorem k_notK_x : notK (.ex C fs s) = .ex C fs s := rfl
@[simp] theorem k_notK_ite {x y : RT} : notK (if c then x else y) = if c then notK x else notK y := by split <;> rfl
def seqT (m : Md) : RT → RT
  | .ok b m' s2 => .ok b (m.seq m') s2
  | r => r
def andK (h : S → RT) : RT → RT
  | .ok b m s1 => if b = true then seqT m (h s1) else .ok false m s1
  | r => r
def orK (h : S → RT) : RT → RT
  | .ok b m s1 => if b = true then .ok true m s1 else seqT m (h s1)
  | r => r
@[simp] theorem k_and {h : S → RT} : andT t h s = andK h (t s) := by
  unfold andT andK seqT
  cases t s with
  | ok b m s1 => cases b with
    | false => rfl
    | true => simp only [if_true] <;> cases h s1 <;> rfl
  | ex C fs s1 => rfl
  | fail => rfl
@[simp] theorem k_or {h : S → RT} : orT t h s = orK h (t s) := by
  unfold orT orK seqT
  cases t s with
  | ok b m s1 => cases b with
    | true => rfl
    | false => simp only [Bool.false_eq_true, if_false] <;> cases h s1 <;> rfl
  | ex C fs s1 => rfl
  | fail => rfl
@[simp] theorem k_andK {h : S → RT} {b : Bool} : andK h (.ok b m s) = if b = true then seqT m (h s) else .ok false m s := rfl
@[simp] theorem k_orK {h : S → RT} {b : Bool} : orK h (.ok b m s) = if b = true then .ok true m s else seqT m (h s) := rfl
@[simp] theorem k_andK_ite {h : S → RT} {x y : RT} : andK h (if c then x else y) = if c then andK h x else andK h y := by split <;> rfl
@[simp] theorem k_orK_ite {h : S → RT} {x y : RT} : orK h (if c then x else y) = if c then orK h x else orK h y := by split <;> rfl
@[simp] theorem k_seqT {b : Bool} : seqT m (.ok b m' s) = .ok b (m.seq m') s := rfl
@[simp] theorem k_seqT_ite {x y : RT} : seqT m (if c then x else y) = if c then seqT m x else seqT m y := by split <;> rfl
def notEK : RT → RE
  | .ok b m s1 => .ok (.v (.atm (.bl (!b)))) m s1
  | .ex C fs s' => .ex C fs s'
  | .fail => .fail
@[simp] theorem k_notE : notE g s = notEK (tstE g s) := by unfold notE notEK; rfl
@[simp] theorem k_notEK {b : Bool} : notEK (.ok b m s) = .ok (.v (.atm (.bl (!b)))) m s := rfl
@[simp] theorem k_notEK_ite {x y : RT} : notEK (if c then x else y) = if c then notEK x else notEK y := by split <;> rfl
def seqE (m : Md) : RE → RE
  | .ok e m' s2 => .ok e (m.seq m') s2
  | r => r
def andEK (h : S → RE) : RT → RE
  | .ok b m s1 => if b = true then seqE m (h s1) else .ok (.v (.atm (.bl false))) m s1
  | .ex C fs s' => .ex C fs s'
  | .fail => .fail
def orEK (h : S → RE) : RT → RE
  | .ok b m s1 => if b = true then .ok (.v (.atm (.bl true))) m s1 else seqE m (h s1)
  | .ex C fs s' => .ex C fs s'
  | .fail => .fail
@[simp] theorem k_andE : andE g h s = andEK h (tstE g s) := by
  unfold andE andEK seqE
  cases tstE g s with
  | ok b m s1 => cases b with
    | false => rfl
    | true => simp only [if_true] <;> cases h s1 <;> rfl
  | ex C fs s1 => rfl
  | fail => rfl
@[simp] theorem k_orE : orE g h s = orEK h (tstE g s) := by
  unfold orE orEK seqE
  cases tstE g s with
  | ok b m s1 => cases b with
    | true => rfl
    | false => simp only [Bool.false_eq_true, if_false] <;> cases h s1 <;> rfl
  | ex C fs s1 => rfl
  | fail => rfl
@[simp] theorem k_andEK {b : Bool} : andEK h (.ok b m s) = if b = true then seqE m (h s) else .ok (.v (.atm (.bl false))) m s := rfl
@[simp] theorem k_orEK {b : Bool} : orEK h (.ok b m s) = if b = true then .ok (.v (.atm (.bl true))) m s else seqE m (h s) := rfl
@[simp] theorem k_andEK_ite {x y : RT} : andEK h (if c then x else y) = if c then andEK h x else andEK h y := by split <;> rfl
@[simp] theorem k_orEK_ite {x y : RT} : orEK h (if c then x else y) = if c then orEK h x else orEK h y := by split <;> rfl
@[simp] theorem k_seqE : seqE m (.ok e m' s) = .ok e (m.seq m') s := rfl
@[simp] theorem k_seqE_ite {x y : RE} : seqE m (if c then x else y) = if c then seqE m x else seqE m y := by split <;> rfl
def ifEK (ga gb : S → RE) : RT → RE
  | .ok b m s1 => if b = true then seqE m (ga s1) else seqE m (gb s1)
  | .ex C fs s' => .ex C fs s'
  | .fail => .fail
@[simp] theorem k_ifE : ifE t ga gb s = ifEK ga gb (t s) := by
  unfold ifE ifEK seqE
  cases t s with
  | ok b m s1 => cases b with
    | true => simp only [if_true] <;> cases ga s1 <;> rfl
    | false => simp only [Bool.false_eq_true, if_false] <;> cases gb s1 <;> rfl
  | ex C fs s1 => rfl
  | fail => rfl
@[simp] theorem k_ifEK {b : Bool} : ifEK ga gb (.ok b m s) = if b = true then seqE m (ga s) else seqE m (gb s) := rfl
@[simp] theorem k_ifEK_ite {x y : RT} : ifEK ga gb (if c then x else y) = if c then ifEK ga gb x else ifEK ga gb y := by split <;> rfl
def intK : RE → RE
  | .ok (.v (.atm (.int i))) m s1 => .ok (.v (.atm (.int i))) m s1
  | .ex C fs s' => .ex C fs s'
  | _ => .fail
@[simp] theorem k_int : intE g s = intK (g s) := by unfold intE intK; rfl
@[simp] theorem k_intK {i : Int} : intK (.ok (.v (.atm (.int i))) m s) = .ok (.v (.atm (.int i))) m s := rfl
/-! displays -/
def dspT (k : Kd) (m : Md) (s : S) : Option (List T) → RE
  | some ts => if ts.length ≤ 1000 then .ok (.v (.box true k ts)) m s else .fail
  | none => .fail
def dspK (k : Kd) : RA → RE
  | .ok es m s1 => dspT k m s1 (tvs es)
  | .ex C fs s' => .ex C fs s'
  | .fail => .fail
@[simp] theorem k_dsp {k : Kd} {g : S → RA} : dspE k g s = dspK k (g s) := by
  unfold dspE dspK dspT
  cases g s <;> rfl
@[simp] theorem k_dspK {k : Kd} : dspK k (.ok es m s) = dspT k m s (tvs es) := rfl
@[simp] theorem k_dspK_ite {k : Kd} {x y : RA} : dspK k (if c then x else y) = if c then dspK k x else dspK k y := by split <;> rfl
@[simp] theorem k_dspT {k : Kd} {ts : List T} (h : ts.length ≤ 1000) : dspT k m s (some ts) = .ok (.v (.box true k ts)) m s := by simp [dspT, h]
@[simp] theorem k_dn : dnE s = .ok (.v (.box true (.dct []) [])) .pure s := rfl
@[simp] theorem k_dnT : dnTE s = .ok (.v (.box true (.dtp []) [])) .pure s := rfl
/-! subscripts -/
def ixC (e1 : Ev) (j : Nat) (m : Md) (s : S) (c : T) : RE := if c.allF = true then .ok (.v c) m s else match e1 with
  | .v _ => .ok (.v c) m s
  | .p r q => .ok (.p r (q ++ [j])) m s
def ixO (e1 : Ev) (j : Nat) (m : Md) (s : S) : Option T → RE
  | some c => ixC e1 j m s c
  | none => .fail
def ixJ (e1 : Ev) (xs : List T) (m : Md) (s : S) : Option Nat → RE
  | some j => ixO e1 j m s xs[j]?
  | none => .fail
def ixV (e1 : Ev) (m : Md) (s : S) : Option T → Option T → RE
  | some (.box o k xs), some t => ixJ e1 xs m s (posT k xs.length t)
  | some (.atm (.str z)), some (.atm (.int i)) => match atI z.cps.toList i with
    | some c => if z.length ≤ sizeLine then .ok (.v (.atm (.str ⟨#[c]⟩))) m s else .fail
    | none => .fail
  | _, _ => .fail
def ixK : RA → RE
  | .ok [e1, e2] m s1 => ixV e1 m s1 (view s1 e1) (view s1 e2)
  | .ok _ _ _ => .fail
  | .ex C fs s' => .ex C fs s'
  | .fail => .fail
@[simp] theorem k_ix {g : S → RA} : idxE g s = ixK (g s) := by
  unfold idxE ixK
  split <;> rename_i e1 <;> (try simp only [e1])
  all_goals try with_reducible rfl
  all_goals generalize view _ _ = A
  all_goals generalize view _ _ = B
  all_goals match A, B with
  | none, _ => rfl
  | some (.box o k xs), none => rfl
  | some (.box o k xs), some t =>
    simp only [ixV, ixJ]
    cases posT k xs.length t with
    | none => rfl
    | some j =>
      simp only [ixO]
      cases xs[j]? with
      | none => rfl
      | some c => simp only [ixC] <;> split <;> first | rfl | (split <;> rfl)
  | some (.atm v), none => cases v <;> rfl
  | some (.atm v), some (.box _ _ _) => cases v <;> rfl
  | some (.atm v), some (.atm w) => cases v <;> cases w <;> first | rfl | (simp only [ixV]; split <;> rfl)
@[simp] theorem k_ixK {e1 e2 : Ev} : ixK (.ok [e1, e2] m s) = ixV e1 m s (view s e1) (view s e2) := rfl
@[simp] theorem k_ixK_ite {x y : RA} : ixK (if c then x else y) = if c then ixK x else ixK y := by split <;> rfl
@[simp] theorem k_ixV {e1 : Ev} {o : Bool} {k : Kd} {xs : List T} : ixV e1 m s (some (.box o k xs)) (some u) = ixJ e1 xs m s (posT k xs.length u) := rfl
@[simp] theorem k_ixJ {e1 : Ev} {xs : List T} : ixJ e1 xs m s (some j) = ixO e1 j m s xs[j]? := rfl
@[simp] theorem k_ixJ_ite {e1 : Ev} {xs : List T} {x y : Option Nat} : ixJ e1 xs m s (if c then x else y) = if c then ixJ e1 xs m s x else ixJ e1 xs m s y := by split <;> rfl
@[simp] theorem k_ixO {e1 : Ev} : ixO e1 j m s (some u) = ixC e1 j m s u := rfl
@[simp] theorem k_ixC_f {e1 : Ev} (h : u.allF = true) : ixC e1 j m s u = .ok (.v u) m s := by simp [ixC, h]
@[simp] theorem k_ixC_v {k : Kd} {xs : List T} : ixC (.v w) j m s (.box true k xs) = .ok (.v (.box true k xs)) m s := rfl
@[simp] theorem k_ixC_p {k : Kd} {xs : List T} : ixC (.p r q) j m s (.box true k xs) = .ok (.p r (q ++ [j])) m s := rfl
/-! calls -/
def callR (lm : List Bool) (es : List Ev) (m : Md) (s : S) : RF → RE
  | .ok t rs => if (borR lm es).isEmpty = true ∨ (t.allO = true ∧ T.allOL rs = true) then .ok (.v t) (callMd (lentR lm es) m) (giveBack (lentR lm es) rs s) else .fail
  | .ex C fs rs => if (borR lm es).isEmpty = true ∨ T.allOL rs = true then .ex C fs (giveBack (lentR lm es) rs s) else .fail
  | .fail => .fail
def callA (lm : List Bool) (F : List T → RF) (es : List Ev) (m : Md) (s : S) : Option (List T) → RE
  | some ts => if apart (lentR lm es) (borR lm es) = true then callR lm es m s (F ts) else .fail
  | none => .fail
def callK (lm : List Bool) (F : List T → RF) : RA → RE
  | .ok es m s1 => callA lm F es m s1 (callArgs lm es s1)
  | .ex C fs s1 => .ex C fs s1
  | .fail => .fail
@[simp] theorem k_call {lm : List Bool} {F : List T → RF} {g : S → RA} : callE lm F g s = callK lm F (g s) := by
  unfold callE callK callA callR
  cases g s with
  | ok es m s1 =>
    simp only
    all_goals cases callArgs lm es s1 with
    | none => rfl
    | some ts => simp only; split <;> rfl
  | ex C fs s1 => rfl
  | fail => rfl
@[simp] theorem k_callK {lm : List Bool} {F : List T → RF} : callK lm F (.ok es m s) = callA lm F es m s (callArgs lm es s) := rfl
@[simp] theorem k_callK_x {lm : List Bool} {F : List T → RF} : callK lm F (.ex C fs s) = .ex C fs s := rfl
@[simp] theorem k_callK_ite {lm : List Bool} {F : List T → RF} {x y : RA} : callK lm F (if c then x else y) = if c then callK lm F x else callK lm F y := by split <;> rfl
@[simp] theorem k_callA {lm : List Bool} {F : List T → RF} {ts : List T} (h : apart (lentR lm es) (borR lm es) = true) : callA lm F es m s (some ts) = callR lm es m s (F ts) := by simp [callA, h]
@[simp] theorem k_callR {lm : List Bool} {ts : List T} (h : (borR lm es).isEmpty = true ∨ (u.allO = true ∧ T.allOL ts = true)) : callR lm es m s (.ok u ts) = .ok (.v u) (callMd (lentR lm es) m) (giveBack (lentR lm es) ts s) := by simp only [callR, h, if_true]
@[simp] theorem k_callR_x {lm : List Bool} {ts : List T} (h : (borR lm es).isEmpty = true ∨ T.allOL ts = true) : callR lm es m s (.ex C fs ts) = .ex C fs (giveBack (lentR lm es) ts s) := by simp only [callR, h, if_true]
@[simp] theorem k_callR_ite {lm : List Bool} {x y : RF} : callR lm es m s (if c then x else y) = if c then callR lm es m s x else callR lm es m s y := by split <;> rfl
@[simp] theorem k_ca0 : callArgs [] [] s = some [] := rfl
@[simp] theorem k_ca_v {ms : List Bool} : callArgs (false :: ms) (.v u :: es) s = vcons (some u) (callArgs ms es s) := by
  simp only [callArgs]
  cases callArgs ms es s <;> rfl
@[simp] theorem k_ca_p {ms : List Bool} : callArgs (false :: ms) (.p r q :: es) s = vcons ((s.gt r q).map T.fz) (callArgs ms es s) := by
  simp only [callArgs]
  cases s.gt r q with
  | none => rfl
  | some t => simp only; cases callArgs ms es s <;> rfl
def ownO : Option T → Option T
  | some (.box true k xs) => some (.box true k xs)
  | _ => none
@[simp] theorem k_ownO {k : Kd} {xs : List T} : ownO (some (.box true k xs)) = some (.box true k xs) := rfl
@[simp] theorem k_ca_l {ms : List Bool} : callArgs (true :: ms) (.p r [] :: es) s = vcons (ownO (s.root r)) (callArgs ms es s) := by
  simp only [callArgs]
  cases s.root r with
  | none => rfl
  | some t =>
    cases t with
    | atm v => rfl
    | box o k xs =>
      cases o with
      | false => rfl
      | true => simp only [ownO]; cases callArgs ms es s <;> rfl
@[simp] theorem k_lR0 : lentR [] [] = [] := rfl
@[simp] theorem k_lRl {ms : List Bool} : lentR (true :: ms) (.p r q :: es) = r :: lentR ms es := rfl
@[simp] theorem k_lRf {ms : List Bool} : lentR (false :: ms) (e :: es) = lentR ms es := by cases e <;> rfl
@[simp] theorem k_bR0 : borR [] [] = [] := rfl
@[simp] theorem k_bRl {ms : List Bool} : borR (true :: ms) (e :: es) = borR ms es := by cases e <;> rfl
@[simp] theorem k_bRp {ms : List Bool} : borR (false :: ms) (.p r q :: es) = r :: borR ms es := rfl
@[simp] theorem k_bRv {ms : List Bool} : borR (false :: ms) (.v u :: es) = borR ms es := rfl
@[simp] theorem k_apart0 {bs : List Rt} : apart [] bs = true := (rfl)
@[simp] theorem k_callMd0 : callMd [] m = m := rfl
@[simp] theorem k_callMd1 {l : List Rt} : callMd (r :: l) m = .many := rfl
@[simp] theorem k_gb0 {ts : List T} : giveBack [] ts s = s := by simp [giveBack]
@[simp] theorem k_gb1 {l : List Rt} {ts : List T} : giveBack (r :: l) (u :: ts) s = giveBack l ts ((s.setR r u).kill r []) := rfl
/-! what takes its argument over -/
def takeB (m : Md) (s : S) : Option (Kd × List T) → RE
  | some (k, ys) => .ok (.v (.box true k ys)) m s
  | none => .fail
def takeF (m : Md) (s : S) : Option (Kd × List T) → RE
  | some (k, ys) => if T.allFL ys = true then .ok (.v (.box true k ys)) m s else .fail
  | none => .fail
def takeP (f : T → Option (Kd × List T)) (m : Md) (s : S) : Option T → RE
  | some t => takeF m s (f t)
  | none => .fail
def takeK (f : T → Option (Kd × List T)) : RE → RE
  | .ok (.v t) m s1 => takeB m s1 (f t)
  | .ok (.p r q) m s1 => takeP f m s1 (s1.gt r q)
  | .ex C fs s' => .ex C fs s'
  | .fail => .fail
@[simp] theorem k_take {f : T → Option (Kd × List T)} : takeE f g s = takeK f (g s) := by
  unfold takeE takeK takeB takeP takeF
  cases g s with
  | ok e m s1 => cases e with
    | v t => rfl
    | p r q =>
      simp only
      all_goals cases s1.gt r q with
      | none => rfl
      | some t => rfl
  | ex C fs s1 => rfl
  | fail => rfl
@[simp] theorem k_takeK_v {f : T → Option (Kd × List T)} : takeK f (.ok (.v u) m s) = takeB m s (f u) := rfl
@[simp] theorem k_takeK_p {f : T → Option (Kd × List T)} : takeK f (.ok (.p r q) m s) = takeP f m s (s.gt r q) := rfl
@[simp] theorem k_takeK_x {f : T → Option (Kd × List T)} : takeK f (.ex C fs s) = .ex C fs s := rfl
@[simp] theorem k_takeK_ite {f : T → Option (Kd × List T)} {x y : RE} : takeK f (if c then x else y) = if c then takeK f x else takeK f y := by split <;> rfl
@[simp] theorem k_takeP {f : T → Option (Kd × List T)} : takeP f m s (some u) = takeF m s (f u) := rfl
@[simp] theorem k_takeB {k : Kd} {xs : List T} : takeB m s (some (k, xs)) = .ok (.v (.box true k xs)) m s := rfl
@[simp] theorem k_takeB_ite {x y : Option (Kd × List T)} : takeB m s (if c then x else y) = if c then takeB m s x else takeB m s y := by split <;> rfl
@[simp] theorem k_takeF {k : Kd} {xs : List T} (h : T.allFL xs = true) : takeF m s (some (k, xs)) = .ok (.v (.box true k xs)) m s := by simp [takeF, h]
@[simp] theorem k_takeF_ite {x y : Option (Kd × List T)} : takeF m s (if c then x else y) = if c then takeF m s x else takeF m s y := by split <;> rfl
@[simp] theorem k_listF_l {o : Bool} {xs : List T} : listF (.box o .lst xs) = some (.lst, xs) := rfl
@[simp] theorem k_listF_t {o : Bool} {xs : List T} : listF (.box o .tup xs) = some (.lst, xs) := rfl
@[simp] theorem k_listF_s {o : Bool} {xs : List T} : listF (.box o .scr xs) = some (.lst, xs) := rfl
def chkV (chk : T → Bool) (e : Ev) (m : Md) (s : S) : Option T → RE
  | some t => if chk t = true then .ok e m s else .fail
  | none => .fail
def chkK (chk : T → Bool) : RE → RE
  | .ok e m s1 => chkV chk e m s1 (view s1 e)
  | .ex C fs s1 => .ex C fs s1
  | .fail => .fail
@[simp] theorem k_chk {chk : T → Bool} : chkE chk g s = chkK chk (g s) := by
  unfold chkE chkK chkV
  cases g s <;> rfl
@[simp] theorem k_chkK {chk : T → Bool} : chkK chk (.ok e m s) = chkV chk e m s (view s e) := rfl
@[simp] theorem k_chkK_ite {chk : T → Bool} {x y : RE} : chkK chk (if c then x else y) = if c then chkK chk x else chkK chk y := by split <;> rfl
@[simp] theorem k_chkV {chk : T → Bool} (h : chk u = true) : chkV chk e m s (some u) = .ok e m s := by simp [chkV, h]
@[simp] theorem k_isL_l {o : Bool} {xs : List T} : isL (.box o .lst xs) = true := (rfl)
@[simp] theorem k_isL_s {o : Bool} {xs : List T} : isL (.box o .scr xs) = true := (rfl)
@[simp] theorem k_isStr {z : Str} : isStr (.atm (.str z)) = true := (rfl)
/-! statements -/
def seqK (b : S → RS) : RS → RS
  | .nx s1 => b s1
  | r => r
@[simp] theorem k_seq : seqS a b s = seqK b (a s) := by unfold seqS seqK; rfl
@[simp] theorem k_seqK : seqK b (.nx s) = b s := rfl
@[simp] theorem k_seqK_r : seqK b (.rt u s) = .rt u s := rfl
@[simp] theorem k_seqK_b : seqK b (.bk s) = .bk s := rfl
@[simp] theorem k_seqK_c : seqK b (.ct s) = .ct s := rfl
@[simp] theorem k_seqK_x : seqK b (.ex C fs s) = .ex C fs s := rfl
@[simp] theorem k_seqK_ite {x y : RS} : seqK b (if c then x else y) = if c then seqK b x else seqK b y := by split <;> rfl
@[simp] theorem k_nx : nxS s = .nx s := rfl
@[simp] theorem k_bk : bkS s = .bk s := rfl
@[simp] theorem k_ct : ctS s = .ct s := rfl
def exprK : RE → RS
  | .ok _ _ s1 => .nx s1
  | .ex C fs s1 => .ex C fs s1
  | .fail => .fail
@[simp] theorem k_expr : exprS g s = exprK (g s) := by unfold exprS exprK; rfl
@[simp] theorem k_exprK : exprK (.ok e m s) = .nx s := rfl
@[simp] theorem k_exprK_x : exprK (.ex C fs s) = .ex C fs s := rfl
@[simp] theorem k_exprK_ite {x y : RE} : exprK (if c then x else y) = if c then exprK x else exprK y := by split <;> rfl
def retK : RE → RS
  | .ok (.v t) _ s1 => .rt t s1
  | .ok (.p _ _) _ _ => .fail
  | .ex C fs s1 => .ex C fs s1
  | .fail => .fail
@[simp] theorem k_ret : retS g s = retK (g s) := by unfold retS retK; rfl
@[simp] theorem k_retK : retK (.ok (.v u) m s) = .rt u s := rfl
@[simp] theorem k_retK_x : retK (.ex C fs s) = .ex C fs s := rfl
@[simp] theorem k_retK_ite {x y : RE} : retK (if c then x else y) = if c then retK x else retK y := by split <;> rfl
@[simp] theorem k_retN : retNS s = .rt (.atm .non) s := rfl
def ifK (a b : S → RS) : RT → RS
  | .ok c _ s1 => if c = true then a s1 else b s1
  | .ex C fs s1 => .ex C fs s1
  | .fail => .fail
@[simp] theorem k_if : ifS t a b s = ifK a b (t s) := by
  unfold ifS ifK
  cases t s with
  | ok c m s1 => cases c <;> rfl
  | ex C fs s1 => rfl
  | fail => rfl
@[simp] theorem k_ifK {d : Bool} : ifK a b (.ok d m s) = if d = true then a s else b s := rfl
@[simp] theorem k_ifK_x : ifK a b (.ex C fs s) = .ex C fs s := rfl
@[simp] theorem k_ifK_ite {x y : RT} : ifK a b (if c then x else y) = if c then ifK a b x else ifK a b y := by split <;> rfl
def asgO : Option S → RS
  | some s2 => .nx s2
  | none => .fail
def asgK (i : Nat) : RE → RS
  | .ok e _ s1 => asgO (bindE i e s1)
  | .ex C fs s1 => .ex C fs s1
  | .fail => .fail
@[simp] theorem k_asg : asgS i g s = asgK i (g s) := by
  unfold asgS asgK asgO
  cases g s with
  | ok e m s1 => rfl
  | ex C fs s1 => rfl
  | fail => rfl
@[simp] theorem k_asgK_v (h : i < sl.length) : asgK i (.ok (.v u) m ⟨sl, hd⟩) = .nx (SS.put ⟨sl, hd⟩ i (.t u)) := by simp [asgK, asgO, bindE, h]
@[simp] theorem k_asgK_p (h : i < sl.length) (hr : r ≠ .sl i) (hg : (SS.gt ⟨sl, hd⟩ r q).isSome = true) : asgK i (.ok (.p r q) m ⟨sl, hd⟩) = .nx (SS.put ⟨sl, hd⟩ i (.al r q)) := by simp [asgK, asgO, bindE, h, hr, hg]
@[simp] theorem k_asgK_x : asgK i (.ex C fs s) = .ex C fs s := rfl
@[simp] theorem k_asgK_ite {x y : RE} : asgK i (if c then x else y) = if c then asgK i x else asgK i y := by split <;> rfl
@[simp] theorem k_aug {f : List T → Option RV} : augS i f g s = asgS i (opE f (argsG [rdE i, g])) s := rfl
/-! state -/
@[simp] theorem k_put {x : Sl T} : SS.put ⟨sl, hd⟩ i x = ⟨(sl.map (Sl.killR i)).set i x, hd⟩ := rfl
@[simp] theorem k_kR_n : Sl.killR i (.no : Sl T) = .no := rfl
@[simp] theorem k_kR_t : Sl.killR i (.t u) = .t u := rfl
@[simp] theorem k_kR_h : Sl.killR i (.al (.hd j) p : Sl T) = .al (.hd j) p := rfl
@[simp] theorem k_kR_s : Sl.killR i (.al (.sl j) p : Sl T) = if j = i then .no else .al (.sl j) p := rfl
def rootK : Option (Sl T) → Option T
  | some (.t x) => some x
  | _ => none
@[simp] theorem k_root_s : SS.root (⟨sl, hd⟩ : S) (.sl i) = rootK sl[i]? := by
  simp only [SS.root, rootK]
  split <;> simp_all
@[simp] theorem k_root_h : SS.root (⟨sl, hd⟩ : S) (.hd i) = hd[i]? := rfl
@[simp] theorem k_rootK : rootK (some (.t u)) = some u := rfl
def getO (p : List Nat) : Option T → Option T
  | some t => t.get p
  | none => none
@[simp] theorem k_gt : SS.gt s r p = getO p (s.root r) := by unfold SS.gt getO; rfl
@[simp] theorem k_getO : getO p (some u) = u.get p := rfl
@[simp] theorem k_get0 : u.get [] = some u := by cases u <;> rfl
@[simp] theorem k_get1 {o : Bool} {k : Kd} {xs : List T} : (T.box o k xs).get (i :: p) = getO p xs[i]? := by
  simp only [T.get, getO]
  all_goals cases xs[i]? <;> rfl
@[simp] theorem k_setR_s : SS.setR (⟨sl, hd⟩ : S) (.sl i) u = ⟨sl.set i (.t u), hd⟩ := rfl
@[simp] theorem k_setR_h : SS.setR (⟨sl, hd⟩ : S) (.hd i) u = ⟨sl, hd.set i u⟩ := rfl
@[simp] theorem k_kill : SS.kill (⟨sl, hd⟩ : S) r q = ⟨sl.map (Sl.kill r q), hd⟩ := rfl
@[simp] theorem k_kl_n : Sl.kill r q (.no : Sl T) = .no := rfl
@[simp] theorem k_kl_t : Sl.kill r q (.t u) = .t u := rfl
@[simp] theorem k_kl_a {r' : Rt} : Sl.kill r q (.al r' p : Sl T) = if below r q r' p = true then .no else .al r' p := rfl
@[simp] theorem k_md0 : T.md w u [] = w := by cases u <;> rfl
@[simp] theorem k_md1 {o : Bool} {k : Kd} {xs : List T} : T.md w (.box o k xs) (i :: p) = .box o k (xs.modify i fun x => T.md w x p) := rfl
def updK (kl : Bool) (s : S) (r : Rt) (q : List Nat) (u : T) : Option T → S
  | some t => if kl = true then (s.setR r (T.md u t q)).kill r q else s.setR r (T.md u t q)
  | none => s
@[simp] theorem k_upd {kl : Bool} : S.upd kl s r q u = updK kl s r q u (s.root r) := by
  unfold S.upd updK
  cases s.root r <;> rfl
@[simp] theorem k_updK_t : updK true s r q u (some w) = (s.setR r (T.md u w q)).kill r q := rfl
@[simp] theorem k_updK_f : updK false s r q u (some w) = s.setR r (T.md u w q) := rfl
@[simp] theorem k_updMd_t : updMd true r = .pop r := rfl
@[simp] theorem k_updMd_f : updMd false r = .fz := rfl
def fzAtK (s : S) (r : Rt) (q : List Nat) : Option T → Option T → S
  | some t, some u => s.setR r (T.md u.fz t q)
  | _, _ => s
@[simp] theorem k_fzAt : S.fzAt s r q = fzAtK s r q (s.root r) (s.gt r q) := by
  unfold S.fzAt fzAtK
  cases s.root r <;> cases s.gt r q <;> rfl
@[simp] theorem k_fzAtK : fzAtK s r q (some w) (some u) = s.setR r (T.md u.fz w q) := rfl
/-! a list's methods -/
def mutF (kl : Bool → Md) (s : S) (r : Rt) (q : List Nat) : Option (Bool × List T × T) → RE
  | some (b, ys, t) => .ok (.v t) (kl b) (S.upd b s r q (.box true .lst ys))
  | none => .fail
def mutT (f : List T → List T → Option (Bool × List T × T)) (m : Md) (r : Rt) (q : List Nat) (s : S) : Option T → Option (List T) → RE
  | some (.box true .lst xs), some ts => mutF (fun b => m.seq (updMd b r)) s r q (f xs ts)
  | _, _ => .fail
def mutA (f : List T → List T → Option (Bool × List T × T)) (m : Md) (r : Rt) (q : List Nat) : RA → RE
  | .ok es m' s2 => if surv (.p r q) m' = true then mutT f (m.seq m') r q s2 (s2.gt r q) (tvs es) else .fail
  | .ex C fs s' => .ex C fs s'
  | .fail => .fail
def mutP (f : List T → List T → Option (Bool × List T × T)) (g : S → RA) (m : Md) (r : Rt) (q : List Nat) (s : S) : Option T → RE
  | some (.box true .lst _) => mutA f m r q (g s)
  | _ => .fail
def mutK (f : List T → List T → Option (Bool × List T × T)) (g : S → RA) : RE → RE
  | .ok (.p r q) m s1 => mutP f g m r q s1 (s1.gt r q)
  | .ok (.v _) _ _ => .fail
  | .ex C fs s' => .ex C fs s'
  | .fail => .fail
@[simp] theorem k_mut {f : List T → List T → Option (Bool × List T × T)} {gp : S → RE} {g : S → RA} : mutE f gp g s = mutK f g (gp s) := by
  unfold mutE mutK mutP mutA mutT mutF
  cases gp s with
  | ok e m s1 =>
    cases e with
    | v t => rfl
    | p r q =>
      simp only
      all_goals
        split
        · rename_i h1; simp only [h1]
          split
          · rename_i h2
            simp only [h2]
            split
            · split
              · rename_i h3 h4; simp only [h3, h4]
                split
                · rename_i h5; simp only [h5]
                · rename_i h5; simp only [h5]
              · split <;> simp_all
            · rfl
          · rename_i h2; simp only [h2]
          · rename_i h2; simp only [h2]
        · split <;> simp_all
  | ex C fs s1 => rfl
  | fail => rfl
@[simp] theorem k_mutK {f : List T → List T → Option (Bool × List T × T)} {g : S → RA} : mutK f g (.ok (.p r q) m s) = mutP f g m r q s (s.gt r q) := rfl
@[simp] theorem k_mutP {f : List T → List T → Option (Bool × List T × T)} {g : S → RA} {xs : List T} : mutP f g m r q s (some (.box true .lst xs)) = mutA f m r q (g s) := rfl
@[simp] theorem k_mutA_p {f : List T → List T → Option (Bool × List T × T)} : mutA f m r q (.ok es .pure s) = mutT f m r q s (s.gt r q) (tvs es) := by simp [mutA, surv]
@[simp] theorem k_mutA_f {f : List T → List T → Option (Bool × List T × T)} : mutA f m r q (.ok es .fz s) = mutT f (m.seq .fz) r q s (s.gt r q) (tvs es) := by simp [mutA, surv]
@[simp] theorem k_mutA_pop {f : List T → List T → Option (Bool × List T × T)} {r0 : Rt} (h : (decide (r ≠ r0) || q.isEmpty) = true) : mutA f m r q (.ok es (.pop r0) s) = mutT f (m.seq (.pop r0)) r q s (s.gt r q) (tvs es) := by simp only [mutA, surv, h, if_true]
@[simp] theorem k_mutA_x {f : List T → List T → Option (Bool × List T × T)} : mutA f m r q (.ex C fs s) = .ex C fs s := rfl
@[simp] theorem k_mutA_ite {f : List T → List T → Option (Bool × List T × T)} {x y : RA} : mutA f m r q (if c then x else y) = if c then mutA f m r q x else mutA f m r q y := by split <;> rfl
@[simp] theorem k_mutT {f : List T → List T → Option (Bool × List T × T)} {xs ts : List T} : mutT f m r q s (some (.box true .lst xs)) (some ts) = mutF (fun b => m.seq (updMd b r)) s r q (f xs ts) := rfl
@[simp] theorem k_mutF {kl : Bool → Md} {b : Bool} {ys : List T} : mutF kl s r q (some (b, ys, u)) = .ok (.v u) (kl b) (S.upd b s r q (.box true .lst ys)) := rfl
@[simp] theorem k_mutF_ite {kl : Bool → Md} {x y : Option (Bool × List T × T)} : mutF kl s r q (if c then x else y) = if c then mutF kl s r q x else mutF kl s r q y := by split <;> rfl
/-! stores -/
def stO (s : S) (r : Rt) (q : List Nat) : Option (Kd × List T) → RS
  | some (k', ys) => .nx (S.upd true s r q (.box true k' ys))
  | none => .fail
def stV (t : T) (s : S) (r : Rt) (q : List Nat) : Option T → Option T → RS
  | some (.box true k xs), some i => stO s r q (setF k xs i t)
  | _, _ => .fail
def stK : RA → RS
  | .ok [.v t, .p r q, e] m s1 => stV t s1 r q (s1.gt r q) (view s1 e)
  | .ok _ _ _ => .fail
  | .ex C fs s1 => .ex C fs s1
  | .fail => .fail
@[simp] theorem k_st {g : S → RA} : stS g s = stK (g s) := by
  unfold stS stK stV stO
  split <;> rename_i e1 <;> simp only [e1]
  all_goals
    split
    · rename_i h1 h2; simp only [h1, h2]; split <;> simp_all
    · split <;> simp_all
@[simp] theorem k_stK : stK (.ok [.v u, .p r q, e] m s) = stV u s r q (s.gt r q) (view s e) := rfl
@[simp] theorem k_stK_ite {x y : RA} : stK (if c then x else y) = if c then stK x else stK y := by split <;> rfl
@[simp] theorem k_stV {k : Kd} {xs : List T} : stV u s r q (some (.box true k xs)) (some w) = stO s r q (setF k xs w u) := rfl
@[simp] theorem k_stO {k : Kd} {xs : List T} : stO s r q (some (k, xs)) = .nx (S.upd true s r q (.box true k xs)) := rfl
@[simp] theorem k_stO_ite {x y : Option (Kd × List T)} : stO s r q (if c then x else y) = if c then stO s r q x else stO s r q y := by split <;> rfl
/-! walks -/
def iLT (m : Md) (s : S) : Option (List T) → RI
  | some its => .ok its m s
  | none => .fail
def iLK : RE → RI
  | .ok (.v t) m s1 => iLT m s1 t.items
  | .ok (.p _ _) _ _ => .fail
  | .ex C fs s1 => .ex C fs s1
  | .fail => .fail
@[simp] theorem k_iL : iL g s = iLK (g s) := by
  unfold iL iLK iLT
  cases g s with
  | ok e m s1 => cases e with
    | v t => simp only <;> cases t.items <;> rfl
    | p r q => rfl
  | ex C fs s1 => rfl
  | fail => rfl
@[simp] theorem k_iLK : iLK (.ok (.v u) m s) = iLT m s u.items := rfl
@[simp] theorem k_iLK_x : iLK (.ex C fs s) = .ex C fs s := rfl
@[simp] theorem k_iLT {xs : List T} : iLT m s (some xs) = .ok xs m s := rfl
@[simp] theorem k_it_l {o : Bool} {xs : List T} (h : T.allFL xs = true) : (T.box o .lst xs).items = some xs := by simp [T.items, h]
@[simp] theorem k_it_s {o : Bool} {xs : List T} (h : T.allFL xs = true) : (T.box o .scr xs).items = some xs := by simp [T.items, h]
@[simp] theorem k_tit {o : Bool} {xs : List T} (h : T.allFL xs = true) : (T.box o .tup xs).titems = some xs := by simp [T.titems, h]
def iTK : RE → RI
  | .ok (.v t) m s1 => iLT m s1 t.titems
  | .ok (.p _ _) _ _ => .fail
  | .ex C fs s1 => .ex C fs s1
  | .fail => .fail
@[simp] theorem k_iT : iT g s = iTK (g s) := by
  unfold iT iTK iLT
  cases g s with
  | ok e m s1 => cases e with
    | v t => simp only <;> cases t.titems <;> rfl
    | p r q => rfl
  | ex C fs s1 => rfl
  | fail => rfl
@[simp] theorem k_iTK : iTK (.ok (.v u) m s) = iLT m s u.titems := rfl
@[simp] theorem k_iEn : iEn g s = match iL g s with
    | .ok its m s1 => .ok (enumT its) m s1
    | r => r := by
  unfold iEn iL
  cases g s with
  | ok e m s1 => cases e with
    | v t => simp only; cases t.items <;> rfl
    | p r q => rfl
  | ex C fs s1 => rfl
  | fail => rfl
@[simp] theorem k_iRv : iRv g s = match iL g s with
    | .ok its m s1 => .ok its.reverse m s1
    | r => r := by
  unfold iRv iL
  cases g s with
  | ok e m s1 => cases e with
    | v t => simp only; cases t.items <;> rfl
    | p r q => rfl
  | ex C fs s1 => rfl
  | fail => rfl
def iZO (m : Md) (s : S) : Option (List T) → Option (List T) → RI
  | some xs, some ys => .ok (zipT xs ys) m s
  | _, _ => .fail
def iZT (m : Md) (s : S) : Option (List T) → RI
  | some [x, y] => iZO m s x.items y.items
  | _ => .fail
def iZK : RA → RI
  | .ok es m s1 => iZT m s1 (tvs es)
  | .ex C fs s1 => .ex C fs s1
  | .fail => .fail
@[simp] theorem k_iZ {g : S → RA} : iZ g s = iZK (g s) := by
  unfold iZ iZK iZT iZO
  cases g s with
  | ok es m s1 =>
    simp only
    all_goals cases tvs es with
    | none => rfl
    | some ts =>
      match ts with
      | [] => rfl
      | [_] => rfl
      | [x, y] => simp only; cases x.items <;> cases y.items <;> rfl
      | _ :: _ :: _ :: _ => rfl
  | ex C fs s1 => rfl
  | fail => rfl
@[simp] theorem k_iZK : iZK (.ok es m s) = iZT m s (tvs es) := rfl
@[simp] theorem k_iZT : iZT m s (some [u, w]) = iZO m s u.items w.items := rfl
@[simp] theorem k_iZO {xs ys : List T} : iZO m s (some xs) (some ys) = .ok (zipT xs ys) m s := rfl
def iR1T (m : Md) (s : S) : Option (List T) → RI
  | some [.atm (.int j)] => if -(2 ^ 62) ≤ j ∧ j < 2 ^ 62 then .ok (rngT 0 j.toNat) m s else .fail
  | _ => .fail
def iR1K : RA → RI
  | .ok es m s1 => iR1T m s1 (tvs es)
  | .ex C fs s1 => .ex C fs s1
  | .fail => .fail
@[simp] theorem k_iR1 {g : S → RA} : iR1 g s = iR1K (g s) := by
  unfold iR1 iR1K iR1T
  cases g s <;> rfl
@[simp] theorem k_iR1K : iR1K (.ok es m s) = iR1T m s (tvs es) := rfl
@[simp] theorem k_iR1T {j : Int} (h : -(2 ^ 62) ≤ j ∧ j < 2 ^ 62) : iR1T m s (some [.atm (.int j)]) = .ok (rngT 0 j.toNat) m s := by simp only [iR1T, h, and_self, if_true]
def iR2T (m : Md) (s : S) : Option (List T) → RI
  | some [.atm (.int i), .atm (.int j)] => if -(2 ^ 62) ≤ i ∧ i < 2 ^ 62 ∧ -(2 ^ 62) ≤ j ∧ j < 2 ^ 62 then .ok (rngT i (j - i).toNat) m s else .fail
  | _ => .fail
def iR2K : RA → RI
  | .ok es m s1 => iR2T m s1 (tvs es)
  | .ex C fs s1 => .ex C fs s1
  | .fail => .fail
@[simp] theorem k_iR2 {g : S → RA} : iR2 g s = iR2K (g s) := by
  unfold iR2 iR2K iR2T
  cases g s <;> rfl
@[simp] theorem k_iR2K : iR2K (.ok es m s) = iR2T m s (tvs es) := rfl
@[simp] theorem k_iR2T {i j : Int} (h : -(2 ^ 62) ≤ i ∧ i < 2 ^ 62 ∧ -(2 ^ 62) ≤ j ∧ j < 2 ^ 62) : iR2T m s (some [.atm (.int i), .atm (.int j)]) = .ok (rngT i (j - i).toNat) m s := by simp only [iR2T, h, and_self, if_true]
def forK (b : T → S → Option S) (a : S → RS) : RI → RS
  | .ok its _ s1 => forV b a its s1
  | .ex C fs s1 => .ex C fs s1
  | .fail => .fail
@[simp] theorem k_for {gi : S → RI} {b : T → S → Option S} : forS gi b a s = forK b a (gi s) := by unfold forS forK; rfl
@[simp] theorem k_forK {b : T → S → Option S} {xs : List T} : forK b a (.ok xs m s) = forV b a xs s := rfl
@[simp] theorem k_forK_x {b : T → S → Option S} : forK b a (.ex C fs s) = .ex C fs s := rfl
@[simp] theorem k_bN (h : i < sl.length) : bN i u ⟨sl, hd⟩ = some (SS.put ⟨sl, hd⟩ i (.t u)) := by simp [bN, h]
@[simp] theorem k_bNil : bNil [] s = some s := rfl
def bO (bs : List T → S → Option S) (ts : List T) : Option S → Option S
  | some s1 => bs ts s1
  | none => none
@[simp] theorem k_bCons {b : T → S → Option S} {bs : List T → S → Option S} {ts : List T} : bCons b bs (u :: ts) s = bO bs ts (b u s) := by
  simp only [bCons, bO]
  all_goals cases b u s <;> rfl
@[simp] theorem k_bO {bs : List T → S → Option S} {ts : List T} : bO bs ts (some s) = bs ts s := rfl
@[simp] theorem k_bT {n : Nat} {bs : List T → S → Option S} {o : Bool} {xs : List T} (h : xs.length = n) : bT n bs (.box o .tup xs) s = bs xs s := by simp [bT, h]
/-- one turn of a for -/
def turnK (k : S → RS) : RS → RS
  | .nx s2 => k s2
  | .ct s2 => k s2
  | .bk s2 => .nx s2
  | .rt t s2 => .rt t s2
  | .ex C fs s2 => .ex C fs s2
  | .fail => .fail
def turnO (a : S → RS) (k : S → RS) : Option S → RS
  | some s1 => turnK k (a s1)
  | none => .fail
@[simp] theorem k_forV0 {b : T → S → Option S} : forV b a [] s = .nx s := rfl
theorem k_forV1 {b : T → S → Option S} {xs : List T} : forV b a (u :: xs) s = turnO a (forV b a xs) (b u s) := by
  simp only [forV, turnO, turnK]
  all_goals cases b u s with
  | none => rfl
  | some s1 => simp only; cases a s1 <;> rfl
@[simp] theorem k_turnO {k : S → RS} : turnO a k (some s) = turnK k (a s) := rfl
@[simp] theorem k_tK_n {k : S → RS} : turnK k (.nx s) = k s := rfl
@[simp] theorem k_tK_c {k : S → RS} : turnK k (.ct s) = k s := rfl
@[simp] theorem k_tK_b {k : S → RS} : turnK k (.bk s) = .nx s := rfl
@[simp] theorem k_tK_r {k : S → RS} : turnK k (.rt u s) = .rt u s := rfl
@[simp] theorem k_tK_x {k : S → RS} : turnK k (.ex C fs s) = .ex C fs s := rfl
@[simp] theorem k_tK_ite {k : S → RS} {x y : RS} : turnK k (if c then x else y) = if c then turnK k x else turnK k y := by split <;> rfl
theorem k_while : whileS t a s = ifK (fun s1 => turnK (whileS t a) (a s1)) (fun s1 => .nx s1) (t s) := by
  rw [whileS_eq]
  unfold ifK turnK
  cases t s with
  | ok c m s1 => cases c with
    | true => simp only [if_true] <;> cases a s1 <;> rfl
    | false => rfl
  | ex C fs s1 => rfl
  | fail => rfl
/-! comprehensions -/
def lcK (b : T → S → Option S) (t : S → RT) (g : S → RE) (own : List Nat) : RI → RE
  | .ok its m s1 => lcL b t g own (m.seq (lcMd own s1)) its [] (wipeS s1 own)
  | .ex C fs s1 => .ex C fs s1
  | .fail => .fail
@[simp] theorem k_lc {gi : S → RI} {b : T → S → Option S} {own : List Nat} : lcE gi b t g own s = lcK b t g own (gi s) := by unfold lcE lcK; rfl
@[simp] theorem k_lcK {b : T → S → Option S} {own : List Nat} {xs : List T} : lcK b t g own (.ok xs m s) = lcL b t g own (m.seq (lcMd own s)) xs [] (wipeS s own) := rfl
@[simp] theorem k_lcL0 {b : T → S → Option S} {own : List Nat} {acc : List T} : lcL b t g own m [] acc s = .ok (.v (.box true .lst acc)) m s := rfl
def lcV (k : List T → S → RE) (own : List Nat) (acc : List T) (m1 : Md) : RE → RE
  | .ok (.v u) m2 s3 => if m1.quiet = true ∧ m2.quiet = true ∧ acc.length < sizeLine then k (acc ++ [u]) (wipeS s3 own) else .fail
  | _ => .fail
def lcT (g : S → RE) (k : List T → S → RE) (own : List Nat) (acc : List T) : RT → RE
  | .ok d m1 s2 => if d = true then lcV k own acc m1 (g s2) else if m1.quiet = true then k acc (wipeS s2 own) else .fail
  | _ => .fail
def lcO (t : S → RT) (g : S → RE) (k : List T → S → RE) (own : List Nat) (acc : List T) : Option S → RE
  | some s1 => lcT g k own acc (t s1)
  | none => .fail
theorem k_lcL1 {b : T → S → Option S} {own : List Nat} {xs acc : List T} : lcL b t g own m (u :: xs) acc s = lcO t g (fun acc s => lcL b t g own m xs acc s) own acc (b u s) := by
  simp only [lcL, lcO, lcT, lcV]
  cases b u s with
  | none => rfl
  | some s1 =>
    simp only
    cases t s1 with
    | ok d m1 s2 =>
      cases d with
      | true =>
        simp only [if_true]
        all_goals cases g s2 with
        | ok e m2 s3 => cases e <;> rfl
        | ex C fs s3 => rfl
        | fail => rfl
      | false => rfl
    | ex C fs s2 => rfl
    | fail => rfl
@[simp] theorem k_lcO {k : List T → S → RE} {own : List Nat} {acc : List T} : lcO t g k own acc (some s) = lcT g k own acc (t s) := rfl
@[simp] theorem k_lcT {k : List T → S → RE} {own : List Nat} {acc : List T} {d : Bool} (h : m.quiet = true) : lcT g k own acc (.ok d m s) = if d = true then lcV k own acc m (g s) else k acc (wipeS s own) := by simp [lcT, h]
@[simp] theorem k_lcT_ite {k : List T → S → RE} {own : List Nat} {acc : List T} {x y : RT} : lcT g k own acc (if c then x else y) = if c then lcT g k own acc x else lcT g k own acc y := by split <;> rfl
@[simp] theorem k_lcV {k : List T → S → RE} {own : List Nat} {acc : List T} (h1 : m.quiet = true) (h2 : m'.quiet = true) (h3 : acc.length < sizeLine) : lcV k own acc m (.ok (.v u) m' s) = k (acc ++ [u]) (wipeS s own) := by simp [lcV, h1, h2, h3]
@[simp] theorem k_lcV_ite {k : List T → S → RE} {own : List Nat} {acc : List T} {x y : RE} : lcV k own acc m (if c then x else y) = if c then lcV k own acc m x else lcV k own acc m y := by split <;> rfl
@[simp] theorem k_yes : yesT s = .ok true .pure s := rfl
@[simp] theorem k_q_p : Md.quiet .pure = true := (rfl)
@[simp] theorem k_q_f : Md.quiet .fz = true := (rfl)
@[simp] theorem k_wipe0 {s : S} : wipeS s [] = s := rfl
@[simp] theorem k_wipe1 {l : List Nat} {s : S} : wipeS s (i :: l) = (wipeS s l).put i .no := rfl
@[simp] theorem k_lcMd {own : List Nat} : lcMd own ⟨sl, hd⟩ = if own.all (fun v => isNo sl[v]?) = true then .fz else .many := rfl
@[simp] theorem k_isNo_n : isNo (some (.no : Sl T)) = true := (rfl)
@[simp] theorem k_isNo_t : isNo (some (.t u)) = false := (rfl)
/-! defs -/
def runK : RS → RF
  | .rt t s => .ok t s.hd
  | .nx s => .ok (.atm .non) s.hd
  | .ex C fs s => .ex C fs s.hd
  | _ => .fail
theorem runF_k {lm : List Bool} {n : Nat} {args : List T} (h : args.length = lm.length) (h2 : lm.length ≤ n) : runF lm n a args = runK (a (startT lm n args)) := by
  unfold runF runK
  rw [if_pos ⟨h, h2⟩]
  all_goals cases a (startT lm n args) <;> rfl
@[simp] theorem k_runK_r : runK (.rt u s) = .ok u s.hd := rfl
@[simp] theorem k_runK_n : runK (.nx s) = .ok (.atm .non) s.hd := rfl
@[simp] theorem k_runK_x : runK (.ex C fs s) = .ex C fs s.hd := rfl
@[simp] theorem k_runK_ite {x y : RS} : runK (if c then x else y) = if c then runK x else runK y := by split <;> rfl
end
/-! values -/
section
variable {i j : Int} {n : Nat} {o o' : Bool} {xs ys : List T} {x y : T} {ks : List Key}
@[simp] theorem f_add : addF [.atm (.int i), .atm (.int j)] = some (.a (.int (i + j))) := rfl
@[simp] theorem f_addL (h : xs.length + ys.length ≤ sizeLine) : addF [.box o .lst xs, .box o' .lst ys] = some (.n .lst (xs ++ ys)) := by simp only [addF, h, if_true]
@[simp] theorem f_sub : subF [.atm (.int i), .atm (.int j)] = some (.a (.int (i - j))) := rfl
@[simp] theorem f_mul (h : mulOk i j = true) : mulF [.atm (.int i), .atm (.int j)] = some (.a (.int (i * j))) := by simp only [mulF, gI, h, if_true]
theorem f_fdivW (h : 0 < j) (h2 : j.natAbs < 2 ^ 9000) : fdivF [.atm (.int i), .atm (.int j)] = some (.a (.int (i / j))) := by simp only [fdivF, gI, h, h2, decide_true, Bool.and_self, if_true]
@[simp] theorem f_fdiv (h : 0 < j) (h2 : j.natAbs < 2 ^ 64) : fdivF [.atm (.int i), .atm (.int j)] = some (.a (.int (i / j))) := f_fdivW h (Nat.lt_of_lt_of_le h2 (Nat.pow_le_pow_right (by decide) (by decide)))
@[simp] theorem f_mod (h : 0 < j) : modF [.atm (.int i), .atm (.int j)] = some (.a (.int (i % j))) := by simp only [modF, gI, h, decide_true, if_true]
@[simp] theorem f_pow (h : 0 ≤ j) (h2 : j ≤ 1000000) (h3 : i.natAbs < 2 ^ 64) : powF [.atm (.int i), .atm (.int j)] = some (.a (.int (i ^ j.toNat))) := by simp only [powF, gI, h, h2, h3, decide_true, Bool.and_self, if_true]
@[simp] theorem f_iadd : iaddF [.atm (.int i), .atm (.int j)] = some (.a (.int (i + j))) := rfl
@[simp] theorem f_neg : negF [.atm (.int i)] = some (.a (.int (-i))) := rfl
@[simp] theorem f_lt : ltF [.atm (.int i), .atm (.int j)] = some (.a (.bl (decide (i < j)))) := rfl
@[simp] theorem f_le : leF [.atm (.int i), .atm (.int j)] = some (.a (.bl (decide (i ≤ j)))) := rfl
@[simp] theorem f_gt : gtF [.atm (.int i), .atm (.int j)] = some (.a (.bl (decide (j < i)))) := rfl
@[simp] theorem f_ge : geF [.atm (.int i), .atm (.int j)] = some (.a (.bl (decide (j ≤ i)))) := rfl
@[simp] theorem f_len_l : lenF [.box o .lst xs] = some (.a (.int xs.length)) := rfl
@[simp] theorem f_len_t : lenF [.box o .tup xs] = some (.a (.int xs.length)) := rfl
@[simp] theorem f_len_s : lenF [.box o .scr xs] = some (.a (.int xs.length)) := rfl
@[simp] theorem f_len_d : lenF [.box o (.dct ks) xs] = some (.a (.int ks.length)) := rfl
@[simp] theorem f_fit_i : (T.atm (.int i)).fit = true := (rfl)
@[simp] theorem f_fit_b {b : Bool} : (T.atm (.bl b)).fit = true := (rfl)
@[simp] theorem f_fit_n : (T.atm .non).fit = true := (rfl)
@[simp] theorem f_eq (h : x.fit = true) (h2 : y.fit = true) : eqF false [x, y] = some (.a (.bl (PyData.eqv x.dat y.dat))) := by simp [eqF, h, h2]
@[simp] theorem f_ne (h : x.fit = true) (h2 : y.fit = true) : eqF true [x, y] = some (.a (.bl (!PyData.eqv x.dat y.dat))) := by simp [eqF, h, h2]
@[simp] theorem f_pos_l : posT .lst n (.atm (.int i)) = ixN n i := rfl
@[simp] theorem f_pos_t : posT .tup n (.atm (.int i)) = ixN n i := rfl
@[simp] theorem f_pos_s : posT .scr n (.atm (.int i)) = ixN n i := rfl
@[simp] theorem f_pos_d : posT (.dct ks) n (.atm (.int i)) = idxK ks (.inl i) := rfl
@[simp] theorem f_slL {v : T} : slLF [v, .atm (.int i)] = cutF v (some i) none := by cases v <;> rfl
@[simp] theorem f_slU {v : T} : slUF [v, .atm (.int i)] = cutF v none (some i) := by cases v <;> rfl
@[simp] theorem f_slLU {v : T} : slLUF [v, .atm (.int i), .atm (.int j)] = cutF v (some i) (some j) := by cases v <;> rfl
@[simp] theorem f_cut_l {lo hi : Option Int} : cutF (.box o .lst xs) lo hi = some (.n .lst (cutT xs lo hi)) := rfl
@[simp] theorem f_cut_s {lo hi : Option Int} : cutF (.box o .scr xs) lo hi = some (.n .lst (cutT xs lo hi)) := rfl
@[simp] theorem f_app (h : xs.length < sizeLine) : appF xs [x] = some (false, xs ++ [x], .atm .non) := by simp [appF, h]
@[simp] theorem f_ext (h : xs.length + ys.length ≤ sizeLine) : extF xs [.box o .lst ys] = some (false, xs ++ ys, .atm .non) := by simp [extF, h]
@[simp] theorem f_isi_ll : isiF [.box o .lst xs, .atm (.ty "list")] = some (.a (.bl true)) := by rfl
@[simp] theorem f_isi_ii : isiF [.atm (.int i), .atm (.ty "int")] = some (.a (.bl true)) := by rfl
@[simp] theorem f_isi_ib : isiF [.atm (.int i), .atm (.ty "bool")] = some (.a (.bl false)) := by rfl
end
end TL
namespace TL
open PySem PySem.Spec PyProof.Rows L2
section
variable {K : PySem.W.Frag} {X : Cx} {W : Wh}
/-! ### sorted(xs), xs a list of data that compare -/
/-- what is known of the things -/
structure Srts (ts : List T) : Prop where
  len : ts.length ≤ sizeLine
  good : ∀ t ∈ ts, t.good = true
  deep : ∀ t ∈ ts, t.dat.depth ≤ 60
  al : PySem.W.AllAlike (ts.map T.dat)
  so : PySem.W.Sortable (ts.map T.dat)
def tupNe : T → Bool
  | .box _ .tup (_ :: _) => true
  | _ => false
def notTup : T → Bool
  | .atm .non => false
  | .box _ .tup _ => false
  | t => t.good
def srtB (ts : List T) : Bool := decide (ts.length ≤ sizeLine) && ts.all (fun t => t.good && decide (t.dat.depth ≤ 60)) && ts.all (fun x => ts.all fun y => PySem.W.alike x.dat y.dat) && (ts.all tupNe || ts.all notTup)
theorem srts_of {ts : List T} (h : srtB ts = true) : Srts ts := by
  simp only [srtB, Bool.and_eq_true, decide_eq_true_eq, List.all_eq_true, Bool.or_eq_true] at h
  obtain ⟨⟨⟨h1, h2⟩, h3⟩, h4⟩ := h
  refine ⟨h1, fun t m => (h2 t m).1, fun t m => (h2 t m).2, ?_, ?_⟩
  · intro d hd d' hd'
    obtain ⟨x, hx, rfl⟩ := List.mem_map.mp hd
    obtain ⟨y, hy, rfl⟩ := List.mem_map.mp hd'
    exact h3 x hx y hy
  · rcases h4 with h4 | h4
    · refine .inl fun d hd => ?_
      obtain ⟨x, hx, rfl⟩ := List.mem_map.mp hd
      have := h4 x hx
      unfold tupNe at this
      split at this
      · exact ⟨_, _, by simp only [T.dat, T.datL]; rfl⟩
      · cases this
    · refine .inr fun d hd => ?_
      obtain ⟨x, hx, rfl⟩ := List.mem_map.mp hd
      have := h4 x hx
      unfold notTup at this
      split at this
      · cases this
      · cases this
      · rename_i n1 n2
        cases x with
        | atm v => cases v <;> simp_all [T.dat, T.good]
        | box o k xs => cases k <;> simp_all [T.dat, T.good]
abbrev sLe : T → T → Bool := PySem.W.dataLe false T.dat
abbrev aLe : AT → AT → Bool := PySem.W.dataLe false fun b => b.er.dat
def srtT (ts : List T) : List T := ts.mergeSort sLe
theorem erL_srt (xs : List AT) : AT.erL (xs.mergeSort aLe) = srtT (AT.erL xs) := by
  rw [erL_map, erL_map, srtT, List.map_mergeSort (s := sLe)]
  intro a _ b _
  rfl
def rSortedT (K : PySem.W.Frag) : RN := fun vs H Q => ∃ (a : Addr) (R : Addr → Prop) (bs : List AT), vs = [V.ref a] ∧ SqL K H a (bs.map AT.val) ∧ AT.okL K R H bs ∧ Srts (AT.erL bs) ∧
  ∀ p, H p = none → Q (.ref p) (upd H p (.lst ((bs.mergeSort aLe).map AT.val)))
theorem each_of_vals {R : Value → AT → Prop} : ∀ {bs : List AT} {us : List Value}, Vals (bs.map AT.val) us → (∀ b ∈ bs, ∀ u, RelV b.val u → R u b) → PySem.W.EachIs R us bs
  | [], us, r, _ => by cases r; exact .nil
  | b :: bs, us, r, h => by
    cases r with
    | cons r1 r2 => exact .cons (h b (by simp) _ r1) (each_of_vals r2 fun x hx => h x (by simp [hx]))
theorem vals_of_each : ∀ {bs : List AT} {us : List Value}, PySem.W.EachIs (fun u (b : AT) => RelV b.val u) us bs → Vals (bs.map AT.val) us
  | _, _, .nil => .nil
  | _, _, .cons h t => .cons h (vals_of_each t)
theorem cr_sortedT (hu : X.A.units + 64 < cLine) : CallR X (.builtin "sorted") (rSortedT X.K) := by
  intro pins s σ H vs us Q I r h
  obtain ⟨a, R, bs, rfl, hs, okb, so, q⟩ := h
  obtain ⟨its, rv, hl, hz⟩ := I.list hs
  rw [Vals.ref1 r]
  have em : ∀ b ∈ bs, b.er ∈ AT.erL bs := fun b hb => by rw [erL_map]; exact List.mem_map_of_mem hb
  have ed : (AT.erL bs).map T.dat = bs.map fun b => b.er.dat := by rw [erL_map, List.map_map]; rfl
  have hlen : bs.length ≤ sizeLine := by have := so.len; rw [erL_map, List.length_map] at this; exact this
  refine PySem.W.sorted_data (enc := fun b : AT => b.er.dat) (R := fun u (b : AT) => RelV b.val u) hl.isList (each_of_vals rv fun b _ u h => h)
    (each_of_vals rv fun b hb u h => Dp.reads I _ _ _ (dp_of (okL_iff.mp okb b hb) (so.good _ (em b hb))) h) (by rw [← ed]; exact so.al) (by rw [← ed]; exact so.so) hlen (fun b hb => by have := so.deep _ (em b hb); omega) fun out ho eo => ?_
  obtain ⟨ep, he'⟩ := PyProof.Rows.sortedAll_at s.heap its out.toArray
  have rv' := vals_of_each eo
  have hlen2 : ((bs.mergeSort aLe).map AT.val).length ≤ sizeLine := by
    rw [List.length_map, List.length_mergeSort]; exact hlen
  exact ⟨.ref _, upd H (s.heap.objs.size + 1) (.lst ((bs.mergeSort aLe).map AT.val)), I.laid (t' := s.toks) (fun _ _ => PyProof.Rows.sortedAll_old) (Nat.le_succ _) ⟨hlen2, out, ep, rv', he'⟩, rfl, q _ (I.hok.fresh (Nat.le_succ _))⟩
def sortF : T → Option (Kd × List T)
  | .box _ .lst xs => if srtB xs = true then some (.lst, srtT xs) else none
  | .box _ .scr xs => if srtB xs = true then some (.lst, srtT xs) else none
  | _ => none
theorem tok_sorted : TOK K (rSortedT K) sortF := by
  intro R H au Q ok
  unfold sortF
  split
  · trivial
  · rename_i k ys' e
    split at e
    all_goals first
      | (cases e; done)
      | (rename_i heq
         split at e
         · rename_i hb
           simp only [Option.some.injEq, Prod.mk.injEq] at e
           obtain ⟨rfl, rfl⟩ := e
           obtain ⟨p, xs, rfl, rfl⟩ := invB heq
           have pm := List.mergeSort_perm xs aLe
           refine ⟨xs.mergeSort aLe, erL_srt xs, okL_iff.mpr fun x hx => okL_iff.mp ok.2.1 x (pm.mem_iff.mp hx), trivial, fun b => by rw [cnL_perm (b := b) pm]; exact box_cn ok b, fun q => ⟨p, R, xs, rfl, ?_, ok.2.1, srts_of hb, q⟩⟩
           first
             | exact .of (ok_list ok)
             | exact ok_scr ok
         · cases e)
theorem ie_sorted {e : Expr} {g : S → RE} {p pos : Pos} (hu : X.A.units + 64 < cLine) (hm : X.mg "sorted" = none) (ha : IE X W e g) (hg : Gl X "sorted" := by rfl) (he : starEach [e] X.env = (false, eval e X.env) :: starEach [] X.env := by rfl) (hpl : (backTo pos (starEach [] X.env)).any (·.1) = false := by rfl) :
    IE X W (.Call (.Name "sorted" p) [e] [] pos) (takeE sortF g) := ie_takeB (cr_sortedT hu) tok_sorted ha (by decide +kernel) hm hg (by decide) (by decide) he hpl
end
end TL
namespace TL
open PySem PySem.Spec PyProof.Rows L2
section
variable {K : PySem.W.Frag} {X : Cx} {W : Wh}
/-! ### str(x), int(x) -/
def strF : List T → Option RV
  | [.atm (.int i)] => if i.natAbs.log2 < 1920 then some (.a (.str (toString i))) else none
  | [.atm (.str x)] => some (.a (.str x))
  | _ => none
def rStrU : RN := fun xs H Q => (∃ i, xs = [.int i] ∧ i.natAbs.log2 < 1920 ∧ Q (.str (toString i)) H) ∨ ∃ a, xs = [.str a] ∧ Q (.str a) H
theorem cr_strU : CallR X (.type "str") rStrU := CallR.or call_str_int SkE.call_str_str
theorem vok_str : VOK K rStrU strF := by
  intro R H aus Q ok
  unfold strF
  split
  · rename_i i e
    obtain ⟨a, rfl, ea⟩ := inv1 e
    obtain rfl := invA ea
    split
    · rename_i h
      exact ⟨rfl, fun q => .inl ⟨i, rfl, h, q⟩⟩
    · trivial
  · rename_i x e
    obtain ⟨a, rfl, ea⟩ := inv1 e
    obtain rfl := invA ea
    exact ⟨rfl, fun q => .inr ⟨x, rfl, q⟩⟩
  · trivial
theorem ie_str_of {e : Expr} {g : S → RE} {p pos : Pos} (hm : X.mg "str" = none) (ha : IE X W e g) (hg : Gl X "str" := by rfl) (he : starEach [e] X.env = (false, eval e X.env) :: starEach [] X.env := by rfl) (hpl : (backTo pos (starEach [] X.env)).any (·.1) = false := by rfl) :
    IE X W (.Call (.Name "str" p) [e] [] pos) (opE strF (argsG [g])) := ie_callT cr_strU vok_str (ia_cons ha ia_nil he) (by decide +kernel) hm hg (by decide) (by decide) he hpl
def intF : List T → Option RV
  | [.atm (.int i)] => some (.a (.int i))
  | [.atm (.bl b)] => some (.a (.int (if b then 1 else 0)))
  | [.atm (.str x)] => if x.length ≤ 640 then (PySem.intText? x).map fun n => .a (.int n) else none
  | _ => none
def rIntU : RN := fun xs H Q => ((∃ i, xs = [.int i] ∧ Q (.int i) H) ∨ ∃ k, xs = [.bl k] ∧ Q (.int (if k then 1 else 0)) H) ∨ ∃ a n, xs = [.str a] ∧ PySem.intText? a = some n ∧ a.length ≤ 640 ∧ Q (.int n) H
theorem cr_intU : CallR X (.type "int") rIntU := CallR.or call_int1 call_int_str
theorem vok_int : VOK K rIntU intF := by
  intro R H aus Q ok
  unfold intF
  split
  · rename_i i e
    obtain ⟨a, rfl, ea⟩ := inv1 e
    obtain rfl := invA ea
    exact ⟨rfl, fun q => .inl (.inl ⟨i, rfl, q⟩)⟩
  · rename_i b e
    obtain ⟨a, rfl, ea⟩ := inv1 e
    obtain rfl := invA ea
    exact ⟨rfl, fun q => .inl (.inr ⟨b, rfl, q⟩)⟩
  · rename_i x e
    obtain ⟨a, rfl, ea⟩ := inv1 e
    obtain rfl := invA ea
    split
    · rename_i h
      cases en : PySem.intText? x with
      | none => trivial
      | some n => exact ⟨rfl, fun q => .inr ⟨x, n, rfl, en, h, q⟩⟩
    · trivial
  · trivial
theorem ie_int_of {e : Expr} {g : S → RE} {p pos : Pos} (hm : X.mg "int" = none) (ha : IE X W e g) (hg : Gl X "int" := by rfl) (he : starEach [e] X.env = (false, eval e X.env) :: starEach [] X.env := by rfl) (hpl : (backTo pos (starEach [] X.env)).any (·.1) = false := by rfl) :
    IE X W (.Call (.Name "int" p) [e] [] pos) (opE intF (argsG [g])) := ie_callT cr_intU vok_int (ia_cons ha ia_nil he) (by decide +kernel) hm hg (by decide) (by decide) he hpl
/-! ### texts -/
def strsT : List T → Option (List Str)
  | [] => some []
  | .atm (.str x) :: ts => (strsT ts).map (x :: ·)
  | _ => none
theorem strsT_of : ∀ {xs : List AT} {ys : List Str}, strsT (AT.erL xs) = some ys → xs.map AT.val = ys.map V.str
  | [], ys, h => by simp only [AT.erL, strsT, Option.some.injEq] at h; subst h; rfl
  | x :: xs, ys, h => by
    cases x with
    | box o k a zs => simp [AT.erL, AT.er, strsT] at h
    | atm v =>
      cases v with
      | str x =>
        simp only [AT.erL, AT.er, strsT] at h
        cases e : strsT (AT.erL xs) with
        | none => rw [e] at h; cases h
        | some zs =>
          rw [e] at h
          simp only [Option.map_some, Option.some.injEq] at h
          subst h
          simp [AT.val, strsT_of e]
      | _ => simp [AT.erL, AT.er, strsT] at h
def joinV (x : Str) : Option (List Str) → Option RV
  | some ys => if (ys.map (·.length)).sum + ys.length * x.length ≤ 16777216 then some (.a (.str (Txt.join x ys))) else none
  | none => none
def joinF : List T → Option RV
  | [.atm (.str x), .box _ .lst ts] => joinV x (strsT ts)
  | [.atm (.str x), .box _ .tup ts] => joinV x (strsT ts)
  | _ => none
def rJoin (K : PySem.W.Frag) : V → List V → Hp → VK → Prop := fun x xs H Q => ∃ a p, ∃ ys : List Str, x = .str a ∧ xs = [.ref p] ∧ (SqL K H p (ys.map V.str) ∨ SqT K H p (ys.map V.str)) ∧
    (ys.map (·.length)).sum + ys.length * a.length ≤ 16777216 ∧ Q (.str (Txt.join a ys)) H
theorem vok_join : VOK K (rRecv (rJoin K)) joinF := by
  intro R H aus Q ok
  unfold joinF
  split
  · rename_i x o ts e
    obtain ⟨a, b, rfl, ea, eb⟩ := inv2 e
    obtain rfl := invA ea
    obtain ⟨p, ys, rfl, rfl⟩ := invB eb
    unfold joinV
    cases es : strsT (AT.erL ys) with
    | none => trivial
    | some zs =>
      simp only
      split
      · rename_i h
        exact ⟨rfl, fun q => ⟨_, _, rfl, x, p, zs, rfl, rfl, .inl (.of (by rw [← strsT_of es]; exact ok_list ok.2.1)), h, q⟩⟩
      · trivial
  · rename_i x o ts e
    obtain ⟨a, b, rfl, ea, eb⟩ := inv2 e
    obtain rfl := invA ea
    obtain ⟨p, ys, rfl, rfl⟩ := invB eb
    unfold joinV
    cases es : strsT (AT.erL ys) with
    | none => trivial
    | some zs =>
      simp only
      split
      · rename_i h
        exact ⟨rfl, fun q => ⟨_, _, rfl, x, p, zs, rfl, rfl, .inr (.of (by rw [← strsT_of es]; exact ok_tup ok.2.1)), h, q⟩⟩
      · trivial
  · trivial
theorem ie_join {o e : Expr} {g0 g : S → RE} {apos cpos : Pos} (ho : IE X W o g0) (ha : IE X W e g) (hbase : attributeBase o "join" X.env (eval o X.env) = eval o X.env := by rfl)
    (hfew : ((backTo cpos (starEach [e] X.env)).all (fun x => !x.1) && (backToKw cpos (keywordEach [] X.env)).all (fun x => x.1.isSome)
      && decide ([e].length + ([] : List Keyword).length + (if ([] : List Keyword).isEmpty then 0 else 1) < 30)) = true := by rfl)
    (hline : (apos.endLine == cpos.line) = true := by rfl) (hs : starEach [e] X.env = (false, eval e X.env) :: starEach [] X.env := by rfl) (hplain : (backTo cpos (starEach [] X.env)).any (·.1) = false := by rfl) :
    IE X W (.Call (.Attribute o "join" apos) [e] [] cpos) (opE joinF (argsG [chkE isStr g0, g])) := ie_meth PySem.F.plainAttrs_str PySem.F.slot_str_join PySem.F.type_str_join (fun _ _ _ => isStr_ty) mt_join vok_join ho (ia_cons ha ia_nil hs) hbase hfew hline hs hplain
/-! a text's test by another -/
def rS1 (f : Str → Str → Bool) : V → List V → Hp → VK → Prop := fun x xs H Q => ∃ a b, x = .str a ∧ xs = [.str b] ∧ Q (.bl (f a b)) H
def s1F (f : Str → Str → Bool) : List T → Option RV
  | [.atm (.str x), .atm (.str y)] => some (.a (.bl (f x y)))
  | _ => none
theorem vok_s1 {f : Str → Str → Bool} : VOK K (rRecv (rS1 f)) (s1F f) := by
  intro R H aus Q ok
  unfold s1F
  split
  · rename_i x y e
    obtain ⟨a, b, rfl, ea, eb⟩ := inv2 e
    obtain rfl := invA ea
    obtain rfl := invA eb
    exact ⟨rfl, fun q => ⟨_, _, rfl, x, y, rfl, rfl, q⟩⟩
  · trivial
theorem ie_startswith {o e : Expr} {g0 g : S → RE} {apos cpos : Pos} (ho : IE X W o g0) (ha : IE X W e g) (hbase : attributeBase o "startswith" X.env (eval o X.env) = eval o X.env := by rfl)
    (hfew : ((backTo cpos (starEach [e] X.env)).all (fun x => !x.1) && (backToKw cpos (keywordEach [] X.env)).all (fun x => x.1.isSome)
      && decide ([e].length + ([] : List Keyword).length + (if ([] : List Keyword).isEmpty then 0 else 1) < 30)) = true := by rfl)
    (hline : (apos.endLine == cpos.line) = true := by rfl) (hs : starEach [e] X.env = (false, eval e X.env) :: starEach [] X.env := by rfl) (hplain : (backTo cpos (starEach [] X.env)).any (·.1) = false := by rfl) :
    IE X W (.Call (.Attribute o "startswith" apos) [e] [] cpos) (opE (s1F Txt.startswith) (argsG [chkE isStr g0, g])) := ie_meth PySem.F.plainAttrs_str PySem.F.slot_str_startswith PySem.F.type_str_startswith (fun _ _ _ => isStr_ty) mt_startswith vok_s1 ho (ia_cons ha ia_nil hs) hbase hfew hline hs hplain
/-- a text split by another -/
def rSplit1 : V → List V → Hp → VK → Prop := fun x xs H Q => ∃ a b, x = .str a ∧ xs = [.str b] ∧ (b.length == 0) = false ∧ a.length + 2 ≤ sizeLine ∧ rNewStrs (Txt.split a b) H Q
def splitF : List T → Option RV
  | [.atm (.str x), .atm (.str y)] => if (y.length == 0) = false ∧ x.length + 2 ≤ sizeLine then some (.n .lst ((Txt.split x y).map fun z => .atm (.str z))) else none
  | _ => none
theorem vok_split : VOK K (rRecv rSplit1) splitF := by
  intro R H aus Q ok
  unfold splitF
  split
  · rename_i x y e
    obtain ⟨a, b, rfl, ea, eb⟩ := inv2 e
    obtain rfl := invA ea
    obtain rfl := invA eb
    split
    · rename_i h
      refine ⟨(Txt.split x y).map fun z => .atm (.str z), by rw [erL_map, List.map_map]; rfl, okL_iff.mpr fun t ht => ?_, trivial, fun q => ⟨_, _, rfl, x, y, rfl, rfl, h.1, h.2, fun p hp => ?_⟩⟩
      · obtain ⟨z, _, rfl⟩ := List.mem_map.mp ht
        exact rfl
      · have := q p hp
        simpa [Kd.ho, List.map_map, Function.comp_def, AT.val] using this
    · trivial
  · trivial
theorem ie_split {o e : Expr} {g0 g : S → RE} {apos cpos : Pos} (ho : IE X W o g0) (ha : IE X W e g) (hbase : attributeBase o "split" X.env (eval o X.env) = eval o X.env := by rfl)
    (hfew : ((backTo cpos (starEach [e] X.env)).all (fun x => !x.1) && (backToKw cpos (keywordEach [] X.env)).all (fun x => x.1.isSome)
      && decide ([e].length + ([] : List Keyword).length + (if ([] : List Keyword).isEmpty then 0 else 1) < 30)) = true := by rfl)
    (hline : (apos.endLine == cpos.line) = true := by rfl) (hs : starEach [e] X.env = (false, eval e X.env) :: starEach [] X.env := by rfl) (hplain : (backTo cpos (starEach [] X.env)).any (·.1) = false := by rfl) :
    IE X W (.Call (.Attribute o "split" apos) [e] [] cpos) (opE splitF (argsG [chkE isStr g0, g])) := ie_meth PySem.F.plainAttrs_str PySem.F.slot_str_split PySem.F.type_str_split (fun _ _ _ => isStr_ty) mt_split vok_split ho (ia_cons ha ia_nil hs) hbase hfew hline hs hplain
/-! ### d.get(k), d.get(k, x): of dicts of plain values -/
theorem isDct_ty {R : Addr → Prop} {H : Hp} {au : AT} (ok : au.ok K R H) (h : isDct au.er = true) : tyV K "dict" au.val H := by
  cases au with
  | atm v => simp [AT.er, isDct] at h
  | box o k p xs =>
    cases k <;> simp only [AT.er, isDct, reduceCtorEq] at h
    · exact .inr (.inr (.inl ⟨rfl, .inl ⟨_, (ok_dct ok).2⟩⟩))
    · exact .inr (.inr (.inl ⟨rfl, .inr ⟨_, (ok_dtp ok).2⟩⟩))
    all_goals (exact absurd h (by decide))
def rGet : V → List V → Hp → VK → Prop := fun x xs H Q => ∃ a y o, x = .ref a ∧ DGet H a y o ∧ ((xs = [y] ∧ Q (o.getD .non) H) ∨ ∃ z, xs = [y, z] ∧ Q (o.getD z) H)
theorem mt_get (hu : X.A.units + 1 < cLine) : MtR X "dict.get" rGet := by
  intro pins s σ H x xs v us Q I rx rs h
  obtain ⟨a, y, o, rfl, g, h⟩ := h
  cases rx
  rcases h with ⟨rfl, q⟩ | ⟨z, rfl, q⟩
  · cases rs with
    | cons r1 rs =>
      cases rs
      exact d_get1 hu I g r1 fun w' s' I' r' => ⟨_, H, I', r', q⟩
  · cases rs with
    | cons r1 rs =>
      cases rs with
      | cons r2 rs =>
        cases rs
        exact d_get2 hu I g r1 r2 fun w' s' I' r' => ⟨_, H, I', r', q⟩
def getV (xs : List T) (z : V) : Option Nat → Option RV
  | some j => match xs[j]? with
    | some (.atm v) => some (.a v)
    | _ => none
  | none => some (.a z)
def getF : List T → Option RV
  | [.box _ (.dct ks) xs, x] => match x.key with
    | some k => getV xs .non (idxK ks k)
    | none => none
  | [.box _ (.dct ks) xs, x, .atm z] => match x.key with
    | some k => if isAtm z = true then getV xs z (idxK ks k) else none
    | none => none
  | _ => none
theorem valV_none {κ : Type} [DecidableEq κ] : ∀ {ks : List κ} {vs : List V} {k : κ}, idxK ks k = none → valV (ks.zip vs) k = none
  | [], vs, k, _ => by simp [valV]
  | x :: ks, [], k, _ => by simp [valV]
  | x :: ks, v :: vs, k, h => by
    simp only [idxK] at h
    split at h
    · cases h
    · rename_i hx
      rw [List.zip_cons_cons, valV_neg (p := (x, v)) hx]
      exact valV_none (by simpa using h)
theorem vok_get : VOK K (rRecv rGet) getF := by
  intro R H aus Q ok
  unfold getF
  split
  · rename_i o ks ts x e
    obtain ⟨a, b, rfl, ea, rfl⟩ := inv2 e
    obtain ⟨p, ys, rfl, rfl⟩ := invB ea
    obtain ⟨h1, h2⟩ := ok_dct ok.1
    split
    · rename_i k ek
      cases ej : idxK ks k with
      | none => exact ⟨rfl, fun q => ⟨_, _, rfl, p, kV k, valV (ks.zip (ys.map AT.val)) k, rfl, .k h2, .inl ⟨by simp [key_of ek], by rw [valV_none ej]; exact q⟩⟩⟩
      | some j =>
        simp only [getV]
        split
        · rename_i v e5
          rw [erL_map, List.getElem?_map] at e5
          cases e6 : ys[j]? with
          | none => rw [e6] at e5; cases e5
          | some u =>
            rw [e6] at e5
            simp only [Option.map_some, Option.some.injEq] at e5
            obtain rfl := invA e5
            have := okL_iff.mp ok.1.2.1 _ (List.mem_of_getElem? e6)
            refine ⟨this, fun q => ⟨_, _, rfl, p, kV k, valV (ks.zip (ys.map AT.val)) k, rfl, .k h2, .inl ⟨by simp [key_of ek], ?_⟩⟩⟩
            rw [valV_idx (vs := ys.map AT.val) (v := v) ej (by rw [List.getElem?_map, e6]; rfl)]; exact q
        · trivial
    · trivial
  · rename_i o ks ts x z e
    obtain ⟨a, b, c, rfl, ea, rfl, ec⟩ := inv3 e
    obtain ⟨p, ys, rfl, rfl⟩ := invB ea
    obtain rfl := invA ec
    obtain ⟨h1, h2⟩ := ok_dct ok.1
    split
    · rename_i k ek
      split
      · rename_i hz
        cases ej : idxK ks k with
        | none => exact ⟨hz, fun q => ⟨_, _, rfl, p, kV k, valV (ks.zip (ys.map AT.val)) k, rfl, .k h2, .inr ⟨z, by simp only [List.map_cons, List.map_nil, key_of ek]; rfl, by rw [valV_none ej]; exact q⟩⟩⟩
        | some j =>
          simp only [getV]
          split
          · rename_i v e5
            rw [erL_map, List.getElem?_map] at e5
            cases e6 : ys[j]? with
            | none => rw [e6] at e5; cases e5
            | some u =>
              rw [e6] at e5
              simp only [Option.map_some, Option.some.injEq] at e5
              obtain rfl := invA e5
              have := okL_iff.mp ok.1.2.1 _ (List.mem_of_getElem? e6)
              refine ⟨this, fun q => ⟨_, _, rfl, p, kV k, valV (ks.zip (ys.map AT.val)) k, rfl, .k h2, .inr ⟨z, by simp only [List.map_cons, List.map_nil, key_of ek]; rfl, ?_⟩⟩⟩
              rw [valV_idx (vs := ys.map AT.val) (v := v) ej (by rw [List.getElem?_map, e6]; rfl)]; exact q
          · trivial
      · trivial
    · trivial
  · trivial
theorem ie_get {o e : Expr} {es : List Expr} {g0 : S → RE} {gs : List (S → RE)} {apos cpos : Pos} (hu : X.A.units + 1 < cLine) (ho : IE X W o g0) (ha : IA X W (e :: es) gs) (hbase : attributeBase o "get" X.env (eval o X.env) = eval o X.env := by rfl)
    (hfew : ((backTo cpos (starEach (e :: es) X.env)).all (fun x => !x.1) && (backToKw cpos (keywordEach [] X.env)).all (fun x => x.1.isSome)
      && decide ((e :: es).length + ([] : List Keyword).length + (if ([] : List Keyword).isEmpty then 0 else 1) < 30)) = true := by rfl)
    (hline : (apos.endLine == cpos.line) = true := by rfl) (hs : starEach (e :: es) X.env = (false, eval e X.env) :: starEach es X.env := by rfl) (hplain : (backTo cpos (starEach es X.env)).any (·.1) = false := by rfl) :
    IE X W (.Call (.Attribute o "get" apos) (e :: es) [] cpos) (opE getF (argsG (chkE isDct g0 :: gs))) := ie_meth PySem.F.plainAttrs_dict PySem.F.slot_dict_get PySem.F.type_dict_get (fun _ _ _ => isDct_ty) (mt_get hu) vok_get ho ha hbase hfew hline hs hplain
end
end TL
namespace TL
open PySem PySem.Spec PyProof.Rows L2
section
variable {K : PySem.W.Frag} {X : Cx} {W : Wh}
/-- a try whose body raises nothing -/
theorem is_tryC {body orelse : List Stmt} {h0 : ExceptHandler} {hs : List ExceptHandler} {f g : S → RS} {pos : Pos} (hn : X.nox = X) (hb : ISs X W body f) (ho : ISs X W orelse g) : IS X W (.Try body (h0 :: hs) orelse [] pos) (seqS f g) :=
  ⟨PS.mono (ps_try_thru (t := tS X.K W f) (u := tS X.K W g) (by rw [hn]; exact hb.ps) ho.ps) fun D σ H h => seq_sat h⟩
/-- a def of which nothing is asked -/
def botF (_ : List T) : RF := .fail
theorem fn_bot {P : Program} {w : World} {mg : Str → Option Value} {base : Heap} {CX : CXT} {k : Nat} {f : Addr} {fd : FuncData} {ps : List Str} {lm : List Bool} : FnOk P w K mg base CX k f fd ps (spT K lm botF) :=
  ⟨fun vs H Q E h => by
    obtain ⟨aus, R, _, _, _, _, _, h⟩ := h
    exact absurd h (by simp [botF]), fun A outer s H args us vs Q E hr he hb hv h => by
    obtain ⟨aus, R, _, _, _, _, _, h⟩ := h
    exact absurd h (by simp [botF])⟩
theorem mt_popU : MtM X "list.pop" rPopU := by
  intro pins s σ H x xs v us Q I rx rxs q
  rcases q with q | q
  · exact mt_pop pins s σ H x xs v us Q I rx rxs q
  · exact mt_popAt pins s σ H x xs v us Q I rx rxs q
end
end TL
namespace TL
open PySem PySem.Spec PyProof.Rows L2
/-! ## for over an owned list by its name: each thing by its place -/
def Sl.killH {α : Type} (k : Nat) : Sl α → Sl α
  | .al (.hd j) p => if j = k then .no else .al (.hd j) p
  | x => x
/-- the list at slot j becomes a hidden root -/
def hideS (j : Nat) (s : S) : Option S := match s.sl[j]? with
  | some (.t (.box true .lst xs)) => some (SS.put ⟨(s.put j .no).sl, s.hd ++ [.box true .lst xs]⟩ j (.al (.hd s.hd.length) []))
  | _ => none
/-- .. and comes back -/
def dropH (k : Nat) (s : S) : S := ⟨s.sl.map (Sl.killH k), s.hd.take k⟩
def showS (j k : Nat) (s : S) : Option S := match s.sl[j]?, s.hd[k]? with
  | some (.al (.hd k') []), some t => if k' = k ∧ s.hd.length = k + 1 then some ((dropH k s).put j (.t t)) else none
  | _, _ => none
def bindP (i k n m : Nat) (s : S) : Option S := match s.hd[k]? with
  | some (.box true .lst xs) => if xs.length = n ∧ i < s.sl.length then match xs[m]? with
    | some c => if c.allF = true then some (s.put i (.t c)) else some (s.put i (.al (.hd k) [m]))
    | none => none
    else none
  | _ => none
def lenH (k n : Nat) (s : S) : Bool := match s.hd[k]? with
  | some (.box true .lst xs) => decide (xs.length = n)
  | _ => false
def forPV (i k n : Nat) (f : S → RS) : Nat → S → RS
  | 0, s => if lenH k n s = true then .nx s else .fail
  | m + 1, s => match bindP i k n (n - (m + 1)) s with
    | some s1 => match f s1 with
      | .nx s2 => forPV i k n f m s2
      | .ct s2 => forPV i k n f m s2
      | .bk s2 => .nx s2
      | .rt t s2 => .rt t s2
      | .ex C fs s2 => .ex C fs s2
      | .fail => .fail
    | none => .fail
def endP (j k : Nat) : RS → RS
  | .nx s => match showS j k s with
    | some s1 => .nx s1
    | none => .fail
  | .rt t s => if s.hd.length = k + 1 then .rt t (dropH k s) else .fail
  | .ex C fs s => if s.hd.length = k + 1 then .ex C fs (dropH k s) else .fail
  | _ => .fail
def lenJ (j : Nat) (s : S) : Nat := match s.sl[j]? with
  | some (.t (.box _ _ xs)) => xs.length
  | _ => 0
def forP (j i : Nat) (f : S → RS) (s : S) : RS := match hideS j s with
  | some s1 => endP j s.hd.length (forPV i s.hd.length (lenJ j s) f (lenJ j s) s1)
  | none => .fail
section
variable {X : Cx} {W : Wh} {K : PySem.W.Frag} {G : Gr}
theorem killH_t {k j : Nat} {l : List (Sl AT)} {t : AT} (h : (l.map (Sl.killH k))[j]? = some (Sl.t t)) : l[j]? = some (Sl.t t) := by
  rw [List.getElem?_map] at h
  cases e : l[j]? with
  | none => rw [e] at h; cases h
  | some x =>
    rw [e] at h
    cases x with
    | no => simp [Sl.killH] at h
    | t u => simpa [Sl.killH] using h
    | al r p =>
      cases r with
      | sl i => simp [Sl.killH] at h
      | hd m => simp only [Option.map_some, Sl.killH] at h; split at h <;> cases h
theorem killH_al {k j : Nat} {l : List (Sl AT)} {r : Rt} {p : List Nat} (h : (l.map (Sl.killH k))[j]? = some (Sl.al r p)) : l[j]? = some (Sl.al r p) ∧ r ≠ .hd k := by
  rw [List.getElem?_map] at h
  cases e : l[j]? with
  | none => rw [e] at h; cases h
  | some x =>
    rw [e] at h
    cases x with
    | no => simp [Sl.killH] at h
    | t u => simp [Sl.killH] at h
    | al r0 p0 =>
      cases r0 with
      | sl i =>
        simp only [Option.map_some, Sl.killH, Option.some.injEq, Sl.al.injEq] at h
        obtain ⟨rfl, rfl⟩ := h
        exact ⟨rfl, by simp⟩
      | hd m =>
        simp only [Option.map_some, Sl.killH] at h
        split at h
        · cases h
        · rename_i hm
          simp only [Option.some.injEq, Sl.al.injEq] at h
          obtain ⟨rfl, rfl⟩ := h
          exact ⟨rfl, by simpa using hm⟩
theorem killHs_cn (b : Addr) (k : Nat) : ∀ l : List (Sl AT), cnS b (l.map (Sl.killH k)) = cnS b l
  | [] => rfl
  | x :: l => by
    have : (Sl.killH k x).cn b = x.cn b := by
      cases x with
      | no => rfl
      | t u => rfl
      | al r p => cases r with
        | sl i => rfl
        | hd m => simp only [Sl.killH]; split <;> rfl
    simp only [List.map_cons, cnS, this, killHs_cn b k l]
theorem killH_er (k : Nat) (x : Sl AT) : (Sl.killH k x).er = Sl.killH k x.er := by
  cases x with
  | no => rfl
  | t y => rfl
  | al r p => cases r with
    | sl j => rfl
    | hd j => by_cases h : j = k <;> simp [Sl.killH, Sl.er, h]
def dropHA (k : Nat) (A : AS) : AS := ⟨A.sl.map (Sl.killH k), A.hd.take k⟩
theorem dropH_er (k : Nat) (A : AS) : (dropHA k A).er = dropH k A.er := by
  simp only [dropHA, dropH, SS.er, List.map_map, erL_map, List.map_take]
  congr 1
  apply List.map_congr_left
  intro x _
  exact killH_er k x
/-- the last hidden root becomes a thing in hand -/
theorem Rel.unhd {A : AS} {pre : List AT} {t : AT} {Z : List AT} {R : Addr → Prop} {σ : L2.St} {H : Hp} (h : Rel K G A Z R σ H) (e : A.hd = pre ++ [t]) : Rel K G (dropHA pre.length A) (t :: Z) R σ H := by
  have et : (dropHA pre.length A).hd = pre := by simp [dropHA, e]
  have hh := h.okH
  rw [e] at hh
  obtain ⟨o1, o2⟩ := okL_append.mp hh
  have cn : ∀ b, (dropHA pre.length A).cn b + t.cn b = A.cn b := fun b => by
    simp only [SS.cn, et]
    have : A.hd = pre ++ [t] := e
    rw [this, cnL_append]
    simp only [dropHA, killHs_cn, AT.cnL]; omega
  have ga : ∀ (r : Rt) (p : List Nat) (u : AT), r ≠ .hd pre.length → A.ga r p = some u → (dropHA pre.length A).ga r p = some u := by
    intro r p u hr g
    have : (dropHA pre.length A).root r = A.root r := by
      cases r with
      | sl i =>
        simp only [SS.root, dropHA, List.getElem?_map]
        cases e2 : A.sl[i]? with
        | none => rfl
        | some x =>
          cases x with
          | no => rfl
          | t u => rfl
          | al r0 p0 => cases r0 with
            | sl i => rfl
            | hd m => by_cases hm : m = pre.length <;> simp [Sl.killH, hm]
      | hd m =>
        show (dropHA pre.length A).hd[m]? = A.hd[m]?
        rw [et, e]
        have hm : m ≠ pre.length := fun q => hr (by rw [q])
        by_cases hlt : m < pre.length
        · rw [List.getElem?_append_left hlt]
        · rw [List.getElem?_eq_none (by omega), List.getElem?_eq_none (by simp; omega)]
    simp only [SS.ga, this]
    exact g
  refine ⟨fun i u q => h.okS i u (killH_t q), by rw [et]; exact o1, ⟨o2.1, h.okZ⟩, fun b => by have := cn b; have := h.nd b; simp only [AT.cnL]; omega, h.tr, by simp [dropHA, h.len], fun i u q => h.slT i u (killH_t q), fun i r p q => ?_, h.gH, fun b hb => h.gO b (by have := cn b; simp only [AT.cnL] at hb; omega), h.gR, h.gS⟩
  obtain ⟨q1, q2⟩ := killH_al q
  obtain ⟨u, g, v⟩ := h.slA i r p q1
  exact ⟨u, ga r p u q2 g, v⟩
/-- a thing in hand becomes a hidden root -/
theorem Rel.tohd {A : AS} {t : AT} {Z : List AT} {R : Addr → Prop} {σ : L2.St} {H : Hp} (h : Rel K G A (t :: Z) R σ H) : Rel K G ⟨A.sl, A.hd ++ [t]⟩ Z R σ H := by
  have cn : ∀ b, (SS.mk A.sl (A.hd ++ [t]) : AS).cn b = A.cn b + t.cn b := fun b => by
    simp only [SS.cn, cnL_append, AT.cnL]; omega
  refine ⟨h.okS, okL_append.mpr ⟨h.okH, h.head, trivial⟩, h.okZ.2, fun b => by have := cn b; have := h.nd b; simp only [AT.cnL] at this; omega, h.tr, h.len, h.slT, fun i r p q => ?_, h.gH, fun b hb => h.gO b (by have := cn b; simp only [AT.cnL]; omega), h.gR, h.gS⟩
  obtain ⟨u, g, v⟩ := h.slA i r p q
  refine ⟨u, ?_, v⟩
  simp only [SS.ga] at g ⊢
  cases r with
  | sl i => exact g
  | hd m =>
    simp only [SS.root] at g ⊢
    cases e : A.hd[m]? with
    | none => rw [e] at g; cases g
    | some w =>
      rw [e] at g
      rw [List.getElem?_append_left (List.getElem?_eq_some_iff.mp e).1, e]
      exact g
theorem set_id {σ : L2.St} {j : Nat} {v : Option V} (h : σ[j]? = some v) : σ.set j v = σ := by
  apply List.ext_getElem?
  intro i
  by_cases e : j = i
  · subst e; rw [List.getElem?_set_self (List.getElem?_eq_some_iff.mp h).1, h]
  · rw [List.getElem?_set_ne e]
/-- a name's own tree in hand -/
theorem Rel.mv {A : AS} {Z : List AT} {R : Addr → Prop} {σ : L2.St} {H : Hp} {i : Nat} {au : AT} (r : Rel K G A Z R σ H) (e : A.sl[i]? = some (Sl.t au)) : Rel K G (A.put i .no) (au :: Z) R σ H := by
  have w := r.weak i
  have cnt : ∀ b, (A.put i .no).cn b + au.cn b = A.cn b := fun b => by
    have h1 : (A.sl.map (Sl.killR i))[i]? = some (Sl.t au) := by rw [List.getElem?_map, e]; rfl
    have h2 : ∀ (l : List (Sl AT)) (i : Nat), l[i]? = some (Sl.t au) → cnS b (l.set i .no) + au.cn b = cnS b l := by
      intro l
      induction l with
      | nil => intro i h; simp at h
      | cons y l ih =>
        intro i h
        cases i with
        | zero => simp at h; subst h; simp [cnS, Sl.cn]; omega
        | succ i => have := ih i (by simpa using h); simp [cnS]; omega
    have h3 := h2 _ i h1
    rw [killRs_cn] at h3
    simp only [SS.cn, SS.put]; omega
  exact ⟨w.okS, w.okH, ⟨r.okS i au e, w.okZ⟩, fun b => by have := cnt b; have := r.nd b; simp only [AT.cnL]; omega, w.tr, w.len, w.slT, w.slA, w.gH, fun b hb => r.gO b (by have := cnt b; simp only [AT.cnL] at hb; omega), w.gR, w.gS⟩
theorem hd_last {A2 : AS} {l : List V} {v : V} (h : hdv A2 = l ++ [v]) : ∃ pre t, A2.hd = pre ++ [t] ∧ pre.map AT.val = l ∧ t.val = v := by
  have hne : A2.hd ≠ [] := by rintro q; rw [hdv, q] at h; simp at h
  obtain ⟨pre, t, e⟩ : ∃ pre t, A2.hd = pre ++ [t] := ⟨_, _, (List.dropLast_concat_getLast hne).symm⟩
  rw [hdv, e, List.map_append] at h
  have := List.append_inj' h (by simp)
  exact ⟨pre, t, e, this.1, by simpa using this.2⟩
theorem endP_nx {A A2 : AS} {Z : List AT} {R2 : Addr → Prop} {σ2 : L2.St} {H2 : Hp} {D : Ends} {j : Nat} {v : V} (r2 : Rel K W.G A2 Z R2 σ2 H2) (hh : hdv A2 = hdv A ++ [v]) (s2 : SatS K W A Z D (endP j A.hd.length (.nx A2.er))) : D.nx σ2 H2 := by
  obtain ⟨pre, t, e, e1, e2⟩ := hd_last hh
  have hp : pre.length = A.hd.length := by have := congrArg List.length e1; simpa [hdv] using this
  simp only [endP, showS] at s2
  have eh : A2.er.hd[A.hd.length]? = some t.er := by simp [SS.er, e, erL_map, ← hp]
  rw [eh] at s2
  have es : A2.er.sl[j]? = (A2.sl[j]?).map Sl.er := by simp [SS.er]
  rw [es] at s2
  cases ej : A2.sl[j]? with
  | none => rw [ej] at s2; exact s2.elim
  | some x =>
    rw [ej] at s2
    cases x with
    | no => exact s2.elim
    | t u => exact s2.elim
    | al r p =>
      cases r with
      | sl i => exact s2.elim
      | hd k' =>
        cases p with
        | cons _ _ => exact s2.elim
        | nil =>
          simp only [Option.map_some, Sl.er] at s2
          by_cases hc : k' = A.hd.length ∧ A2.er.hd.length = A.hd.length + 1
          · rw [if_pos hc] at s2
            obtain ⟨rfl, _⟩ := hc
            have a := r2.unhd e
            rw [hp] at a
            obtain ⟨u, g, sv⟩ := r2.slA j _ _ ej
            have eu : u = t := by
              simp only [SS.ga, SS.root, e] at g
              rw [← hp] at g
              simpa [AT.get] using g.symm
            subst eu
            have hjl : j < (dropHA A.hd.length A2).sl.length := by simp [dropHA]; exact (List.getElem?_eq_some_iff.mp ej).1
            have b := Rel.put (Zc := [u]) j (.t u) (some u.val) a hjl (fun b => by simp [Sl.cn, AT.cnL]) (fun t q => by cases q; exact ⟨a.head, rfl⟩) fun _ _ q => nomatch q
            rw [set_id sv] at b
            refine s2 _ R2 σ2 H2 ?_ ?_ b
            · rw [put_er, dropH_er]; rfl
            · rw [put_hdv]; simp [hdv, dropHA, e, ← hp]; rw [← hdv, ← e1]
          · rw [if_neg hc] at s2; exact s2.elim
theorem endP_rt {A A2 : AS} {Z : List AT} {R2 : Addr → Prop} {σ2 : L2.St} {H2 : Hp} {D : Ends} {j : Nat} {v : V} {au : AT} (r2 : Rel K W.G A2 (au :: Z) R2 σ2 H2) (hh : hdv A2 = hdv A ++ [v]) (s2 : SatS K W A Z D (endP j A.hd.length (.rt au.er A2.er))) : D.rt au.val H2 := by
  obtain ⟨pre, t, e, e1, e2⟩ := hd_last hh
  have hp : pre.length = A.hd.length := by have := congrArg List.length e1; simpa [hdv] using this
  have hl : A2.er.hd.length = A.hd.length + 1 := by simp [SS.er, erL_length, e, hp]
  simp only [endP, hl, if_true] at s2
  have a := (r2.unhd e).drop
  rw [hp] at a
  refine s2 (dropHA A.hd.length A2) R2 σ2 H2 au (dropH_er _ _) ?_ rfl a
  simp [hdv, dropHA, e, ← hp]; rw [← hdv, ← e1]
theorem endP_ex {A A2 : AS} {Z : List AT} {R2 : Addr → Prop} {σ2 : L2.St} {H2 : Hp} {D : Ends} {j : Nat} {v : V} {C : Addr} {fs : Xf} {d : Addr} (r2 : Rel K W.G A2 [xdT d fs] R2 σ2 H2) (hh : hdv A2 = hdv A ++ [v]) (s2 : SatS K W A Z D (endP j A.hd.length (.ex C fs A2.er))) : W.x (.ref C) (some d) σ2 H2 := by
  obtain ⟨pre, t, e, e1, e2⟩ := hd_last hh
  have hp : pre.length = A.hd.length := by have := congrArg List.length e1; simpa [hdv] using this
  have hl : A2.er.hd.length = A.hd.length + 1 := by simp [SS.er, erL_length, e, hp]
  simp only [endP, hl, if_true] at s2
  have a := (r2.unhd e).drop
  rw [hp] at a
  refine s2 (dropHA A.hd.length A2) R2 σ2 H2 d (dropH_er _ _) ?_ a
  simp [hdv, dropHA, e, ← hp]; rw [← hdv, ← e1]
theorem forP_sat {i j : Nat} {f : S → RS} {D : Ends} {σ : L2.St} {H : Hp} (h : tS K W (forP j i f) D σ H) : tFor (iList K (tVar j)) (gName i) (tS K W f) D σ H := by
  obtain ⟨A, Z, R, r, s⟩ := h
  simp only [forP, hideS] at s
  have es : A.er.sl[j]? = (A.sl[j]?).map Sl.er := by simp [SS.er]
  rw [es] at s
  cases ej : A.sl[j]? with
  | none => rw [ej] at s; exact s.elim
  | some x =>
    rw [ej] at s
    cases x with
    | no => exact s.elim
    | al r0 p => exact s.elim
    | t au =>
      match au, ej, s with
      | .atm _, _, s => exact s.elim
      | .box false _ _ _, _, s => exact s.elim
      | .box true .tup _ _, _, s => exact s.elim
      | .box true (.dct _) _ _, _, s => exact s.elim
      | .box true (.dtp _) _ _, _, s => exact s.elim
      | .box true (.ins _ _) _ _, _, s => exact s.elim
      | .box true (.exd _) _ _, _, s => exact s.elim
      | .box true .scr _ _, _, s => exact s.elim
      | .box true .lst p ys, ej, s =>
        simp only [Option.map_some, Sl.er, AT.er] at s
        have hj : j < A.sl.length := (List.getElem?_eq_some_iff.mp ej).1
        have hn : lenJ j A.er = ys.length := by
          unfold lenJ; rw [es, ej]; simp [Sl.er, AT.er, erL_length]
        have hk : A.er.hd.length = A.hd.length := by simp [SS.er, erL_length]
        rw [hn, hk] at s
        have sv := r.slT j _ ej
        have r1 := Rel.put (Zc := []) j (.al (.hd A.hd.length) []) (some (AT.box true .lst p ys).val) ((r.mv ej).tohd) (by simp [SS.put]; exact hj) (fun b => by simp [Sl.cn]) (fun _ q => nomatch q) (fun r0 p0 q => by
          cases q
          exact ⟨by simp, _, by simp [SS.ga, SS.root, SS.put, AT.get], rfl⟩)
        rw [set_id sv] at r1
        generalize hA1 : SS.put ⟨(A.put j .no).sl, (A.put j .no).hd ++ [AT.box true .lst p ys]⟩ j (.al (.hd A.hd.length) []) = A1 at r1
        have hh1 : hdv A1 = hdv A ++ [.ref p] := by rw [← hA1]; simp [hdv, SS.put, AT.val]
        have ea1 : A1.er = SS.put ⟨(A.er.put j .no).sl, A.er.hd ++ [T.box true .lst (AT.erL ys)]⟩ j (.al (.hd A.hd.length) []) := by
          rw [← hA1, put_er]
          have : (⟨(A.put j .no).sl, (A.put j .no).hd ++ [AT.box true .lst p ys]⟩ : AS).er = ⟨(A.er.put j .no).sl, A.er.hd ++ [T.box true .lst (AT.erL ys)]⟩ := by
            have q := put_er A j .no
            have q1 : ((A.put j .no).er).sl = (A.er.put j .no).sl := by rw [q]; rfl
            have q2 : (A.put j .no).hd = A.hd := rfl
            show SS.mk _ _ = SS.mk _ _
            rw [← q1, q2, erL_append]; rfl
          rw [this]; rfl
        rw [← ea1] at s
        refine ⟨_, sv, p, rfl, ⟨_, .of (ok_list (r.okS j _ ej))⟩, fun idx m σ2 H2 => ∃ A2 R2, Rel K W.G A2 Z R2 σ2 H2 ∧ hdv A2 = hdv A ++ [.ref p] ∧ idx + m = ys.length ∧ SatS K W A Z D (endP j A.hd.length (forPV i A.hd.length ys.length f m A2.er)), ⟨ys.length, A1, R, r1, hh1, by omega, s⟩, ?_⟩
        rintro idx m σ2 H2 ⟨A2, R2, r2, hh2, hm, s2⟩
        obtain ⟨pre, t, e, e1, e2⟩ := hd_last hh2
        have hp : pre.length = A.hd.length := by have := congrArg List.length e1; simpa [hdv] using this
        have eh : A2.hd[A.hd.length]? = some t := by rw [e, ← hp]; simp
        have eh2 : A2.er.hd[A.hd.length]? = some t.er := by simp only [SS.er, erL_map, List.getElem?_map, eh]; rfl
        cases m with
        | zero =>
          simp only [forPV] at s2
          by_cases hl : lenH A.hd.length ys.length A2.er = true
          · rw [if_pos hl] at s2
            refine .inl ⟨?_, endP_nx r2 hh2 s2⟩
            unfold lenH at hl
            rw [eh2] at hl
            split at hl
            · rename_i xs q
              obtain ⟨p2, ys2, rfl, rfl⟩ := invB (Option.some.inj q)
              cases e2
              refine ⟨_, .of (ok_list (r2.root_ok (r := .hd A.hd.length) eh)), ?_⟩
              simp [erL_length] at hl
              simp; omega
            · cases hl
          · rw [if_neg hl] at s2; exact s2.elim
        | succ m =>
          have ei : ys.length - (m + 1) = idx := by omega
          simp only [forPV, bindP, eh2, ei] at s2
          cases t with
          | atm v => exact s2.elim
          | box o k p2 ys2 =>
            cases o with
            | false => cases k <;> exact s2.elim
            | true =>
              cases k with
              | lst =>
                cases e2
                simp only [AT.er, erL_length] at s2
                by_cases hc : ys2.length = ys.length ∧ i < A2.er.sl.length
                · rw [if_pos hc] at s2
                  have hidx : idx < ys2.length := by omega
                  have ex : ys2[idx]? = some ys2[idx] := List.getElem?_eq_getElem hidx
                  generalize ys2[idx] = x0 at ex
                  have okb := r2.root_ok (r := .hd A.hd.length) eh
                  have okx := okL_iff.mp okb.2.1 x0 (List.mem_of_getElem? ex)
                  have sq : SqL K H2 p (ys2.map AT.val) := .of (ok_list okb)
                  have gx : (ys2.map AT.val)[idx]? = some x0.val := by rw [List.getElem?_map, ex]; rfl
                  have il : i < A2.sl.length := by have := hc.2; simpa [SS.er] using this
                  have et : (AT.erL ys2)[idx]? = some x0.er := by rw [erL_map, List.getElem?_map, ex]; rfl
                  simp only [et] at s2
                  refine .inr ⟨⟨_, _, sq, gx⟩, _, fun σ' H' h => ⟨m, by omega, h⟩, fun x H3 hy => ?_⟩
                  obtain ⟨rfl, hy⟩ := hy
                  have := hy _ sq
                  rw [gx] at this
                  obtain rfl := Option.some.inj this
                  show tS K W f _ (σ2.set i (some x0.val)) H3
                  have main : ∀ A3, Rel K W.G A3 Z R2 (σ2.set i (some x0.val)) H3 → hdv A3 = hdv A2 → SatS K W A Z D (endP j A.hd.length (match f A3.er with
                      | .nx s2 => forPV i A.hd.length ys.length f m s2
                      | .ct s2 => forPV i A.hd.length ys.length f m s2
                      | .bk s2 => .nx s2
                      | .rt t s2 => .rt t s2
                      | .ex C fs s2 => .ex C fs s2
                      | .fail => .fail)) → tS K W f { D with nx := fun σ' H' => ∃ A2 R2, Rel K W.G A2 Z R2 σ' H' ∧ hdv A2 = hdv A ++ [.ref p] ∧ idx + 1 + m = ys.length ∧ SatS K W A Z D (endP j A.hd.length (forPV i A.hd.length ys.length f m A2.er)), ct := fun σ' H' => ∃ A2 R2, Rel K W.G A2 Z R2 σ' H' ∧ hdv A2 = hdv A ++ [.ref p] ∧ idx + 1 + m = ys.length ∧ SatS K W A Z D (endP j A.hd.length (forPV i A.hd.length ys.length f m A2.er)), bk := D.nx } (σ2.set i (some x0.val)) H3 := by
                    intro A3 r3 hh3 s3
                    refine ⟨A3, Z, R2, r3, ?_⟩
                    cases e3 : f A3.er with
                    | nx s4 => rw [e3] at s3; exact fun A4 R5 σ4 H5 ea4 hh4 r5 => ⟨A4, R5, r5, hh4.trans (hh3.trans hh2), by omega, by rw [ea4]; exact s3⟩
                    | ct s4 => rw [e3] at s3; exact fun A4 R5 σ4 H5 ea4 hh4 r5 => ⟨A4, R5, r5, hh4.trans (hh3.trans hh2), by omega, by rw [ea4]; exact s3⟩
                    | bk s4 => rw [e3] at s3; exact fun A4 R5 σ4 H5 ea4 hh4 r5 => endP_nx (A := A) (D := D) r5 (hh4.trans (hh3.trans hh2)) (by rw [ea4]; exact s3)
                    | rt t s4 => rw [e3] at s3; exact fun A4 R5 σ4 H5 au4 ea4 hh4 et4 r5 => endP_rt (A := A) (D := D) r5 (hh4.trans (hh3.trans hh2)) (by rw [ea4, et4]; exact s3)
                    | ex C fs s4 => rw [e3] at s3; exact fun A4 R5 σ4 H5 d ea4 hh4 r5 => endP_ex (A := A) (D := D) r5 (hh4.trans (hh3.trans hh2)) (by rw [ea4]; exact s3)
                    | fail => rw [e3] at s3; exact s3.elim
                  by_cases hf : x0.er.allF = true
                  · rw [if_pos hf] at s2
                    have r3 := Rel.put (Zc := [x0]) i (.t x0) (some x0.val) (r2.dup okx hf) il (fun b => by simp [Sl.cn, AT.cnL]) (fun t q => by cases q; exact ⟨okx, rfl⟩) fun _ _ q => nomatch q
                    exact main _ r3 (put_hdv _ _ _) (by rw [put_er]; exact s2)
                  · rw [if_neg hf] at s2
                    have r3 := Rel.put (Zc := []) i (.al (.hd A.hd.length) [idx]) (some x0.val) r2 il (fun b => by simp [Sl.cn]) (fun _ q => nomatch q) (fun r0 p0 q => by
                      cases q
                      exact ⟨by simp, x0, by simp [SS.ga, SS.root, eh, AT.get, ex], rfl⟩)
                    exact main _ r3 (put_hdv _ _ _) (by rw [put_er]; exact s2)
                · rw [if_neg hc] at s2; exact s2.elim
              | _ => exact s2.elim
theorem is_forP (j i : Nat) {x y : Str} {body : List Stmt} {f : S → RS} {px py pos : Pos} (hp : PassesOwn (model X.prog X.w) X.A X.env X.xe) (hc : X.calm = true) (hN : X.N.Nodup) (hb : ISs X W body f) (hi : X.N[i]? = some x := by rfl) (hx : Loc X.env.scope x := by first | exact Or.inl rfl | exact Or.inr rfl)
    (hfn : X.fn x = true ∨ X.env.scope.names.lookup x = some .local := by first | exact .inl rfl | exact .inr rfl) (hj : X.N[j]? = some y := by rfl) (hv : Vis X.env.scope y := by first | exact Or.inl rfl | exact Or.inr (Or.inl rfl) | exact Or.inr (Or.inr rfl)) (hd : (y == ("__debug__" : Str)) = false := by decide)
    (hcd : (y == ("__classdict__" : Str)) = false := by decide) (hs : ∀ z, foldedSetIterable (.Name y py) X.env z = pure z := by intro _; rfl) : IS X W (.For (.Name x px) (.Name y py) body [] pos) (forP j i f) :=
  ⟨PS.mono (ps_for hp hc (pi_list (pe_var hj hv hd hcd)) (pg_name hN hi hx hfn) hb.ps hs) fun D σ H q => forP_sat q⟩
end
end TL
namespace TL
open PySem PySem.Spec PyProof.Rows L2
/-! ## {k: v} -/
def disp1E (gk gv : S → RE) (s : S) : RE := match gk s with
  | .ok (.v k) _ s1 => match k.key with
    | some key => match gv s1 with
      | .ok (.v t) _ s2 => .ok (.v (.box true (.dct [key]) [t])) .many s2
      | .ok (.p _ _) _ _ => .fail
      | .ex C fs s' => .ex C fs s'
      | .fail => .fail
    | none => .fail
  | .ok (.p _ _) _ _ => .fail
  | .ex C fs s' => .ex C fs s'
  | .fail => .fail
section
variable {X : Cx} {W : Wh} {K : PySem.W.Frag} {G : Gr}
theorem killH_id {A : AS} {Z : List AT} {R : Addr → Prop} {σ : L2.St} {H : Hp} (h : Rel K G A Z R σ H) : A.sl.map (Sl.killH A.hd.length) = A.sl := by
  apply List.ext_getElem?
  intro i
  rw [List.getElem?_map]
  cases e : A.sl[i]? with
  | none => rfl
  | some x =>
    cases x with
    | no => rfl
    | t u => rfl
    | al r p =>
      cases r with
      | sl j => rfl
      | hd m =>
        have hm : m ≠ A.hd.length := by
          rintro rfl
          obtain ⟨u, g, _⟩ := h.slA i _ _ e
          simp [SS.ga, SS.root] at g
        simp [Sl.killH, hm]
/-- a box in hand is filled -/
theorem Rel.fill {A : AS} {k : Kd} {p : Addr} {au : AT} {key : Key} {Z : List AT} {R : Addr → Prop} {σ : L2.St} {H : Hp} (h : Rel K G A (au :: .box true k p [] :: Z) R σ H) :
    ∃ A' au', A'.er = A.er ∧ hdv A' = hdv A ∧ au'.er = au.er ∧ au'.val = au.val ∧ Rel K G A' (.box true (.dct [key]) p [au'] :: Z) R σ (upd H p (.dK [(key, au.val)])) := by
  have h1 := (h.perm (List.Perm.swap _ _ _)).tohd
  have g : (SS.mk A.sl (A.hd ++ [AT.box true k p []]) : AS).ga (.hd A.hd.length) [] = some (AT.box true k p []) := by simp [SS.ga, SS.root, AT.get]
  obtain ⟨A', e1, kp, r⟩ := Rel.box (Zc := [au]) (Zo := []) (r := .hd A.hd.length) (q := []) (k' := .dct [key]) (ys := [au]) (Z := Z) false h1 g (by simp [Kd.fits]) ⟨h.head, trivial⟩ trivial (fun b => by simp [AT.cnL]) (fun _ i x e => by simp at e)
  have hv := kp.hdv
  have hv2 : hdv A' = hdv A ++ [.ref p] := by rw [hv]; simp [hdv, AT.val]
  obtain ⟨pre, t, e, e3, e4⟩ := hd_last hv2
  have hp : pre.length = A.hd.length := by have := congrArg List.length e3; simpa [hdv] using this
  have r2 := r.unhd e
  have e5 : A'.er = ⟨A.er.sl, A.er.hd ++ [T.box true (.dct [key]) [au.er]]⟩ := by
    rw [e1]
    have q : (SS.mk A.sl (A.hd ++ [AT.box true k p []]) : AS).er = ⟨A.er.sl, A.er.hd ++ [T.box true k []]⟩ := by simp [SS.er, erL_append, AT.erL, AT.er]
    rw [q]
    have hk : A.hd.length = A.er.hd.length := by simp [SS.er, erL_length]
    rw [hk]
    simp [S.upd, SS.root, SS.setR, T.md, AT.erL]
  have eA : (dropHA pre.length A').er = A.er := by
    rw [dropH_er, e5, hp]
    have hk : A.hd.length = A.er.hd.length := by simp [SS.er, erL_length]
    have q1 : A.er.sl.map (Sl.killH A.hd.length) = A.er.sl := by
      show (A.sl.map Sl.er).map (Sl.killH A.hd.length) = A.sl.map Sl.er
      rw [List.map_map]
      have : (A.sl.map (Sl.killH A.hd.length)).map Sl.er = A.sl.map Sl.er := by rw [killH_id h]
      rw [List.map_map] at this
      rw [← this]
      exact List.map_congr_left fun x _ => (killH_er _ x).symm
    simp only [dropH, q1]
    rw [hk]; simp
  have et : t.er = .box true (.dct [key]) [au.er] := by
    have q : A'.er.hd = AT.erL pre ++ [t.er] := by simp [SS.er, e, erL_append, AT.erL]
    rw [e5] at q
    have := List.append_inj' q (by simp)
    simpa using this.2.symm
  obtain ⟨p2, ys, rfl, ey⟩ := invB et
  cases e4
  obtain ⟨au', rfl, ea'⟩ := inv1 ey
  have hval : au'.val = au.val := by
    have := (ok_dct r2.head).2
    rw [upd_same] at this
    simpa [Kd.ho] using this.symm
  refine ⟨dropHA pre.length A', au', eA, ?_, ea', hval, ?_⟩
  · simp [hdv, dropHA, e]; rw [← hdv, ← e3]
  · simpa [Kd.ho] using r2
theorem disp1_sat {gk gv : S → RE} {σ : L2.St} {H : Hp} {Q : VK} (h : tE K W (disp1E gk gv) σ H Q) : tDisp [(tE K W gk, tE K W gv)] σ H Q := by
  obtain ⟨A, Z, R, r, s⟩ := h
  intro p hp
  have r0 : Rel K W.G A (.box true (.dct []) p [] :: Z) R σ (upd H p (.dK [])) := r.new (k := .dct []) (xs := []) hp ⟨rfl, upd_same⟩ trivial r.okZ fun b => by simp [AT.cnL]
  refine ⟨A, .box true (.dct []) p [] :: Z, R, r0, ?_⟩
  simp only [disp1E] at s
  cases e1 : gk A.er with
  | fail => rw [e1] at s; exact s
  | ex C fs s1 => rw [e1] at s; exact s
  | ok ev m s1 =>
    rw [e1] at s
    cases ev with
    | p r0 q => exact s.elim
    | v k =>
      intro A1 R1 H1 au ea k1 et r1
      subst ea et
      simp only at s
      cases ek : au.er.key with
      | none => rw [ek] at s; exact s.elim
      | some key =>
        rw [ek] at s
        simp only at s
        refine ⟨A1, .box true (.dct []) p [] :: Z, R1, r1.drop, ?_⟩
        cases e2 : gv A1.er with
        | fail => rw [e2] at s; exact s.elim
        | ex C fs s2 => rw [e2] at s; exact SatX.of k1 s
        | ok ev2 m2 s2 =>
          rw [e2] at s
          cases ev2 with
          | p r0 q => exact s.elim
          | v t =>
            intro A2 R2 H2 au2 ea2 k2 et2 r2
            subst ea2 et2
            have hH : H2 p = some (.dK []) := by simpa using (ok_dct r2.okZ.2.1).2
            refine ⟨hH, [(key, au2.val)], by simp [key_of ek], by simp, ?_⟩
            obtain ⟨A3, au3, q1, q2, q3, q4, r3⟩ := r2.fill (key := key)
            have hm : mergeK [] [(key, au2.val)] = [(key, au2.val)] := by simp [mergeK, putK]
            rw [hm]
            exact s A3 R2 _ (.box true (.dct [key]) p [au3]) q1 (q2.trans (k2.hdv.trans k1.hdv)) (by simp [AT.er, AT.erL, q3]) r3
theorem ie_disp1 {ek ev : Expr} {gk gv : S → RE} {pos : Pos} (hk : IE X W ek gk) (hv : IE X W ev gv) : IE X W (.Dict [some ek] [ev] pos) (disp1E gk gv) :=
  ⟨PE.mono (pe_disp (pps_cons hk.pe hv.pe pps_nil) rfl rfl (by simp) (by simp)) fun σ H Q h => disp1_sat h⟩
end
end TL
namespace TL
open PySem PySem.Spec L2
noncomputable section
def f_turns_places_at : S → RS :=
    (seqS (asgS 1 dnE)
    (seqS (forS (iEn (fzE (rdE 0))) (bT 2 (bCons (bN 2) (bCons (bN 3) bNil))) (forS (iL (fzE (rdE 3))) (bN 4) (stS (argsG [(fzE (rdE 2)), (rdE 1), (rdE 4)]))))
    (retS (mvE 1))))
def F_turns_places_at : List T → RF := runF [false] 5 f_turns_places_at
def f_pieces_reached : S → RS :=
    (seqS (asgS 3 (disp1E (rdE 2) (kE (.bl true))))
    (seqS (asgS 4 (dspE .lst (argsG [(fzE (rdE 2))])))
    (seqS (asgS 5 (kE (.int 0)))
    (seqS (whileS (tstE (opE ltF (argsG [(rdE 5), (opE lenF (argsG [(rdE 4)]))]))) (seqS (forS (iL (fzE (idxE (argsG [(rdE 0), (idxE (argsG [(rdE 4), (rdE 5)]))])))) (bN 6) (seqS (asgS 7 (idxE (argsG [(rdE 1), (opE negF (argsG [(rdE 6)]))])))
    (ifS (tstE (opE (inF true) (argsG [(rdE 7), (rdE 3)]))) (seqS (stS (argsG [(kE (.bl true)), (rdE 3), (rdE 7)]))
    (exprS (mutE appF (rdE 4) (argsG [(fzE (rdE 7))])))) nxS)))
    (asgS 5 (opE addF (argsG [(rdE 5), (kE (.int 1))])))))
    (retS (takeE sortF (mvE 4)))))))
def F_pieces_reached : List T → RF := runF [false, false, false] 8 f_pieces_reached
def f_pieces_pieces : S → RS :=
    (seqS (asgS 1 (fzE (callE [false] F_turns_places_at (argsG [(rdE 0)]))))
    (seqS (asgS 2 dnE)
    (seqS (asgS 3 (dspE .lst (argsG [])))
    (seqS (forS (iR1 (argsG [(opE lenF (argsG [(rdE 0)]))])) (bN 4) (ifS (tstE (opE (inF true) (argsG [(rdE 4), (rdE 2)]))) (seqS (asgS 5 (fzE (callE [false, false, false] F_pieces_reached (argsG [(rdE 0), (rdE 1), (rdE 4)]))))
    (seqS (clrS [6] (forS (iL (fzE (rdE 5))) (bN 6) (stS (argsG [(kE (.bl true)), (rdE 2), (rdE 6)]))))
    (exprS (mutE appF (rdE 3) (argsG [(lcE (iL (fzE (rdE 5))) (bN 6) yesT (takeE listF (idxE (argsG [(rdE 0), (rdE 6)]))) [6])]))))) nxS))
    (retS (mvE 3))))))
def F_pieces_pieces : List T → RF := runF [false] 7 f_pieces_pieces
end
end TL
namespace TL
open PySem PySem.Spec L2
noncomputable section
def f_k11_law_cell : S → RS :=
    (seqS (ifS (tstE (opE ltF (argsG [(rdE 1), (opE lenF (argsG [(rdE 0)]))]))) (retS (fzE (idxE (argsG [(rdE 0), (rdE 1)])))) nxS)
    (retS (kE (.int 0))))
def F_k11_law_cell : List T → RF := runF [false, false] 2 f_k11_law_cell
def f_k11_law_names : S → RS :=
    (seqS (asgS 1 (kE (.int 1)))
    (seqS (asgS 2 (kE (.int 0)))
    (seqS (ifS (tstE (opE gtF (argsG [(opE modF (argsG [(callE [false, false] F_k11_law_cell (argsG [(rdE 0), (kE (.int 0))])), (kE (.int 3))])), (kE (.int 0))]))) (seqS (asgS 1 (opE addF (argsG [(kE (.int 1)), (opE modF (argsG [(callE [false, false] F_k11_law_cell (argsG [(rdE 0), (kE (.int 1))])), (opE powF (argsG [(kE (.int 10)), (kE (.int 58))]))]))])))
    (asgS 2 (opE modF (argsG [(callE [false, false] F_k11_law_cell (argsG [(rdE 0), (kE (.int 2))])), (opE powF (argsG [(kE (.int 10)), (kE (.int 58))]))])))) nxS)
    (seqS (asgS 3 (opE addF (argsG [(kE (.int 1)), (opE modF (argsG [(opE fdivF (argsG [(callE [false, false] F_k11_law_cell (argsG [(rdE 0), (kE (.int 0))])), (kE (.int 3))])), (kE (.int 66))]))])))
    (seqS (asgS 4 (opE modF (argsG [(opE fdivF (argsG [(callE [false, false] F_k11_law_cell (argsG [(rdE 0), (kE (.int 0))])), (kE (.int 198))])), (kE (.int 67))])))
    (retS (lcE (iR1 (argsG [(kE (.int 66))])) (bN 5) yesT (opE addF (argsG [(opE mulF (argsG [(rdE 1), (opE addF (argsG [(opE modF (argsG [(opE addF (argsG [(opE mulF (argsG [(rdE 3), (rdE 5)])), (rdE 4)])), (kE (.int 67))])), (kE (.int 1))]))])), (rdE 2)])) [5])))))))
def F_k11_law_names : List T → RF := runF [false] 6 f_k11_law_names
def f_k11_law_parts : S → RS :=
    (seqS (asgS 2 (dspE .lst (argsG [(dspE .lst (argsG [(dspE .lst (argsG []))]))])))
    (seqS (asgS 3 (dspE .lst (argsG [(kE (.int 0))])))
    (seqS (asgS 4 (dspE .lst (argsG [])))
    (seqS (asgS 5 (kE (.int 0)))
    (seqS (forS (iL (fzE (rdE 0))) (bN 6) (seqS (asgS 7 (opE modF (argsG [(rdE 6), (kE (.int 8))])))
    (seqS (asgS 8 (idxE (argsG [(idxE (argsG [(rdE 2), (opE negF (argsG [(kE (.int 1))]))])), (idxE (argsG [(rdE 3), (opE negF (argsG [(kE (.int 1))]))]))])))
    (seqS (asgS 9 (idxE (argsG [(rdE 1), (rdE 5)])))
    (seqS (ifS (tstE (opE (eqF false) (argsG [(opE modF (argsG [(opE fdivF (argsG [(rdE 6), (kE (.int 8))])), (kE (.int 2))])), (kE (.int 1))]))) (asgS 9 (opE negF (argsG [(rdE 9)]))) nxS)
    (ifS (tstE (opE ltF (argsG [(rdE 7), (kE (.int 4))]))) (seqS (exprS (mutE appF (rdE 8) (argsG [(fzE (rdE 9))])))
    (seqS (asgS 5 (opE addF (argsG [(rdE 5), (kE (.int 1))])))
    (ifS (tstE (opE ltF (argsG [(rdE 7), (kE (.int 2))]))) (exprS (mutE appF (rdE 4) (argsG [(opE negF (argsG [(rdE 9)]))]))) (seqS (exprS (mutE appF (rdE 3) (argsG [(opE lenF (argsG [(idxE (argsG [(rdE 2), (opE negF (argsG [(kE (.int 1))]))]))]))])))
    (exprS (mutE appF (idxE (argsG [(rdE 2), (opE negF (argsG [(kE (.int 1))]))])) (argsG [(dspE .lst (argsG [(opE negF (argsG [(rdE 9)]))]))]))))))) (ifS (tstE (opE ltF (argsG [(rdE 7), (kE (.int 6))]))) (ifS (truE (rdE 4)) (exprS (mutE appF (rdE 8) (argsG [(mutE popF (rdE 4) (argsG [(opE modF (argsG [(opE fdivF (argsG [(rdE 6), (kE (.int 16))])), (opE lenF (argsG [(rdE 4)]))]))]))]))) nxS) (ifS (tstE (opE (eqF false) (argsG [(rdE 7), (kE (.int 6))]))) (ifS (tstE (opE gtF (argsG [(opE lenF (argsG [(rdE 3)])), (kE (.int 1))]))) (exprS (mutE popF (rdE 3) (argsG []))) nxS) (seqS (exprS (mutE extF (rdE 8) (argsG [(fzE (rdE 4))])))
    (seqS (asgS 4 (dspE .lst (argsG [])))
    (seqS (exprS (mutE appF (rdE 2) (argsG [(dspE .lst (argsG [(dspE .lst (argsG []))]))])))
    (asgS 3 (dspE .lst (argsG [(kE (.int 0))]))))))))))))))
    (seqS (exprS (mutE extF (idxE (argsG [(idxE (argsG [(rdE 2), (opE negF (argsG [(kE (.int 1))]))])), (idxE (argsG [(rdE 3), (opE negF (argsG [(kE (.int 1))]))]))])) (argsG [(fzE (rdE 4))])))
    (retS (mvE 2))))))))
def F_k11_law_parts : List T → RF := runF [false, false] 10 f_k11_law_parts
def f_k11_law_turn : S → RS :=
    (seqS (ifS (notT (truE (rdE 0))) (retS (dspE .lst (argsG []))) nxS)
    (seqS (asgS 1 (fzE (opE idxF (argsG [chkE isL (rdE 0), (opE minF (argsG [(rdE 0)]))]))))
    (retS (opE addF (argsG [(opE slLF (argsG [(rdE 0), (rdE 1)])), (opE slUF (argsG [(rdE 0), (rdE 1)]))])))))
def F_k11_law_turn : List T → RF := runF [false] 2 f_k11_law_turn
def f_k11_law_map : S → RS :=
    (retS (takeE sortF (lcE (iL (fzE (rdE 0))) (bN 1) yesT (callE [false] F_k11_law_turn (argsG [(rdE 1)])) [1])))
def F_k11_law_map : List T → RF := runF [false] 2 f_k11_law_map
def f_k11_law_all : S → RS :=
    (seqS (asgS 1 (dspE .lst (argsG [])))
    (seqS (forS (iL (fzE (rdE 0))) (bN 2) (exprS (mutE extF (rdE 1) (argsG [(fzE (rdE 2))]))))
    (retS (mvE 1))))
def F_k11_law_all : List T → RF := runF [false] 3 f_k11_law_all
def f_k11_law_alike (F : List T → RF) : S → RS :=
    (seqS (ifS (orT (truE (opE isiF (argsG [(rdE 1), (kE (.ty "list"))]))) (truE (opE isiF (argsG [(rdE 1), (kE (.ty "tuple"))])))) (seqS (ifS (orT (tstE (opE (eqF true) (argsG [(opE isiF (argsG [(rdE 0), (kE (.ty "list"))])), (opE isiF (argsG [(rdE 1), (kE (.ty "list"))]))]))) (tstE (opE (eqF true) (argsG [(opE isiF (argsG [(rdE 0), (kE (.ty "tuple"))])), (opE isiF (argsG [(rdE 1), (kE (.ty "tuple"))]))])))) (retS (kE (.bl false))) nxS)
    (seqS (ifS (tstE (opE (eqF true) (argsG [(opE lenF (argsG [(rdE 0)])), (opE lenF (argsG [(rdE 1)]))]))) (retS (kE (.bl false))) nxS)
    (seqS (forS (iR1 (argsG [(opE lenF (argsG [(rdE 1)]))])) (bN 2) (ifS (notT (truE (callE [false, false] F (argsG [(idxE (argsG [(rdE 0), (rdE 2)])), (idxE (argsG [(rdE 1), (rdE 2)]))])))) (retS (kE (.bl false))) nxS))
    (retS (kE (.bl true)))))) nxS)
    (seqS (ifS (tstE (opE (isNF false) (argsG [(rdE 1), (kE .non)]))) (retS (opE (isNF false) (argsG [(rdE 0), (kE .non)]))) nxS)
    (seqS (ifS (truE (opE isiF (argsG [(rdE 1), (kE (.ty "str"))]))) (retS (andE (opE isiF (argsG [(rdE 0), (kE (.ty "str"))])) (opE (eqF false) (argsG [(rdE 0), (rdE 1)])))) nxS)
    (retS (andE (opE isiF (argsG [(rdE 0), (kE (.ty "int"))])) (andE (notE (opE isiF (argsG [(rdE 0), (kE (.ty "bool"))]))) (opE (eqF false) (argsG [(rdE 0), (rdE 1)]))))))))
def F_k11_law_alike : Nat → List T → RF
  | 0 => botF
  | n + 1 => runF [false, false] 3 (f_k11_law_alike (F_k11_law_alike n))
def f_k11_law : S → RS :=
    (seqS (asgS 1 (fzE (callE [false, false] F_k11_law_parts (argsG [(fzE (opE slLUF (argsG [(rdE 0), intE (kE (.int 3)), (kE (.int 66))]))), (fzE (callE [false] F_k11_law_names (argsG [(rdE 0)])))]))))
    (seqS (ifS (tstE (opE (eqF false) (argsG [(opE modF (argsG [(opE fdivF (argsG [(callE [false, false] F_k11_law_cell (argsG [(rdE 0), (kE (.int 0))])), (kE (.int 13266))])), (kE (.int 3))])), (kE (.int 1))]))) (asgS 1 (fzE (lcE (iL (fzE (rdE 1))) (bN 7) (tstE (opE (eqF true) (argsG [(rdE 7), (dspE .lst (argsG [(dspE .lst (argsG []))]))]))) (fzE (rdE 7)) [7]))) nxS)
    (seqS (asgS 2 (fzE (takeE sortF (lcE (iL (fzE (rdE 1))) (bN 7) yesT (callE [false] F_k11_law_map (argsG [(rdE 7)])) [7]))))
    (seqS (asgS 3 (fzE (callE [false] F_k11_law_map (argsG [(fzE (callE [false] F_k11_law_all (argsG [(rdE 1)])))]))))
    (seqS (asgS 4 (fzE (lcE (iL (fzE (rdE 3))) (bN 8) yesT (takeE listF (rdE 8)) [8])))
    (seqS (asgS 5 (callE [false] F_pieces_pieces (argsG [(rdE 4)])))
    (seqS (ifS (orT (notT (truE (callE [false, false] (F_k11_law_alike 6) (argsG [(rdE 5), (rdE 2)])))) (notT (truE (callE [false, false] (F_k11_law_alike 6) (argsG [(rdE 4), (rdE 3)]))))) (retS (kE (.bl false))) nxS)
    (seqS (forP 5 6 (seqS (exprS (mutE appF (idxE (argsG [(rdE 6), (kE (.int 0))])) (argsG [(kE (.int 7))])))
    (exprS (mutE appF (rdE 6) (argsG [(dspE .lst (argsG [(kE (.int 8))]))])))))
    (seqS (exprS (mutE appF (rdE 5) (argsG [(dspE .lst (argsG []))])))
    (retS (andE (callE [false, false] (F_k11_law_alike 6) (argsG [(rdE 4), (rdE 3)])) (callE [false, false] (F_k11_law_alike 6) (argsG [(fzE (callE [false] F_pieces_pieces (argsG [(rdE 4)]))), (rdE 2)])))))))))))))
def F_k11_law : List T → RF := runF [false] 9 f_k11_law
end
end TL
namespace TL
open PySem PySem.Spec PyProof.Rows L2
abbrev topS (i : Nat) : Stmt := PySem.Challenge.pw_mapround_k11_pieces_of_words.main.body.getD i (.Pass ⟨0, 0, 0, 0⟩)
structure Bn (mg : Str → Option Value) : Prop where
  n_bool : mg "bool" = none
  n_enumerate : mg "enumerate" = none
  n_int : mg "int" = none
  n_isinstance : mg "isinstance" = none
  n_len : mg "len" = none
  n_list : mg "list" = none
  n_min : mg "min" = none
  n_range : mg "range" = none
  n_sorted : mg "sorted" = none
  n_str : mg "str" = none
  n_tuple : mg "tuple" = none
abbrev s_turns_places_at : Stmt := topS 1
theorem sc_turns_places_at : FnScope ["m", "places", "place", "turn", "end"] ["m"] (defScope s_turns_places_at) := ⟨rfl, rfl, rfl, by decide +kernel, rfl, by decide +kernel, by decide +kernel⟩
abbrev s_pieces_reached : Stmt := topS 3
theorem sc_pieces_reached : FnScope ["m", "at", "place", "have", "wave", "k", "end", "far"] ["m", "at", "place"] (defScope s_pieces_reached) := ⟨rfl, rfl, rfl, by decide +kernel, rfl, by decide +kernel, by decide +kernel⟩
abbrev s_pieces_pieces : Stmt := topS 4
theorem sc_pieces_pieces : FnScope ["m", "at", "have", "found", "place", "group", "one"] ["m"] (defScope s_pieces_pieces) := ⟨rfl, rfl, rfl, by decide +kernel, rfl, by decide +kernel, by decide +kernel⟩
abbrev s_k11_law_cell : Stmt := topS 6
theorem sc_k11_law_cell : FnScope ["_law_script", "_law_k"] ["_law_script", "_law_k"] (defScope s_k11_law_cell) := ⟨rfl, rfl, rfl, by decide +kernel, rfl, by decide +kernel, by decide +kernel⟩
abbrev s_k11_law_names : Stmt := topS 7
theorem sc_k11_law_names : FnScope ["_law_script", "_law_step", "_law_shift", "_law_stride", "_law_off", "_law_k"] ["_law_script"] (defScope s_k11_law_names) := ⟨rfl, rfl, rfl, by decide +kernel, rfl, by decide +kernel, by decide +kernel⟩
abbrev s_k11_law_parts : Stmt := topS 8
theorem sc_k11_law_parts : FnScope ["_law_cells", "_law_names_here", "_law_parts_here", "_law_trail", "_law_left", "_law_used", "_law_cell_here", "_law_way", "_law_here", "_law_end"] ["_law_cells", "_law_names_here"] (defScope s_k11_law_parts) := ⟨rfl, rfl, rfl, by decide +kernel, rfl, by decide +kernel, by decide +kernel⟩
abbrev s_k11_law_turn : Stmt := topS 9
theorem sc_k11_law_turn : FnScope ["_law_turn_here", "_law_k"] ["_law_turn_here"] (defScope s_k11_law_turn) := ⟨rfl, rfl, rfl, by decide +kernel, rfl, by decide +kernel, by decide +kernel⟩
abbrev s_k11_law_map : Stmt := topS 10
theorem sc_k11_law_map : FnScope ["_law_turns", "_law_turn_here"] ["_law_turns"] (defScope s_k11_law_map) := ⟨rfl, rfl, rfl, by decide +kernel, rfl, by decide +kernel, by decide +kernel⟩
abbrev s_k11_law_all : Stmt := topS 11
theorem sc_k11_law_all : FnScope ["_law_parts_here", "_law_turns", "_law_part"] ["_law_parts_here"] (defScope s_k11_law_all) := ⟨rfl, rfl, rfl, by decide +kernel, rfl, by decide +kernel, by decide +kernel⟩
abbrev s_k11_law_alike : Stmt := topS 12
theorem sc_k11_law_alike : FnScope ["_law_found", "_law_due", "_law_k"] ["_law_found", "_law_due"] (defScope s_k11_law_alike) := ⟨rfl, rfl, rfl, by decide +kernel, rfl, by decide +kernel, by decide +kernel⟩
abbrev s_k11_law : Stmt := topS 13
theorem sc_k11_law : FnScope ["_law_script", "_law_parts_here", "_law_due", "_law_m", "_law_handed", "_law_found", "_law_one", "_law_part", "_law_turn_here"] ["_law_script"] (defScope s_k11_law) := ⟨rfl, rfl, rfl, by decide +kernel, rfl, by decide +kernel, by decide +kernel⟩
section
variable {P : Program} {w : World} {K : PySem.W.Frag} {mg : Str → Option Value} {base : Heap}
theorem ok_turns_places_at (B : Bn mg) (d_turns_places_at : Df K mg "places_at" s_turns_places_at ["m"])  : FnOk P w K mg base CX0 1 d_turns_places_at.f d_turns_places_at.fd ["m"] (spT K [false] F_turns_places_at) :=
  fn_T d_turns_places_at.F sc_turns_places_at rfl fun cdv A outer s H E W hr =>
      ((iss_cons (is_asg 1 sc_turns_places_at.nd ie_dn)
      (iss_cons (is_for PassesOwn.never rfl (ii_enum B.n_enumerate (ie_fz (ie_rd 0))) (ig_tup rfl (igs_cons (ig_name 2 sc_turns_places_at.nd) (igs_cons (ig_name 3 sc_turns_places_at.nd) igs_nil))) (iss_one (is_for PassesOwn.never rfl (ii_list (ie_fz (ie_rd 3))) (ig_name 4 sc_turns_places_at.nd) (iss_one (is_st (hu_of hr) (ie_fz (ie_rd 2)) (ie_rd 1) (ie_rd 4))))))
      (iss_one (is_ret (ie_mv 1))))) : ISs (cxOf CX0 P w K mg base ["m", "places", "place", "turn", "end"] "places_at" (defScope s_turns_places_at) d_turns_places_at.f cdv A outer s H E).nox W (defBody s_turns_places_at) f_turns_places_at)
theorem ok_pieces_reached (B : Bn mg) (d_pieces_reached : Df K mg "reached" s_pieces_reached ["m", "at", "place"])  : FnOk P w K mg base CX0 1 d_pieces_reached.f d_pieces_reached.fd ["m", "at", "place"] (spT K [false, false, false] F_pieces_reached) :=
  fn_T d_pieces_reached.F sc_pieces_reached rfl fun cdv A outer s H E W hr =>
      ((iss_cons (is_asg 3 sc_pieces_reached.nd (ie_disp1 (ie_rd 2) ie_bl))
      (iss_cons (is_asg 4 sc_pieces_reached.nd (ie_lst (ia_cons (ie_fz (ie_rd 2)) ia_nil)))
      (iss_cons (is_asg 5 sc_pieces_reached.nd ie_int)
      (iss_cons (is_while PassesOwn.never (it_cmp (ic_lt (ie_rd 5) (ie_len B.n_len (ie_rd 4)))) (iss_cons (is_for PassesOwn.never rfl (ii_list (ie_fz (ie_ix (hu_of hr) (ie_rd 0) (ie_ix (hu_of hr) (ie_rd 4) (ie_rd 5))))) (ig_name 6 sc_pieces_reached.nd) (iss_cons (is_asg 7 sc_pieces_reached.nd (ie_ix (hu_of hr) (ie_rd 1) (ie_neg (ie_rd 6))))
      (iss_one (is_if (it_cmp (ic_notin (u65 hr) (ie_rd 7) (ie_rd 3))) (iss_cons (is_st (hu_of hr) ie_bl (ie_rd 3) (ie_rd 7))
      (iss_one (is_expr (ie_mut PySem.F.slot_list_append PySem.F.type_list_append mt_append mok_append (ie_rd 4) (ia_cons (ie_fz (ie_rd 7)) ia_nil))))) iss_nil))))
      (iss_one (is_asg 5 sc_pieces_reached.nd (ie_add (ie_rd 5) ie_int)))))
      (iss_one (is_ret (ie_sorted hr.units B.n_sorted (ie_mv 4)))))))) : ISs (cxOf CX0 P w K mg base ["m", "at", "place", "have", "wave", "k", "end", "far"] "reached" (defScope s_pieces_reached) d_pieces_reached.f cdv A outer s H E).nox W (defBody s_pieces_reached) f_pieces_reached)
theorem ok_pieces_pieces (B : Bn mg) (d_pieces_pieces : Df K mg "pieces" s_pieces_pieces ["m"]) (d_turns_places_at : Df K mg "places_at" s_turns_places_at ["m"]) (d_pieces_reached : Df K mg "reached" s_pieces_reached ["m", "at", "place"])  : FnOk P w K mg base CX0 2 d_pieces_pieces.f d_pieces_pieces.fd ["m"] (spT K [false] F_pieces_pieces) :=
  fn_T d_pieces_pieces.F sc_pieces_pieces rfl fun cdv A outer s H E W hr =>
      ((iss_cons (is_asg 1 sc_pieces_pieces.nd (ie_fz (ie_call (ok_turns_places_at B d_turns_places_at) (hr.mono (by decide)) d_turns_places_at.g d_turns_places_at.F.kp d_turns_places_at.b passS0 (ia_cons (ie_rd 0) ia_nil))))
      (iss_cons (is_asg 2 sc_pieces_pieces.nd ie_dn)
      (iss_cons (is_asg 3 sc_pieces_pieces.nd (ie_lst ia_nil))
      (iss_cons (is_for PassesOwn.never rfl (ii_range1 B.n_range (ie_len B.n_len (ie_rd 0))) (ig_name 4 sc_pieces_pieces.nd) (iss_one (is_if (it_cmp (ic_notin (u65 hr) (ie_rd 4) (ie_rd 2))) (iss_cons (is_asg 5 sc_pieces_pieces.nd (ie_fz (ie_call (ok_pieces_reached B d_pieces_reached) (hr.mono (by decide)) d_pieces_reached.g d_pieces_reached.F.kp d_pieces_reached.b passS0 (ia_cons (ie_rd 0) (ia_cons (ie_rd 1) (ia_cons (ie_rd 4) ia_nil))))))
      (iss_cons (is_clr [6] (is_for PassesOwn.never rfl (ii_list (ie_fz (ie_rd 5))) (ig_name 6 sc_pieces_pieces.nd) (iss_one (is_st (hu_of hr) ie_bl (ie_rd 2) (ie_rd 6)))))
      (iss_one (is_expr (ie_mut PySem.F.slot_list_append PySem.F.type_list_append mt_append mok_append (ie_rd 3) (ia_cons (ie_lc rfl sc_pieces_pieces.nd (by decide) (ii_list (ie_fz (ie_rd 5))) (blkOk_by (own := [("one", 6)]) (by decide +kernel : blkC ["m", "at", "have", "found", "place", "group", "one"] (defScope s_pieces_pieces) _ [("one", 6)] = true)) (fun _ _ _ _ _ => (ig_name 6 sc_pieces_pieces.nd)) (fun _ _ _ _ _ => its_nil) (fun _ _ _ _ _ => (ie_list B.n_list (ie_ix (hu_of hr) (ie_rd 0) (ie_rd 6))))) ia_nil)))))) iss_nil)))
      (iss_one (is_ret (ie_mv 3))))))) : ISs (cxOf CX0 P w K mg base ["m", "at", "have", "found", "place", "group", "one"] "pieces" (defScope s_pieces_pieces) d_pieces_pieces.f cdv A outer s H E).nox W (defBody s_pieces_pieces) f_pieces_pieces)
theorem ok_k11_law_cell (B : Bn mg) (d_k11_law_cell : Df K mg "_law_cell" s_k11_law_cell ["_law_script", "_law_k"])  : FnOk P w K mg base CX0 1 d_k11_law_cell.f d_k11_law_cell.fd ["_law_script", "_law_k"] (spT K [false, false] F_k11_law_cell) :=
  fn_T d_k11_law_cell.F sc_k11_law_cell rfl fun cdv A outer s H E W hr =>
      ((iss_cons (is_if (it_cmp (ic_lt (ie_rd 1) (ie_len B.n_len (ie_rd 0)))) (iss_one (is_ret (ie_fz (ie_ix (hu_of hr) (ie_rd 0) (ie_rd 1))))) iss_nil)
      (iss_one (is_ret ie_int))) : ISs (cxOf CX0 P w K mg base ["_law_script", "_law_k"] "_law_cell" (defScope s_k11_law_cell) d_k11_law_cell.f cdv A outer s H E).nox W (defBody s_k11_law_cell) f_k11_law_cell)
theorem ok_k11_law_names (B : Bn mg) (d_k11_law_names : Df K mg "_law_names" s_k11_law_names ["_law_script"]) (d_k11_law_cell : Df K mg "_law_cell" s_k11_law_cell ["_law_script", "_law_k"])  : FnOk P w K mg base CX0 2 d_k11_law_names.f d_k11_law_names.fd ["_law_script"] (spT K [false] F_k11_law_names) :=
  fn_T d_k11_law_names.F sc_k11_law_names rfl fun cdv A outer s H E W hr =>
      ((iss_cons (is_asg 1 sc_k11_law_names.nd ie_int)
      (iss_cons (is_asg 2 sc_k11_law_names.nd ie_int)
      (iss_cons (is_if (it_cmp (ic_gt (ie_mod (ie_call (ok_k11_law_cell B d_k11_law_cell) (hr.mono (by decide)) d_k11_law_cell.g d_k11_law_cell.F.kp d_k11_law_cell.b passS0 (ia_cons (ie_rd 0) (ia_cons ie_int ia_nil))) ie_int) ie_int)) (iss_cons (is_asg 1 sc_k11_law_names.nd (ie_add ie_int (ie_mod (ie_call (ok_k11_law_cell B d_k11_law_cell) (hr.mono (by decide)) d_k11_law_cell.g d_k11_law_cell.F.kp d_k11_law_cell.b passS0 (ia_cons (ie_rd 0) (ia_cons ie_int ia_nil))) (ie_pow ie_int ie_int))))
      (iss_one (is_asg 2 sc_k11_law_names.nd (ie_mod (ie_call (ok_k11_law_cell B d_k11_law_cell) (hr.mono (by decide)) d_k11_law_cell.g d_k11_law_cell.F.kp d_k11_law_cell.b passS0 (ia_cons (ie_rd 0) (ia_cons ie_int ia_nil))) (ie_pow ie_int ie_int))))) iss_nil)
      (iss_cons (is_asg 3 sc_k11_law_names.nd (ie_add ie_int (ie_mod (ie_fdiv (ie_call (ok_k11_law_cell B d_k11_law_cell) (hr.mono (by decide)) d_k11_law_cell.g d_k11_law_cell.F.kp d_k11_law_cell.b passS0 (ia_cons (ie_rd 0) (ia_cons ie_int ia_nil))) ie_int) ie_int)))
      (iss_cons (is_asg 4 sc_k11_law_names.nd (ie_mod (ie_fdiv (ie_call (ok_k11_law_cell B d_k11_law_cell) (hr.mono (by decide)) d_k11_law_cell.g d_k11_law_cell.F.kp d_k11_law_cell.b passS0 (ia_cons (ie_rd 0) (ia_cons ie_int ia_nil))) ie_int) ie_int))
      (iss_one (is_ret (ie_lc rfl sc_k11_law_names.nd (by decide) (ii_range1 B.n_range ie_int) (blkOk_by (own := [("_law_k", 5)]) (by decide +kernel : blkC ["_law_script", "_law_step", "_law_shift", "_law_stride", "_law_off", "_law_k"] (defScope s_k11_law_names) _ [("_law_k", 5)] = true)) (fun _ _ _ _ _ => (ig_name 5 sc_k11_law_names.nd)) (fun _ _ _ _ _ => its_nil) (fun _ _ _ _ _ => (ie_add (ie_mul (ie_rd 1) (ie_add (ie_mod (ie_add (ie_mul (ie_rd 3) (ie_rd 5)) (ie_rd 4)) ie_int) ie_int)) (ie_rd 2))))))))))) : ISs (cxOf CX0 P w K mg base ["_law_script", "_law_step", "_law_shift", "_law_stride", "_law_off", "_law_k"] "_law_names" (defScope s_k11_law_names) d_k11_law_names.f cdv A outer s H E).nox W (defBody s_k11_law_names) f_k11_law_names)
theorem ok_k11_law_parts (B : Bn mg) (d_k11_law_parts : Df K mg "_law_parts" s_k11_law_parts ["_law_cells", "_law_names_here"])  : FnOk P w K mg base CX0 1 d_k11_law_parts.f d_k11_law_parts.fd ["_law_cells", "_law_names_here"] (spT K [false, false] F_k11_law_parts) :=
  fn_T d_k11_law_parts.F sc_k11_law_parts rfl fun cdv A outer s H E W hr =>
      ((iss_cons (is_asg 2 sc_k11_law_parts.nd (ie_lst (ia_cons (ie_lst (ia_cons (ie_lst ia_nil) ia_nil)) ia_nil)))
      (iss_cons (is_asg 3 sc_k11_law_parts.nd (ie_lst (ia_cons ie_int ia_nil)))
      (iss_cons (is_asg 4 sc_k11_law_parts.nd (ie_lst ia_nil))
      (iss_cons (is_asg 5 sc_k11_law_parts.nd ie_int)
      (iss_cons (is_for PassesOwn.never rfl (ii_list (ie_fz (ie_rd 0))) (ig_name 6 sc_k11_law_parts.nd) (iss_cons (is_asg 7 sc_k11_law_parts.nd (ie_mod (ie_rd 6) ie_int))
      (iss_cons (is_asg 8 sc_k11_law_parts.nd (ie_ix (hu_of hr) (ie_ix (hu_of hr) (ie_rd 2) (ie_neg ie_int)) (ie_ix (hu_of hr) (ie_rd 3) (ie_neg ie_int))))
      (iss_cons (is_asg 9 sc_k11_law_parts.nd (ie_ix (hu_of hr) (ie_rd 1) (ie_rd 5)))
      (iss_cons (is_if (it_cmp (ic_eq hr.units (ie_mod (ie_fdiv (ie_rd 6) ie_int) ie_int) ie_int)) (iss_one (is_asg 9 sc_k11_law_parts.nd (ie_neg (ie_rd 9)))) iss_nil)
      (iss_one (is_if (it_cmp (ic_lt (ie_rd 7) ie_int)) (iss_cons (is_expr (ie_mut PySem.F.slot_list_append PySem.F.type_list_append mt_append mok_append (ie_rd 8) (ia_cons (ie_fz (ie_rd 9)) ia_nil)))
      (iss_cons (is_asg 5 sc_k11_law_parts.nd (ie_add (ie_rd 5) ie_int))
      (iss_one (is_if (it_cmp (ic_lt (ie_rd 7) ie_int)) (iss_one (is_expr (ie_mut PySem.F.slot_list_append PySem.F.type_list_append mt_append mok_append (ie_rd 4) (ia_cons (ie_neg (ie_rd 9)) ia_nil)))) (iss_cons (is_expr (ie_mut PySem.F.slot_list_append PySem.F.type_list_append mt_append mok_append (ie_rd 3) (ia_cons (ie_len B.n_len (ie_ix (hu_of hr) (ie_rd 2) (ie_neg ie_int))) ia_nil)))
      (iss_one (is_expr (ie_mut PySem.F.slot_list_append PySem.F.type_list_append mt_append mok_append (ie_ix (hu_of hr) (ie_rd 2) (ie_neg ie_int)) (ia_cons (ie_lst (ia_cons (ie_neg (ie_rd 9)) ia_nil)) ia_nil))))))))) (iss_one (is_if (it_cmp (ic_lt (ie_rd 7) ie_int)) (iss_one (is_if (it_tru (ie_rd 4)) (iss_one (is_expr (ie_mut PySem.F.slot_list_append PySem.F.type_list_append mt_append mok_append (ie_rd 8) (ia_cons (ie_mut PySem.F.slot_list_pop PySem.F.type_list_pop mt_popU mok_pop (ie_rd 4) (ia_cons (ie_mod (ie_fdiv (ie_rd 6) ie_int) (ie_len B.n_len (ie_rd 4))) ia_nil)) ia_nil)))) iss_nil)) (iss_one (is_if (it_cmp (ic_eq hr.units (ie_rd 7) ie_int)) (iss_one (is_if (it_cmp (ic_gt (ie_len B.n_len (ie_rd 3)) ie_int)) (iss_one (is_expr (ie_mut0 PySem.F.slot_list_pop PySem.F.type_list_pop mt_popU mok_pop (ie_rd 3)))) iss_nil)) (iss_cons (is_expr (ie_mut PySem.F.slot_list_extend PySem.F.type_list_extend mt_extend mok_extend (ie_rd 8) (ia_cons (ie_fz (ie_rd 4)) ia_nil)))
      (iss_cons (is_asg 4 sc_k11_law_parts.nd (ie_lst ia_nil))
      (iss_cons (is_expr (ie_mut PySem.F.slot_list_append PySem.F.type_list_append mt_append mok_append (ie_rd 2) (ia_cons (ie_lst (ia_cons (ie_lst ia_nil) ia_nil)) ia_nil)))
      (iss_one (is_asg 3 sc_k11_law_parts.nd (ie_lst (ia_cons ie_int ia_nil))))))))))))))))))
      (iss_cons (is_expr (ie_mut PySem.F.slot_list_extend PySem.F.type_list_extend mt_extend mok_extend (ie_ix (hu_of hr) (ie_ix (hu_of hr) (ie_rd 2) (ie_neg ie_int)) (ie_ix (hu_of hr) (ie_rd 3) (ie_neg ie_int))) (ia_cons (ie_fz (ie_rd 4)) ia_nil)))
      (iss_one (is_ret (ie_mv 2))))))))) : ISs (cxOf CX0 P w K mg base ["_law_cells", "_law_names_here", "_law_parts_here", "_law_trail", "_law_left", "_law_used", "_law_cell_here", "_law_way", "_law_here", "_law_end"] "_law_parts" (defScope s_k11_law_parts) d_k11_law_parts.f cdv A outer s H E).nox W (defBody s_k11_law_parts) f_k11_law_parts)
theorem ok_k11_law_turn (B : Bn mg) (d_k11_law_turn : Df K mg "_law_turn" s_k11_law_turn ["_law_turn_here"])  : FnOk P w K mg base CX0 1 d_k11_law_turn.f d_k11_law_turn.fd ["_law_turn_here"] (spT K [false] F_k11_law_turn) :=
  fn_T d_k11_law_turn.F sc_k11_law_turn rfl fun cdv A outer s H E W hr =>
      ((iss_cons (is_if (it_not (it_tru (ie_rd 0))) (iss_one (is_ret (ie_lst ia_nil))) iss_nil)
      (iss_cons (is_asg 1 sc_k11_law_turn.nd (ie_fz (ie_index (ie_rd 0) (ie_min rfl B.n_min (ia_cons (ie_rd 0) ia_nil)))))
      (iss_one (is_ret (ie_add (ie_slL (ie_rd 0) (ie_rd 1)) (ie_slU (ie_rd 0) (ie_rd 1))))))) : ISs (cxOf CX0 P w K mg base ["_law_turn_here", "_law_k"] "_law_turn" (defScope s_k11_law_turn) d_k11_law_turn.f cdv A outer s H E).nox W (defBody s_k11_law_turn) f_k11_law_turn)
theorem ok_k11_law_map (B : Bn mg) (d_k11_law_map : Df K mg "_law_map" s_k11_law_map ["_law_turns"]) (d_k11_law_turn : Df K mg "_law_turn" s_k11_law_turn ["_law_turn_here"])  : FnOk P w K mg base CX0 2 d_k11_law_map.f d_k11_law_map.fd ["_law_turns"] (spT K [false] F_k11_law_map) :=
  fn_T d_k11_law_map.F sc_k11_law_map rfl fun cdv A outer s H E W hr =>
      ((iss_one (is_ret (ie_sorted hr.units B.n_sorted (ie_lc rfl sc_k11_law_map.nd (by decide) (ii_list (ie_fz (ie_rd 0))) (blkOk_by (own := [("_law_turn_here", 1)]) (by decide +kernel : blkC ["_law_turns", "_law_turn_here"] (defScope s_k11_law_map) _ [("_law_turn_here", 1)] = true)) (fun _ _ _ _ _ => (ig_name 1 sc_k11_law_map.nd)) (fun _ _ _ _ _ => its_nil) (fun _ _ _ _ _ => (ie_call (ok_k11_law_turn B d_k11_law_turn) (hr.mono (by decide)) d_k11_law_turn.g d_k11_law_turn.F.kp d_k11_law_turn.b passS0 (ia_cons (ie_rd 1) ia_nil))))))) : ISs (cxOf CX0 P w K mg base ["_law_turns", "_law_turn_here"] "_law_map" (defScope s_k11_law_map) d_k11_law_map.f cdv A outer s H E).nox W (defBody s_k11_law_map) f_k11_law_map)
theorem ok_k11_law_all (B : Bn mg) (d_k11_law_all : Df K mg "_law_all" s_k11_law_all ["_law_parts_here"])  : FnOk P w K mg base CX0 1 d_k11_law_all.f d_k11_law_all.fd ["_law_parts_here"] (spT K [false] F_k11_law_all) :=
  fn_T d_k11_law_all.F sc_k11_law_all rfl fun cdv A outer s H E W hr =>
      ((iss_cons (is_asg 1 sc_k11_law_all.nd (ie_lst ia_nil))
      (iss_cons (is_for PassesOwn.never rfl (ii_list (ie_fz (ie_rd 0))) (ig_name 2 sc_k11_law_all.nd) (iss_one (is_expr (ie_mut PySem.F.slot_list_extend PySem.F.type_list_extend mt_extend mok_extend (ie_rd 1) (ia_cons (ie_fz (ie_rd 2)) ia_nil)))))
      (iss_one (is_ret (ie_mv 1))))) : ISs (cxOf CX0 P w K mg base ["_law_parts_here", "_law_turns", "_law_part"] "_law_all" (defScope s_k11_law_all) d_k11_law_all.f cdv A outer s H E).nox W (defBody s_k11_law_all) f_k11_law_all)
theorem ok_k11_law_alike (B : Bn mg) (d_k11_law_alike : Df K mg "_law_alike" s_k11_law_alike ["_law_found", "_law_due"])  : ∀ n : Nat, FnOk P w K mg base CX0 (n + 1) d_k11_law_alike.f d_k11_law_alike.fd ["_law_found", "_law_due"] (spT K [false, false] (F_k11_law_alike n))
  | 0 => fn_bot
  | n + 1 => FnOk.mono (fn_T (k := n + 1) d_k11_law_alike.F sc_k11_law_alike rfl fun cdv A outer s H E W hr =>
      ((iss_cons (is_if (IW.it (iw_or (it_tru (ie_isi B.n_isinstance (ie_rd 1) (ie_ty B.n_list (by decide +kernel)))) (iw_or1 (it_tru (ie_isi B.n_isinstance (ie_rd 1) (ie_ty B.n_tuple (by decide +kernel))))))) (iss_cons (is_if (IW.it (iw_or (it_cmp (ic_ne hr.units (ie_isi B.n_isinstance (ie_rd 0) (ie_ty B.n_list (by decide +kernel))) (ie_isi B.n_isinstance (ie_rd 1) (ie_ty B.n_list (by decide +kernel))))) (iw_or1 (it_cmp (ic_ne hr.units (ie_isi B.n_isinstance (ie_rd 0) (ie_ty B.n_tuple (by decide +kernel))) (ie_isi B.n_isinstance (ie_rd 1) (ie_ty B.n_tuple (by decide +kernel)))))))) (iss_one (is_ret ie_bl)) iss_nil)
      (iss_cons (is_if (it_cmp (ic_ne hr.units (ie_len B.n_len (ie_rd 0)) (ie_len B.n_len (ie_rd 1)))) (iss_one (is_ret ie_bl)) iss_nil)
      (iss_cons (is_for PassesOwn.never rfl (ii_range1 B.n_range (ie_len B.n_len (ie_rd 1))) (ig_name 2 sc_k11_law_alike.nd) (iss_one (is_if (it_not (it_tru (ie_call (ok_k11_law_alike B d_k11_law_alike n) (hr.mono (by omega)) d_k11_law_alike.g d_k11_law_alike.F.kp d_k11_law_alike.b passS0 (ia_cons (ie_ix (hu_of hr) (ie_rd 0) (ie_rd 2)) (ia_cons (ie_ix (hu_of hr) (ie_rd 1) (ie_rd 2)) ia_nil))))) (iss_one (is_ret ie_bl)) iss_nil)))
      (iss_one (is_ret ie_bl))))) iss_nil)
      (iss_cons (is_if (it_cmp (ic_is (ie_rd 1) ie_non)) (iss_one (is_ret (ie_cmp (ic_is (ie_rd 0) ie_non)))) iss_nil)
      (iss_cons (is_if (it_tru (ie_isi B.n_isinstance (ie_rd 1) (ie_ty B.n_str (by decide +kernel)))) (iss_one (is_ret (ie_and (ie_isi B.n_isinstance (ie_rd 0) (ie_ty B.n_str (by decide +kernel))) (ie_and1 (ie_cmp (ic_eq hr.units (ie_rd 0) (ie_rd 1))))))) iss_nil)
      (iss_one (is_ret (ie_and (ie_isi B.n_isinstance (ie_rd 0) (ie_ty B.n_int (by decide +kernel))) (ie_and (ie_not (ie_isi B.n_isinstance (ie_rd 0) (ie_ty B.n_bool (by decide +kernel)))) (ie_and1 (ie_cmp (ic_eq hr.units (ie_rd 0) (ie_rd 1))))))))))) : ISs (cxOf CX0 P w K mg base ["_law_found", "_law_due", "_law_k"] "_law_alike" (defScope s_k11_law_alike) d_k11_law_alike.f cdv A outer s H E).nox W (defBody s_k11_law_alike) (f_k11_law_alike (F_k11_law_alike n)))) (by omega)
theorem ok_k11_law (B : Bn mg) (d_k11_law : Df K mg "law" s_k11_law ["_law_script"]) (d_turns_places_at : Df K mg "places_at" s_turns_places_at ["m"]) (d_pieces_reached : Df K mg "reached" s_pieces_reached ["m", "at", "place"]) (d_pieces_pieces : Df K mg "pieces" s_pieces_pieces ["m"]) (d_k11_law_cell : Df K mg "_law_cell" s_k11_law_cell ["_law_script", "_law_k"]) (d_k11_law_names : Df K mg "_law_names" s_k11_law_names ["_law_script"]) (d_k11_law_parts : Df K mg "_law_parts" s_k11_law_parts ["_law_cells", "_law_names_here"]) (d_k11_law_turn : Df K mg "_law_turn" s_k11_law_turn ["_law_turn_here"]) (d_k11_law_map : Df K mg "_law_map" s_k11_law_map ["_law_turns"]) (d_k11_law_all : Df K mg "_law_all" s_k11_law_all ["_law_parts_here"]) (d_k11_law_alike : Df K mg "_law_alike" s_k11_law_alike ["_law_found", "_law_due"])  : FnOk P w K mg base CX0 8 d_k11_law.f d_k11_law.fd ["_law_script"] (spT K [false] F_k11_law) :=
  fn_T d_k11_law.F sc_k11_law rfl fun cdv A outer s H E W hr =>
      ((iss_cons (is_asg 1 sc_k11_law.nd (ie_fz (ie_call (ok_k11_law_parts B d_k11_law_parts) (hr.mono (by decide)) d_k11_law_parts.g d_k11_law_parts.F.kp d_k11_law_parts.b passS0 (ia_cons (ie_fz (ie_slLU (ie_rd 0) ie_int ie_int)) (ia_cons (ie_fz (ie_call (ok_k11_law_names B d_k11_law_names d_k11_law_cell) (hr.mono (by decide)) d_k11_law_names.g d_k11_law_names.F.kp d_k11_law_names.b passS0 (ia_cons (ie_rd 0) ia_nil))) ia_nil)))))
      (iss_cons (is_if (it_cmp (ic_eq hr.units (ie_mod (ie_fdiv (ie_call (ok_k11_law_cell B d_k11_law_cell) (hr.mono (by decide)) d_k11_law_cell.g d_k11_law_cell.F.kp d_k11_law_cell.b passS0 (ia_cons (ie_rd 0) (ia_cons ie_int ia_nil))) ie_int) ie_int) ie_int)) (iss_one (is_asgLcF 1 rfl sc_k11_law.nd rfl (sw_true rfl rfl rfl (by decide +kernel)) (by decide) (ii_list (ie_fz (ie_rd 1))) (blkOk_by (own := [("_law_part", 7)]) (by decide +kernel : blkC ["_law_script", "_law_parts_here", "_law_due", "_law_m", "_law_handed", "_law_found", "_law_one", "_law_part", "_law_turn_here"] (defScope s_k11_law) _ [("_law_part", 7)] = true)) (fun _ _ _ _ _ => (ig_name 7 sc_k11_law.nd)) (fun _ _ _ _ _ => (its_one (it_cmp (ic_ne hr.units (ie_rd 7) (ie_lst (ia_cons (ie_lst ia_nil) ia_nil)))))) (fun _ _ _ _ _ => (ie_fz (ie_rd 7))))) iss_nil)
      (iss_cons (is_asg 2 sc_k11_law.nd (ie_fz (ie_sorted hr.units B.n_sorted (ie_lc rfl sc_k11_law.nd (by decide) (ii_list (ie_fz (ie_rd 1))) (blkOk_by (own := [("_law_part", 7)]) (by decide +kernel : blkC ["_law_script", "_law_parts_here", "_law_due", "_law_m", "_law_handed", "_law_found", "_law_one", "_law_part", "_law_turn_here"] (defScope s_k11_law) _ [("_law_part", 7)] = true)) (fun _ _ _ _ _ => (ig_name 7 sc_k11_law.nd)) (fun _ _ _ _ _ => its_nil) (fun _ _ _ _ _ => (ie_call (ok_k11_law_map B d_k11_law_map d_k11_law_turn) (hr.mono (by decide)) d_k11_law_map.g d_k11_law_map.F.kp d_k11_law_map.b passS0 (ia_cons (ie_rd 7) ia_nil)))))))
      (iss_cons (is_asg 3 sc_k11_law.nd (ie_fz (ie_call (ok_k11_law_map B d_k11_law_map d_k11_law_turn) (hr.mono (by decide)) d_k11_law_map.g d_k11_law_map.F.kp d_k11_law_map.b passS0 (ia_cons (ie_fz (ie_call (ok_k11_law_all B d_k11_law_all) (hr.mono (by decide)) d_k11_law_all.g d_k11_law_all.F.kp d_k11_law_all.b passS0 (ia_cons (ie_rd 1) ia_nil))) ia_nil))))
      (iss_cons (is_asgLcF 4 rfl sc_k11_law.nd rfl (sw_true rfl rfl rfl (by decide +kernel)) (by decide) (ii_list (ie_fz (ie_rd 3))) (blkOk_by (own := [("_law_turn_here", 8)]) (by decide +kernel : blkC ["_law_script", "_law_parts_here", "_law_due", "_law_m", "_law_handed", "_law_found", "_law_one", "_law_part", "_law_turn_here"] (defScope s_k11_law) _ [("_law_turn_here", 8)] = true)) (fun _ _ _ _ _ => (ig_name 8 sc_k11_law.nd)) (fun _ _ _ _ _ => its_nil) (fun _ _ _ _ _ => (ie_list B.n_list (ie_rd 8))))
      (iss_cons (is_asg 5 sc_k11_law.nd (ie_call (ok_pieces_pieces B d_pieces_pieces d_turns_places_at d_pieces_reached) (hr.mono (by decide)) d_pieces_pieces.g d_pieces_pieces.F.kp d_pieces_pieces.b passS0 (ia_cons (ie_rd 4) ia_nil)))
      (iss_cons (is_if (IW.it (iw_or (it_not (it_tru (ie_call (ok_k11_law_alike B d_k11_law_alike 6) (hr.mono (by decide)) d_k11_law_alike.g d_k11_law_alike.F.kp d_k11_law_alike.b passS0 (ia_cons (ie_rd 5) (ia_cons (ie_rd 2) ia_nil))))) (iw_or1 (it_not (it_tru (ie_call (ok_k11_law_alike B d_k11_law_alike 6) (hr.mono (by decide)) d_k11_law_alike.g d_k11_law_alike.F.kp d_k11_law_alike.b passS0 (ia_cons (ie_rd 4) (ia_cons (ie_rd 3) ia_nil)))))))) (iss_one (is_ret ie_bl)) iss_nil)
      (iss_cons (is_forP 5 6 PassesOwn.never rfl sc_k11_law.nd (iss_cons (is_expr (ie_mut PySem.F.slot_list_append PySem.F.type_list_append mt_append mok_append (ie_ix (hu_of hr) (ie_rd 6) ie_int) (ia_cons ie_int ia_nil)))
      (iss_one (is_expr (ie_mut PySem.F.slot_list_append PySem.F.type_list_append mt_append mok_append (ie_rd 6) (ia_cons (ie_lst (ia_cons ie_int ia_nil)) ia_nil))))))
      (iss_cons (is_expr (ie_mut PySem.F.slot_list_append PySem.F.type_list_append mt_append mok_append (ie_rd 5) (ia_cons (ie_lst ia_nil) ia_nil)))
      (iss_one (is_ret (ie_and (ie_call (ok_k11_law_alike B d_k11_law_alike 6) (hr.mono (by decide)) d_k11_law_alike.g d_k11_law_alike.F.kp d_k11_law_alike.b passS0 (ia_cons (ie_rd 4) (ia_cons (ie_rd 3) ia_nil))) (ie_and1 (ie_call (ok_k11_law_alike B d_k11_law_alike 6) (hr.mono (by decide)) d_k11_law_alike.g d_k11_law_alike.F.kp d_k11_law_alike.b passS0 (ia_cons (ie_fz (ie_call (ok_pieces_pieces B d_pieces_pieces d_turns_places_at d_pieces_reached) (hr.mono (by decide)) d_pieces_pieces.g d_pieces_pieces.F.kp d_pieces_pieces.b passS0 (ia_cons (ie_rd 4) ia_nil))) (ia_cons (ie_rd 2) ia_nil)))))))))))))))) : ISs (cxOf CX0 P w K mg base ["_law_script", "_law_parts_here", "_law_due", "_law_m", "_law_handed", "_law_found", "_law_one", "_law_part", "_law_turn_here"] "law" (defScope s_k11_law) d_k11_law.f cdv A outer s H E).nox W (defBody s_k11_law) f_k11_law)
end
theorem all_mk {l : PySem.W.OpenLaw} {w : World} {K : PySem.W.Frag} {h : Heap} {mg : Str → Option Value} {fa f0 f1 f2 f3 f4 f5 f6 f7 f8 f9 f10 : Addr} (X : K.In h) (G : h.Ns mainGlobals mg) (hfa : mg "law" = some (.ref fa))
    {od0 an0 od1 an1 od2 an2 od3 an3 od4 an4 od5 an5 od6 an6 od7 an7 od8 an8 od9 an9 od10 an10 : Option Addr} {sl0 sl1 sl2 sl3 sl4 sl5 sl6 sl7 sl8 sl9 sl10 : Array (Option Value)} {oc0 kV0 dc0 pm0 cd0 ct0 oc1 kV1 dc1 pm1 cd1 ct1 oc2 kV2 dc2 pm2 cd2 ct2 oc3 kV3 dc3 pm3 cd3 ct3 oc4 kV4 dc4 pm4 cd4 ct4 oc5 kV5 dc5 pm5 cd5 ct5 oc6 kV6 dc6 pm6 cd6 ct6 oc7 kV7 dc7 pm7 cd7 ct7 oc8 kV8 dc8 pm8 cd8 ct8 oc9 kV9 dc9 pm9 cd9 ct9 oc10 kV10 dc10 pm10 cd10 ct10 : Value}
    (a0 : PySem.W.nsIn K mainGlobals "places_at" = some (some (.ref f0))) (l0 : K.lookup f0 = some ⟨oc0, od0, .func (PySem.W.fnOf "places_at" "places_at" (defArgs s_turns_places_at) (defBody s_turns_places_at) (defScope s_turns_places_at) .none kV0 dc0 pm0 an0 cd0 ct0), sl0⟩) (c0 : PySem.W.codeIn K cd0 "places_at" = true) (k0 : PySem.W.keepIn K (.ref f0) = true)
    (a1 : PySem.W.nsIn K mainGlobals "reached" = some (some (.ref f1))) (l1 : K.lookup f1 = some ⟨oc1, od1, .func (PySem.W.fnOf "reached" "reached" (defArgs s_pieces_reached) (defBody s_pieces_reached) (defScope s_pieces_reached) .none kV1 dc1 pm1 an1 cd1 ct1), sl1⟩) (c1 : PySem.W.codeIn K cd1 "reached" = true) (k1 : PySem.W.keepIn K (.ref f1) = true)
    (a2 : PySem.W.nsIn K mainGlobals "pieces" = some (some (.ref f2))) (l2 : K.lookup f2 = some ⟨oc2, od2, .func (PySem.W.fnOf "pieces" "pieces" (defArgs s_pieces_pieces) (defBody s_pieces_pieces) (defScope s_pieces_pieces) .none kV2 dc2 pm2 an2 cd2 ct2), sl2⟩) (c2 : PySem.W.codeIn K cd2 "pieces" = true) (k2 : PySem.W.keepIn K (.ref f2) = true)
    (a3 : PySem.W.nsIn K mainGlobals "_law_cell" = some (some (.ref f3))) (l3 : K.lookup f3 = some ⟨oc3, od3, .func (PySem.W.fnOf "_law_cell" "_law_cell" (defArgs s_k11_law_cell) (defBody s_k11_law_cell) (defScope s_k11_law_cell) .none kV3 dc3 pm3 an3 cd3 ct3), sl3⟩) (c3 : PySem.W.codeIn K cd3 "_law_cell" = true) (k3 : PySem.W.keepIn K (.ref f3) = true)
    (a4 : PySem.W.nsIn K mainGlobals "_law_names" = some (some (.ref f4))) (l4 : K.lookup f4 = some ⟨oc4, od4, .func (PySem.W.fnOf "_law_names" "_law_names" (defArgs s_k11_law_names) (defBody s_k11_law_names) (defScope s_k11_law_names) .none kV4 dc4 pm4 an4 cd4 ct4), sl4⟩) (c4 : PySem.W.codeIn K cd4 "_law_names" = true) (k4 : PySem.W.keepIn K (.ref f4) = true)
    (a5 : PySem.W.nsIn K mainGlobals "_law_parts" = some (some (.ref f5))) (l5 : K.lookup f5 = some ⟨oc5, od5, .func (PySem.W.fnOf "_law_parts" "_law_parts" (defArgs s_k11_law_parts) (defBody s_k11_law_parts) (defScope s_k11_law_parts) .none kV5 dc5 pm5 an5 cd5 ct5), sl5⟩) (c5 : PySem.W.codeIn K cd5 "_law_parts" = true) (k5 : PySem.W.keepIn K (.ref f5) = true)
    (a6 : PySem.W.nsIn K mainGlobals "_law_turn" = some (some (.ref f6))) (l6 : K.lookup f6 = some ⟨oc6, od6, .func (PySem.W.fnOf "_law_turn" "_law_turn" (defArgs s_k11_law_turn) (defBody s_k11_law_turn) (defScope s_k11_law_turn) .none kV6 dc6 pm6 an6 cd6 ct6), sl6⟩) (c6 : PySem.W.codeIn K cd6 "_law_turn" = true) (k6 : PySem.W.keepIn K (.ref f6) = true)
    (a7 : PySem.W.nsIn K mainGlobals "_law_map" = some (some (.ref f7))) (l7 : K.lookup f7 = some ⟨oc7, od7, .func (PySem.W.fnOf "_law_map" "_law_map" (defArgs s_k11_law_map) (defBody s_k11_law_map) (defScope s_k11_law_map) .none kV7 dc7 pm7 an7 cd7 ct7), sl7⟩) (c7 : PySem.W.codeIn K cd7 "_law_map" = true) (k7 : PySem.W.keepIn K (.ref f7) = true)
    (a8 : PySem.W.nsIn K mainGlobals "_law_all" = some (some (.ref f8))) (l8 : K.lookup f8 = some ⟨oc8, od8, .func (PySem.W.fnOf "_law_all" "_law_all" (defArgs s_k11_law_all) (defBody s_k11_law_all) (defScope s_k11_law_all) .none kV8 dc8 pm8 an8 cd8 ct8), sl8⟩) (c8 : PySem.W.codeIn K cd8 "_law_all" = true) (k8 : PySem.W.keepIn K (.ref f8) = true)
    (a9 : PySem.W.nsIn K mainGlobals "_law_alike" = some (some (.ref f9))) (l9 : K.lookup f9 = some ⟨oc9, od9, .func (PySem.W.fnOf "_law_alike" "_law_alike" (defArgs s_k11_law_alike) (defBody s_k11_law_alike) (defScope s_k11_law_alike) .none kV9 dc9 pm9 an9 cd9 ct9), sl9⟩) (c9 : PySem.W.codeIn K cd9 "_law_alike" = true) (k9 : PySem.W.keepIn K (.ref f9) = true)
    (a10 : PySem.W.nsIn K mainGlobals "law" = some (some (.ref f10))) (l10 : K.lookup f10 = some ⟨oc10, od10, .func (PySem.W.fnOf "law" "law" (defArgs s_k11_law) (defBody s_k11_law) (defScope s_k11_law) .none kV10 dc10 pm10 an10 cd10 ct10), sl10⟩) (c10 : PySem.W.codeIn K cd10 "law" = true) (k10 : PySem.W.keepIn K (.ref f10) = true)
    (z_bool : PySem.W.nsIn K mainGlobals "bool" = some none)
    (z_enumerate : PySem.W.nsIn K mainGlobals "enumerate" = some none)
    (z_int : PySem.W.nsIn K mainGlobals "int" = some none)
    (z_isinstance : PySem.W.nsIn K mainGlobals "isinstance" = some none)
    (z_len : PySem.W.nsIn K mainGlobals "len" = some none)
    (z_list : PySem.W.nsIn K mainGlobals "list" = some none)
    (z_min : PySem.W.nsIn K mainGlobals "min" = some none)
    (z_range : PySem.W.nsIn K mainGlobals "range" = some none)
    (z_sorted : PySem.W.nsIn K mainGlobals "sorted" = some none)
    (z_str : PySem.W.nsIn K mainGlobals "str" = some none)
    (z_tuple : PySem.W.nsIn K mainGlobals "tuple" = some none)
    : ∃ fd : FuncData, (∀ (s : Shared) (v : Value), BindsTo s fd ⟨[v], []⟩ [("_law_script", v)]) ∧ ∀ base : Heap, K.In base → base.Ns mainGlobals mg → FnOk l.prog w K mg base CX0 8 fa fd ["_law_script"] (spT K [false] F_k11_law) := by
  have e := hfa.symm.trans (PySem.W.mg_of X G a10)
  cases e
  have B : Bn mg := ⟨PySem.W.mg_none_of X G z_bool, PySem.W.mg_none_of X G z_enumerate, PySem.W.mg_none_of X G z_int, PySem.W.mg_none_of X G z_isinstance, PySem.W.mg_none_of X G z_len, PySem.W.mg_none_of X G z_list, PySem.W.mg_none_of X G z_min, PySem.W.mg_none_of X G z_range, PySem.W.mg_none_of X G z_sorted, PySem.W.mg_none_of X G z_str, PySem.W.mg_none_of X G z_tuple⟩
  have F0 := fun_mk (st := s_turns_places_at) l0 c0 k0
  have b0 := F0.binds (ps := ["m"]) fun _ _ _ _ _ _ us hl => match us, hl with | [_], _ => rfl
  let d_turns_places_at : Df K mg "places_at" s_turns_places_at ["m"] := ⟨f0, _, F0, b0, PySem.W.mg_of X G a0⟩
  have F1 := fun_mk (st := s_pieces_reached) l1 c1 k1
  have b1 := F1.binds (ps := ["m", "at", "place"]) fun _ _ _ _ _ _ us hl => match us, hl with | [_, _, _], _ => rfl
  let d_pieces_reached : Df K mg "reached" s_pieces_reached ["m", "at", "place"] := ⟨f1, _, F1, b1, PySem.W.mg_of X G a1⟩
  have F2 := fun_mk (st := s_pieces_pieces) l2 c2 k2
  have b2 := F2.binds (ps := ["m"]) fun _ _ _ _ _ _ us hl => match us, hl with | [_], _ => rfl
  let d_pieces_pieces : Df K mg "pieces" s_pieces_pieces ["m"] := ⟨f2, _, F2, b2, PySem.W.mg_of X G a2⟩
  have F3 := fun_mk (st := s_k11_law_cell) l3 c3 k3
  have b3 := F3.binds (ps := ["_law_script", "_law_k"]) fun _ _ _ _ _ _ us hl => match us, hl with | [_, _], _ => rfl
  let d_k11_law_cell : Df K mg "_law_cell" s_k11_law_cell ["_law_script", "_law_k"] := ⟨f3, _, F3, b3, PySem.W.mg_of X G a3⟩
  have F4 := fun_mk (st := s_k11_law_names) l4 c4 k4
  have b4 := F4.binds (ps := ["_law_script"]) fun _ _ _ _ _ _ us hl => match us, hl with | [_], _ => rfl
  let d_k11_law_names : Df K mg "_law_names" s_k11_law_names ["_law_script"] := ⟨f4, _, F4, b4, PySem.W.mg_of X G a4⟩
  have F5 := fun_mk (st := s_k11_law_parts) l5 c5 k5
  have b5 := F5.binds (ps := ["_law_cells", "_law_names_here"]) fun _ _ _ _ _ _ us hl => match us, hl with | [_, _], _ => rfl
  let d_k11_law_parts : Df K mg "_law_parts" s_k11_law_parts ["_law_cells", "_law_names_here"] := ⟨f5, _, F5, b5, PySem.W.mg_of X G a5⟩
  have F6 := fun_mk (st := s_k11_law_turn) l6 c6 k6
  have b6 := F6.binds (ps := ["_law_turn_here"]) fun _ _ _ _ _ _ us hl => match us, hl with | [_], _ => rfl
  let d_k11_law_turn : Df K mg "_law_turn" s_k11_law_turn ["_law_turn_here"] := ⟨f6, _, F6, b6, PySem.W.mg_of X G a6⟩
  have F7 := fun_mk (st := s_k11_law_map) l7 c7 k7
  have b7 := F7.binds (ps := ["_law_turns"]) fun _ _ _ _ _ _ us hl => match us, hl with | [_], _ => rfl
  let d_k11_law_map : Df K mg "_law_map" s_k11_law_map ["_law_turns"] := ⟨f7, _, F7, b7, PySem.W.mg_of X G a7⟩
  have F8 := fun_mk (st := s_k11_law_all) l8 c8 k8
  have b8 := F8.binds (ps := ["_law_parts_here"]) fun _ _ _ _ _ _ us hl => match us, hl with | [_], _ => rfl
  let d_k11_law_all : Df K mg "_law_all" s_k11_law_all ["_law_parts_here"] := ⟨f8, _, F8, b8, PySem.W.mg_of X G a8⟩
  have F9 := fun_mk (st := s_k11_law_alike) l9 c9 k9
  have b9 := F9.binds (ps := ["_law_found", "_law_due"]) fun _ _ _ _ _ _ us hl => match us, hl with | [_, _], _ => rfl
  let d_k11_law_alike : Df K mg "_law_alike" s_k11_law_alike ["_law_found", "_law_due"] := ⟨f9, _, F9, b9, PySem.W.mg_of X G a9⟩
  have F10 := fun_mk (st := s_k11_law) l10 c10 k10
  have b10 := F10.binds (ps := ["_law_script"]) fun _ _ _ _ _ _ us hl => match us, hl with | [_], _ => rfl
  let d_k11_law : Df K mg "law" s_k11_law ["_law_script"] := ⟨fa, _, F10, b10, PySem.W.mg_of X G a10⟩
  exact ⟨_, fun s v => .of_eq rfl, fun base _ _ => ok_k11_law B d_k11_law d_turns_places_at d_pieces_reached d_pieces_pieces d_k11_law_cell d_k11_law_names d_k11_law_parts d_k11_law_turn d_k11_law_map d_k11_law_all d_k11_law_alike⟩
end TL
namespace TL
open PySem PySem.Spec L2

/-! ## Numbers, lists of numbers -/
abbrev aI (i : Int) : T := .atm (.int i)
@[simp] theorem b_intL (xs : List Int) : T.intL (xs.map aI) = some xs := by
  induction xs with
  | nil => rfl
  | cons x xs ih => simp only [List.map_cons, T.intL, ih]
@[simp] theorem b_allFL (xs : List Int) : T.allFL (xs.map aI) = true := by
  induction xs with
  | nil => rfl
  | cons x xs ih => simp only [List.map_cons, T.allFL, T.allF, ih, Bool.true_and]
@[simp] theorem b_allOL (xs : List Int) : T.allOL (xs.map aI) = true := by
  induction xs with
  | nil => rfl
  | cons x xs ih => simp only [List.map_cons, T.allOL, T.allO, ih, Bool.true_and]
@[simp] theorem b_flat (xs : List Int) : flatTs (xs.map aI) = some (xs.map V.int) := by
  induction xs with
  | nil => rfl
  | cons x xs ih => simp [flatTs, flatT, flatV, ih]
@[simp] theorem b_flat1 (x : Int) : flatT (aI x) = some (V.int x) := by simp [flatT, flatV]
@[simp] theorem b_fzL (xs : List Int) : T.fzL (xs.map aI) = xs.map aI := by
  induction xs with
  | nil => rfl
  | cons x xs ih => simp [ih]
@[simp] theorem b_min {o : Bool} {xs : List Int} : minF [.box o .lst (xs.map aI)] = xs.min?.map fun m => .a (.int m) := by
  simp only [minF, b_intL]
  cases xs.min? <;> rfl
@[simp] theorem b_max {o : Bool} {xs : List Int} : maxF [.box o .lst (xs.map aI)] = xs.max?.map fun m => .a (.int m) := by
  simp only [maxF, b_intL]
  cases xs.max? <;> rfl
@[simp] theorem b_min2 {i j : Int} : minF [aI i, aI j] = some (.a (.int (min i j))) := by
  simp only [minF]; congr 3; omega
@[simp] theorem b_max2 {i j : Int} : maxF [aI i, aI j] = some (.a (.int (max i j))) := by
  simp only [maxF]; congr 3; omega
@[simp] theorem b_sum {o : Bool} {xs : List Int} : sumF [.box o .lst (xs.map aI)] = some (.a (.int xs.sum)) := by
  simp only [sumF, b_intL]
@[simp] theorem b_abs {i : Int} : absF [aI i] = some (.a (.int i.natAbs)) := by
  simp only [absF]; congr 3; omega
theorem findIdx_int (xs : List Int) (i : Int) : (xs.map V.int).findIdx? (fun z => eqV z (V.int i)) = if i ∈ xs then some (xs.idxOf i) else none := by
  induction xs with
  | nil => rfl
  | cons x xs ih =>
    rw [List.map_cons, List.findIdx?_cons, ih]
    by_cases e : x = i
    · subst e; simp [eqV]
    · have e1 : eqV (V.int x) (V.int i) = false := by simp [eqV, e]
      have e2 : (x == i) = false := by simpa using e
      rw [e1]
      simp only [List.mem_cons, List.idxOf_cons, e2, cond_false, Bool.false_eq_true, if_false]
      have e3 : (i = x ∨ i ∈ xs) ↔ i ∈ xs := ⟨fun h => h.resolve_left fun z => e z.symm, .inr⟩
      simp only [e3]
      by_cases hm : i ∈ xs <;> simp [hm]
@[simp] theorem b_idx {o : Bool} {xs : List Int} {i : Int} (h : i ∈ xs) : idxF [.box o .lst (xs.map aI), aI i] = some (.a (.int (xs.idxOf i : Nat))) := by
  simp only [idxF, b_flat, b_flat1, findIdx_int, h, if_true]
/-! cuts -/
theorem sIx_n {n d k : Nat} : HT.sIx n d (some (k : Int)) = min k n := HT.sIx_nat n d k
@[simp] theorem cut_from {α : Type} (xs : List α) {i : Int} (h : 0 ≤ i) : cutT xs (some i) none = xs.drop i.toNat := by
  obtain ⟨k, rfl⟩ := Int.eq_ofNat_of_zero_le h
  simp only [cutT, sIx_n, HT.sIx_none, Int.toNat_natCast]
  rw [List.take_of_length_le (by simp)]
  rcases Nat.le_total k xs.length with h | h
  · rw [Nat.min_eq_left h]
  · rw [Nat.min_eq_right h, List.drop_length, List.drop_of_length_le h]
@[simp] theorem cut_to {α : Type} (xs : List α) {i : Int} (h : 0 ≤ i) : cutT xs none (some i) = xs.take i.toNat := by
  obtain ⟨k, rfl⟩ := Int.eq_ofNat_of_zero_le h
  simp only [cutT, sIx_n, HT.sIx_none, List.drop_zero, Nat.sub_zero, Int.toNat_natCast]
  rcases Nat.le_total k xs.length with h | h
  · rw [Nat.min_eq_left h]
  · rw [Nat.min_eq_right h, List.take_length, List.take_of_length_le h]
@[simp] theorem cut_mid {α : Type} (xs : List α) {i j : Int} (h : 0 ≤ i) (h2 : 0 ≤ j) : cutT xs (some i) (some j) = (xs.drop i.toNat).take (j.toNat - i.toNat) := by
  obtain ⟨a, rfl⟩ := Int.eq_ofNat_of_zero_le h
  obtain ⟨b, rfl⟩ := Int.eq_ofNat_of_zero_le h2
  simp only [cutT, sIx_n, Int.toNat_natCast]
  rcases Nat.le_total a xs.length with h | h
  · rw [Nat.min_eq_left h]
    rcases Nat.le_total b xs.length with h2 | h2
    · rw [Nat.min_eq_left h2]
    · rw [Nat.min_eq_right h2, List.take_of_length_le (by simp), List.take_of_length_le (by simp; omega)]
  · rw [Nat.min_eq_right h, List.drop_length, List.drop_of_length_le h]; simp
/-! places -/
@[simp] theorem ixN_n (n : Nat) {i : Int} (h : 0 ≤ i) : ixN n i = if i < n then some i.toNat else none := by simp [ixN, h]
@[simp] theorem ixN_m1 (n : Nat) : ixN n (-1) = if 0 < n then some (n - 1) else none := by
  by_cases h : 0 < n
  · simp [ixN, h]; omega
  · have : n = 0 := by omega
    subst this; rfl
/-! equal data -/
@[simp] theorem d_int (i : Int) : (aI i).dat = .int i := rfl
@[simp] theorem d_non : (T.atm .non).dat = .none := rfl
@[simp] theorem d_bl (b : Bool) : (T.atm (.bl b)).dat = .bool b := rfl
@[simp] theorem d_str (z : Str) : (T.atm (.str z)).dat = .str z := rfl
@[simp] theorem d_lst {o : Bool} {xs : List T} : (T.box o .lst xs).dat = .list (T.datL xs) := rfl
@[simp] theorem d_scr {o : Bool} {xs : List T} : (T.box o .scr xs).dat = .list (T.datL xs) := rfl
@[simp] theorem d_tup {o : Bool} {xs : List T} : (T.box o .tup xs).dat = .tuple (T.datL xs) := rfl
@[simp] theorem d_ints (xs : List Int) : T.datL (xs.map aI) = xs.map PyData.int := by
  induction xs with
  | nil => rfl
  | cons x xs ih => simp [T.datL, ih]
@[simp] theorem d_dn : T.datL [] = [] := rfl
@[simp] theorem d_dc {x : T} {xs : List T} : T.datL (x :: xs) = x.dat :: T.datL xs := rfl
theorem datL_map : ∀ xs : List T, T.datL xs = xs.map T.dat
  | [] => rfl
  | x :: xs => by simp [T.datL, datL_map xs]
@[simp] theorem e_int {i j : Int} : PyData.eqv (.int i) (.int j) = decide (i = j) := by
  by_cases h : i = j <;> simp [PyData.eqv, h]
@[simp] theorem e_ints {xs ys : List Int} : PyData.eqvAll (xs.map PyData.int) (ys.map PyData.int) = decide (xs = ys) := by
  induction xs generalizing ys with
  | nil => cases ys <;> simp [PyData.eqvAll]
  | cons x xs ih => cases ys with
    | nil => simp [PyData.eqvAll]
    | cons y ys => by_cases h : x = y <;> simp [PyData.eqvAll, ih, h]
@[simp] theorem e_list {xs ys : List PyData} : PyData.eqv (.list xs) (.list ys) = PyData.eqvAll xs ys := by simp [PyData.eqv]
@[simp] theorem e_tuple {xs ys : List PyData} : PyData.eqv (.tuple xs) (.tuple ys) = PyData.eqvAll xs ys := by simp [PyData.eqv]
/-! what may be compared: of a shape -/
/-- lists, tuples in one another to a depth -/
def okd : Nat → T → Bool
  | n, .atm v => match v with
    | .non => true
    | .bl _ => true
    | .int _ => true
    | .str z => (T.atm (.str z)).fit
    | _ => false
  | 0, .box _ _ _ => false
  | n + 1, .box _ k xs => (match k with
    | .lst => true
    | .tup => true
    | .scr => true
    | _ => false) && xs.all (okd n)
theorem okd_good : ∀ (n : Nat) (t : T), okd n t = true → t.good = true ∧ t.dat.canLay0 = true ∧ t.dat.depth ≤ n
  | n, .atm v, h => by
    cases v <;> simp only [okd, Bool.false_eq_true] at h
    · exact ⟨rfl, rfl, Nat.zero_le _⟩
    · exact ⟨rfl, rfl, Nat.zero_le _⟩
    · exact ⟨rfl, rfl, Nat.zero_le _⟩
    · simp only [T.fit, SeqAt.shaped, Bool.and_eq_true] at h
      exact ⟨h.1, h.2.1, Nat.zero_le _⟩
  | 0, .box _ _ _, h => by simp [okd] at h
  | n + 1, .box o k xs, h => by
    simp only [okd, Bool.and_eq_true, List.all_eq_true] at h
    have hx := fun x hx => okd_good n x (h.2 x hx)
    have g : T.goodL xs = true := by
      clear h
      induction xs with
      | nil => rfl
      | cons x xs ih => simp only [T.goodL, Bool.and_eq_true]; exact ⟨(hx x (by simp)).1, ih fun y hy => hx y (by simp [hy])⟩
    have cl : PyData.canLayAll0 (T.datL xs) = true := by
      clear h g
      induction xs with
      | nil => rfl
      | cons x xs ih => simp only [T.datL, PyData.canLayAll0, Bool.and_eq_true]; exact ⟨(hx x (by simp)).2.1, ih fun y hy => hx y (by simp [hy])⟩
    have dp : PyData.depthAll (T.datL xs) ≤ n := by
      clear h g cl
      induction xs with
      | nil => exact Nat.zero_le _
      | cons x xs ih =>
        simp only [T.datL, PyData.depthAll]
        have := (hx x (by simp)).2.2
        have := ih fun y hy => hx y (by simp [hy])
        omega
    cases k <;> simp only [Bool.false_eq_true, false_and] at h
    · exact ⟨g, by simpa [T.dat, PyData.canLay0] using cl, by simp only [T.dat, PyData.depth]; omega⟩
    · exact ⟨g, by simpa [T.dat, PyData.canLay0] using cl, by simp only [T.dat, PyData.depth]; omega⟩
    · exact ⟨g, by simpa [T.dat, PyData.canLay0] using cl, by simp only [T.dat, PyData.depth]; omega⟩
theorem okd_fit {n : Nat} {t : T} (h : okd n t = true) (hn : n ≤ 64) : t.fit = true := by
  obtain ⟨h1, h2, h3⟩ := okd_good n t h
  simp only [T.fit, SeqAt.shaped, h1, h2, Bool.true_and, decide_eq_true_eq]
  omega
@[simp] theorem okd_i {n : Nat} {i : Int} : okd n (.atm (.int i)) = true := by cases n <;> rfl
@[simp] theorem okd_b {n : Nat} {b : Bool} : okd n (.atm (.bl b)) = true := by cases n <;> rfl
@[simp] theorem okd_n {n : Nat} : okd n (.atm .non) = true := by cases n <;> rfl
@[simp] theorem okd_l {n : Nat} {o : Bool} {xs : List T} : okd (n + 1) (.box o .lst xs) = xs.all (okd n) := by simp [okd]
@[simp] theorem okd_t {n : Nat} {o : Bool} {xs : List T} : okd (n + 1) (.box o .tup xs) = xs.all (okd n) := by simp [okd]
@[simp] theorem fit_ints {o : Bool} {xs : List Int} : (T.box o .lst (xs.map aI)).fit = true := okd_fit (n := 1) (by simp) (by decide)
@[simp] theorem fit_nil {o : Bool} : (T.box o .lst []).fit = true := okd_fit (n := 1) (by simp) (by decide)
/-! sizes of numbers -/
theorem mul_ok {i j : Int} (h : i.natAbs < 2 ^ 8000) (h2 : j.natAbs < 2 ^ 8000) : mulOk i j = true := by simp only [mulOk, h, h2, decide_true, Bool.and_self, Bool.or_true]
theorem mul_ok1 {i j : Int} (h : i.natAbs < 2 ^ 64) : mulOk i j = true := by simp only [mulOk, h, decide_true, Bool.true_or]
theorem mul_ok2 {i j : Int} (h : j.natAbs < 2 ^ 64) : mulOk i j = true := by simp only [mulOk, h, decide_true, Bool.true_or, Bool.or_true]
/-! for, by what holds -/
/-- each turn goes on: the states by a function of what was taken -/
theorem forV_acc {α : Type} {b : T → S → Option S} {a : S → RS} {its : List T} (st : List T → S) (h : ∀ pre x post, its = pre ++ x :: post → ∃ s1, b x (st pre) = some s1 ∧ a s1 = .nx (st (pre ++ [x]))) : forV b a its (st []) = .nx (st its) := by
  have : ∀ post pre, its = pre ++ post → forV b a post (st pre) = .nx (st its) := by
    intro post
    induction post with
    | nil => intro pre e; simp at e; subst e; rfl
    | cons x post ih =>
      intro pre e
      obtain ⟨s1, h1, h2⟩ := h pre x post e
      rw [k_forV1, h1, k_turnO, h2, k_tK_n]
      exact ih (pre ++ [x]) (by simp [e])
  exact this its [] rfl
/-- a turn: it goes on in s2, or hands back -/
def Turn (a : S → RS) (o : Option S) (P : S → Prop) (R : T → S → Prop) : Prop := (∃ s2, (∀ k, turnO a k o = k s2) ∧ P s2) ∨ ∃ t s2, (∀ k, turnO a k o = .rt t s2) ∧ R t s2
theorem forV_run {α : Type} {b : T → S → Option S} {a : S → RS} (enc : α → T) (l : List α) (P : List α → S → Prop) (R : T → S → Prop) {s : S} (h0 : P [] s) (h : ∀ pre x post s, l = pre ++ x :: post → P pre s → Turn a (b (enc x) s) (P (pre ++ [x])) R) :
    (∃ s', forV b a (l.map enc) s = .nx s' ∧ P l s') ∨ ∃ t s', forV b a (l.map enc) s = .rt t s' ∧ R t s' := by
  have : ∀ post pre s, l = pre ++ post → P pre s → (∃ s', forV b a (post.map enc) s = .nx s' ∧ P l s') ∨ ∃ t s', forV b a (post.map enc) s = .rt t s' ∧ R t s' := by
    intro post
    induction post with
    | nil => intro pre s e p; simp at e; subst e; exact .inl ⟨s, rfl, p⟩
    | cons x post ih =>
      intro pre s e p
      rw [List.map_cons, k_forV1]
      rcases h pre x post s e p with ⟨s2, h1, h2⟩ | ⟨t, s2, h1, h2⟩
      · rw [h1]; exact ih (pre ++ [x]) s2 (by simp [e]) h2
      · rw [h1]; exact .inr ⟨t, s2, rfl, h2⟩
  exact this l [] s rfl h0
/-- .. no turn hands back -/
theorem forV_go {α : Type} {b : T → S → Option S} {a : S → RS} (enc : α → T) (l : List α) (P : List α → S → Prop) {s : S} (h0 : P [] s) (h : ∀ pre x post s, l = pre ++ x :: post → P pre s → ∃ s2, (∀ k, turnO a k (b (enc x) s) = k s2) ∧ P (pre ++ [x]) s2) :
    ∃ s', forV b a (l.map enc) s = .nx s' ∧ P l s' := by
  rcases forV_run (b := b) (a := a) enc l P (fun _ _ => False) h0 (fun pre x post s e p => .inl (h pre x post s e p)) with h | ⟨_, _, _, h⟩
  · exact h
  · exact h.elim
@[simp] theorem zipT_map {α β : Type} (f : α → T) (g : β → T) (xs : List α) (ys : List β) : zipT (xs.map f) (ys.map g) = (xs.zip ys).map fun p => .box false .tup [f p.1, g p.2] := by
  simp only [zipT, List.zip_map, List.map_map]; rfl
@[simp] theorem enumT_map {α : Type} (f : α → T) (xs : List α) : enumT (xs.map f) = xs.zipIdx.map fun p => .box false .tup [aI (p.2 : Nat), f p.1] := by
  simp only [enumT, List.zipIdx_map, List.map_map]; rfl
@[simp] theorem k_iR1n {n : Nat} {m : Md} {s : S} (h : n < sizeLine) : iR1T m s (some [.atm (.int (n : Nat))]) = .ok ((List.range n).map fun i : Nat => aI (i : Nat)) m s := by
  have : sizeLine = 2 ^ 24 := rfl
  rw [k_iR1T (by omega)]; simp [rngT]
/-- a slot that holds something or nothing -/
def oS : Option T → Sl T
  | none => .no
  | some t => .t t
@[simp] theorem oS_s {t : T} : oS (some t) = .t t := rfl
@[simp] theorem oS_n : oS none = .no := rfl
@[simp] theorem kR_o {i : Nat} {c : Option T} : Sl.killR i (oS c) = oS c := by cases c <;> rfl
@[simp] theorem kl_o {r : Rt} {q : List Nat} {c : Option T} : Sl.kill r q (oS c) = oS c := by cases c <;> rfl
theorem sz24 : sizeLine = 2 ^ 24 := rfl
theorem seq_nx {a b : S → RS} {s s1 : S} (h : a s = .nx s1) : seqS a b s = b s1 := by rw [k_seq, h]; rfl
theorem seq_rt {a b : S → RS} {s s1 : S} {t : T} (h : a s = .rt t s1) : seqS a b s = .rt t s1 := by rw [k_seq, h]; rfl
end TL
namespace TL
open PySem PySem.Spec L2
/-! ## Runs: what holds of a statement's end -/
def Runs (a : S → RS) (s : S) (Q : RS → Prop) : Prop := Q (a s)
section
variable {a b : S → RS} {s s1 : S} {Q : RS → Prop} {r : RF}
theorem run_ok {lm : List Bool} {n : Nat} {args : List T} (h : args.length = lm.length) (h2 : lm.length ≤ n) (R : Runs a (startT lm n args) fun x => runK x = r) : runF lm n a args = r := by
  rw [runF_k h h2]; exact R
theorem Runs.step (h : ∃ s1, a s = .nx s1 ∧ Runs b s1 Q) : Runs (seqS a b) s Q := by
  obtain ⟨s1, h1, h2⟩ := h
  show Q (seqS a b s)
  rw [seq_nx h1]; exact h2
/-- whatever comes -/
theorem Runs.any (h : Runs a s fun r => match r with
    | .nx s1 => Runs b s1 Q
    | r => Q r) : Runs (seqS a b) s Q := by
  show Q (seqS a b s)
  simp only [Runs] at h
  rw [k_seq]
  cases e : a s <;> rw [e] at h <;> exact h
theorem Runs.last (h : Q (a s)) : Runs a s Q := h
theorem Runs.mono {Q' : RS → Prop} (h : Runs a s Q) (q : ∀ r, Q r → Q' r) : Runs a s Q' := q _ h
theorem Runs.iff_ {t : S → RT} {c d : S → RS} (h : ∃ v m s1, t s = .ok v m s1 ∧ (v = true → Runs c s1 Q) ∧ (v = false → Runs d s1 Q)) : Runs (ifS t c d) s Q := by
  obtain ⟨v, m, s1, h1, h2, h3⟩ := h
  show Q (ifS t c d s)
  rw [k_if, h1]
  cases v
  · exact h3 rfl
  · exact h2 rfl
/-- what a turn of a loop may do -/
def Trn (P : S → Prop) (Q : RS → Prop) (b : S → RS) : RS → Prop
  | .nx s => P s
  | .ct s => P s
  | .bk s => Runs b s Q
  | .rt t s => Q (.rt t s)
  | .ex C fs s => Q (.ex C fs s)
  | .fail => False
theorem loop_any {α : Type} {bt : T → S → Option S} (enc : α → T) (l : List α) (P : List α → S → Prop) (h0 : P [] s)
    (turn : ∀ pre x post s, l = pre ++ x :: post → P pre s → ∃ s1, bt (enc x) s = some s1 ∧ Runs a s1 (Trn (P (pre ++ [x])) Q b)) (fin : ∀ s, P l s → Runs b s Q) : seqK (fun s => b s) (forV bt a (l.map enc) s) = seqK b (forV bt a (l.map enc) s) ∧ Q (seqK b (forV bt a (l.map enc) s)) := by
  refine ⟨rfl, ?_⟩
  have : ∀ post pre s, l = pre ++ post → P pre s → Q (seqK b (forV bt a (post.map enc) s)) := by
    intro post
    induction post with
    | nil => intro pre s e p; simp at e; subst e; exact fin s p
    | cons x post ih =>
      intro pre s e p
      obtain ⟨s1, h1, h2⟩ := turn pre x post s e p
      rw [List.map_cons, k_forV1, h1, k_turnO]
      simp only [Runs] at h2
      cases e2 : a s1 with
      | nx s2 => rw [e2] at h2; exact ih (pre ++ [x]) s2 (by simp [e]) h2
      | ct s2 => rw [e2] at h2; exact ih (pre ++ [x]) s2 (by simp [e]) h2
      | bk s2 => rw [e2] at h2; exact h2
      | rt t s2 => rw [e2] at h2; exact h2
      | ex C fs s2 => rw [e2] at h2; exact h2
      | fail => rw [e2] at h2; exact h2.elim
  exact this l [] s rfl h0
theorem Runs.loop {α : Type} {gi : S → RI} {bt : T → S → Option S} (enc : α → T) (l : List α) (P : List α → S → Prop) (hi : ∃ m s0, gi s = .ok (l.map enc) m s0 ∧ P [] s0)
    (turn : ∀ pre x post s, l = pre ++ x :: post → P pre s → ∃ s1, bt (enc x) s = some s1 ∧ Runs a s1 (Trn (P (pre ++ [x])) Q b)) (fin : ∀ s, P l s → Runs b s Q) : Runs (seqS (forS gi bt a) b) s Q := by
  obtain ⟨m, s0, h1, h0⟩ := hi
  show Q (seqS (forS gi bt a) b s)
  rw [k_seq, k_for, h1, k_forK]
  exact (loop_any enc l P h0 turn fin).2
/-- the loop is the last statement -/
theorem Runs.loopE {α : Type} {gi : S → RI} {bt : T → S → Option S} (enc : α → T) (l : List α) (P : List α → S → Prop) (hi : ∃ m s0, gi s = .ok (l.map enc) m s0 ∧ P [] s0)
    (turn : ∀ pre x post s, l = pre ++ x :: post → P pre s → ∃ s1, bt (enc x) s = some s1 ∧ Runs a s1 (Trn (P (pre ++ [x])) Q nxS)) (fin : ∀ s, P l s → Q (.nx s)) : Runs (forS gi bt a) s Q := by
  have := Runs.loop (b := nxS) enc l P hi turn fin
  show Q (forS gi bt a s)
  have h2 : Q (seqS (forS gi bt a) nxS s) := this
  rw [k_seq] at h2
  cases e : forS gi bt a s <;> rw [e] at h2 <;> exact h2
/-- while, by a measure -/
theorem Runs.while {t : S → RT} (P : S → Prop) (μ : S → Nat) (h0 : P s)
    (turn : ∀ s, P s → ∃ v m s1, t s = .ok v m s1 ∧ (v = true → Runs a s1 (Trn (fun s2 => P s2 ∧ μ s2 < μ s) Q b)) ∧ (v = false → Runs b s1 Q)) : Runs (seqS (whileS t a) b) s Q := by
  show Q (seqS (whileS t a) b s)
  rw [k_seq]
  have : ∀ n s, μ s ≤ n → P s → Q (seqK b (whileS t a s)) := by
    intro n
    induction n with
    | zero =>
      intro s hm p
      obtain ⟨v, m, s1, h1, h2, h3⟩ := turn s p
      rw [k_while, h1, k_ifK]
      cases v with
      | false => exact h3 rfl
      | true =>
        have h2 := h2 rfl
        simp only [Runs] at h2
        simp only [if_true]
        cases e2 : a s1 with
        | nx s2 => rw [e2] at h2; exact absurd h2.2 (by omega)
        | ct s2 => rw [e2] at h2; exact absurd h2.2 (by omega)
        | bk s2 => rw [e2] at h2; exact h2
        | rt t s2 => rw [e2] at h2; exact h2
        | ex C fs s2 => rw [e2] at h2; exact h2
        | fail => rw [e2] at h2; exact h2.elim
    | succ n ih =>
      intro s hm p
      obtain ⟨v, m, s1, h1, h2, h3⟩ := turn s p
      rw [k_while, h1, k_ifK]
      cases v with
      | false => exact h3 rfl
      | true =>
        have h2 := h2 rfl
        simp only [Runs] at h2
        simp only [if_true]
        cases e2 : a s1 with
        | nx s2 => rw [e2] at h2; exact ih s2 (by have := h2.2; omega) h2.1
        | ct s2 => rw [e2] at h2; exact ih s2 (by have := h2.2; omega) h2.1
        | bk s2 => rw [e2] at h2; exact h2
        | rt t s2 => rw [e2] at h2; exact h2
        | ex C fs s2 => rw [e2] at h2; exact h2
        | fail => rw [e2] at h2; exact h2.elim
  exact this _ s (Nat.le_refl _) h0
@[simp] theorem trn_n {P : S → Prop} : Trn P Q b (.nx s) ↔ P s := Iff.rfl
@[simp] theorem trn_c {P : S → Prop} : Trn P Q b (.ct s) ↔ P s := Iff.rfl
@[simp] theorem trn_b {P : S → Prop} : Trn P Q b (.bk s) ↔ Runs b s Q := Iff.rfl
@[simp] theorem trn_r {P : S → Prop} {t : T} : Trn P Q b (.rt t s) ↔ Q (.rt t s) := Iff.rfl
@[simp] theorem trn_x {P : S → Prop} {C : Addr} {fs : Xf} : Trn P Q b (.ex C fs s) ↔ Q (.ex C fs s) := Iff.rfl
end
/-! comprehensions -/
theorem lcL_map {α : Type} {b : T → S → Option S} {t : S → RT} {g : S → RE} {own : List Nat} {m : Md} {s : S} (enc : α → T) (res : α → Option T) (l : List α) (acc : List T) (hl : acc.length + l.length ≤ sizeLine)
    (h : ∀ x ∈ l, ∀ acc k, acc.length < sizeLine → lcO t g k own acc (b (enc x) s) = k (acc ++ (res x).toList) s) : lcL b t g own m (l.map enc) acc s = .ok (.v (.box true .lst (acc ++ l.filterMap res))) m s := by
  induction l generalizing acc with
  | nil => simp
  | cons x l ih =>
    rw [List.map_cons, k_lcL1, h x (by simp) acc _ (by simp at hl; omega)]
    rw [ih (acc ++ (res x).toList) (by simp at hl ⊢; cases res x <;> simp <;> omega) fun y hy => h y (by simp [hy])]
    cases e : res x <;> simp [List.filterMap_cons, e]
@[simp] theorem ex_oS {t : T} : ∃ x, Sl.t t = oS x := ⟨some t, rfl⟩
@[simp] theorem ex_oN : ∃ x, (Sl.no : Sl T) = oS x := ⟨none, rfl⟩
@[simp] theorem ex_oO {c : Option T} : ∃ x, oS c = oS x := ⟨c, rfl⟩
theorem Runs.nxI {a b : S → RS} {s s1 : S} {P : S → Prop} {Q : RS → Prop} (h : a s = .nx s1) (p : P s1) : Runs a s (Trn P Q b) := by
  show Trn P Q b (a s)
  rw [h]; exact p
/-- .. what is asked of the end stays out of sight -/
theorem run_of {a : S → RS} {r : RF} {lm : List Bool} {n : Nat} {args : List T} (h : args.length = lm.length) (h2 : lm.length ≤ n) (R : ∀ Q : RS → Prop, (∀ x, runK x = r → Q x) → Runs a (startT lm n args) Q) : runF lm n a args = r :=
  run_ok h h2 (R _ fun _ h => h)
theorem Runs.fin {a : S → RS} {s : S} {Q : RS → Prop} {r : RF} (hQ : ∀ x, runK x = r → Q x) (h : runK (a s) = r) : Runs a s Q := hQ _ h
theorem filterMap_if {α β : Type} (p : α → Prop) [DecidablePred p] (f : α → β) (l : List α) : l.filterMap (fun x => if p x then some (f x) else none) = (l.filter fun x => decide (p x)).map f := by
  induction l with
  | nil => rfl
  | cons x l ih => by_cases h : p x <;> simp [List.filterMap_cons, h, ih]
theorem lcL_all {α : Type} {b : T → S → Option S} {t : S → RT} {g : S → RE} {own : List Nat} {m : Md} {s : S} (enc : α → T) (res : α → T) (l : List α) (hl : l.length ≤ sizeLine)
    (h : ∀ x ∈ l, ∀ acc k, acc.length < sizeLine → lcO t g k own acc (b (enc x) s) = k (acc ++ [res x]) s) : lcL b t g own m (l.map enc) [] s = .ok (.v (.box true .lst (l.map res))) m s := by
  rw [lcL_map (res := fun x => some (res x)) (hl := by simpa using hl) (h := fun x hx acc k ha => by simpa using h x hx acc k ha)]
  simp
theorem zip_self' {α : Type} (l : List α) : l.zip l = l.map fun x => (x, x) := by
  induction l with
  | nil => rfl
  | cons x l ih => simp [ih]
theorem Runs.ret {a b : S → RS} {s : S} {Q : RS → Prop} (h : ∃ t s1, a s = .rt t s1 ∧ Q (.rt t s1)) : Runs (seqS a b) s Q := by
  obtain ⟨t, s1, h1, h2⟩ := h
  show Q (seqS a b s)
  rw [seq_rt h1]; exact h2
end TL
namespace TL
open PySem PySem.Spec L2
/-! ## for over an owned list: steps -/
section
variable {i j k k' n m : Nat} {sl : List (Sl T)} {hd : List T} {xs : List T} {t : T} {s : S}
def hideK (j : Nat) (s : S) : Option (Sl T) → Option S
  | some (.t (.box true .lst xs)) => some (SS.put ⟨(s.put j .no).sl, s.hd ++ [.box true .lst xs]⟩ j (.al (.hd s.hd.length) []))
  | _ => none
@[simp] theorem k_hide : hideS j s = hideK j s s.sl[j]? := rfl
@[simp] theorem k_hideK : hideK j s (some (.t (.box true .lst xs))) = some (SS.put ⟨(s.put j .no).sl, s.hd ++ [.box true .lst xs]⟩ j (.al (.hd s.hd.length) [])) := rfl
def lenK : Option (Sl T) → Nat
  | some (.t (.box _ _ xs)) => xs.length
  | _ => 0
@[simp] theorem k_lenJ : lenJ j s = lenK s.sl[j]? := rfl
@[simp] theorem k_lenK {o : Bool} {kd : Kd} : lenK (some (.t (.box o kd xs))) = xs.length := rfl
def bindC (i k m : Nat) (s : S) (c : T) : Option S := if c.allF = true then some (s.put i (.t c)) else some (s.put i (.al (.hd k) [m]))
def bindX (i k m : Nat) (s : S) : Option T → Option S
  | some c => bindC i k m s c
  | none => none
def bindK (i k n m : Nat) (s : S) : Option T → Option S
  | some (.box true .lst xs) => if xs.length = n ∧ i < s.sl.length then bindX i k m s xs[m]? else none
  | _ => none
@[simp] theorem k_bindP : bindP i k n m s = bindK i k n m s s.hd[k]? := by
  unfold bindP bindK bindX bindC
  split <;> rename_i e1 <;> (try simp only [e1])
  all_goals try with_reducible rfl
  all_goals (split <;> first | rfl | (split <;> simp_all))
@[simp] theorem k_bindK (h : xs.length = n) (h2 : i < sl.length) : bindK i k n m ⟨sl, hd⟩ (some (.box true .lst xs)) = bindX i k m ⟨sl, hd⟩ xs[m]? := by simp [bindK, h, h2]
@[simp] theorem k_bindX {c : T} : bindX i k m s (some c) = bindC i k m s c := rfl
@[simp] theorem k_bindC_f {c : T} (h : c.allF = true) : bindC i k m s c = some (s.put i (.t c)) := by simp [bindC, h]
@[simp] theorem k_bindC_o {kd : Kd} : bindC i k m s (.box true kd xs) = some (s.put i (.al (.hd k) [m])) := rfl
def lenHK (n : Nat) : Option T → Bool
  | some (.box true .lst xs) => decide (xs.length = n)
  | _ => false
@[simp] theorem k_lenH : lenH k n s = lenHK n s.hd[k]? := rfl
@[simp] theorem k_lenHK : lenHK n (some (.box true .lst xs)) = decide (xs.length = n) := rfl
def showK (j k : Nat) (s : S) : Option (Sl T) → Option T → Option S
  | some (.al (.hd k') []), some t => if k' = k ∧ s.hd.length = k + 1 then some ((dropH k s).put j (.t t)) else none
  | _, _ => none
@[simp] theorem k_show : showS j k s = showK j k s s.sl[j]? s.hd[k]? := rfl
@[simp] theorem k_showK (h : s.hd.length = k + 1) : showK j k s (some (.al (.hd k) [])) (some t) = some ((dropH k s).put j (.t t)) := by simp [showK, h]
@[simp] theorem k_drop : dropH k ⟨sl, hd⟩ = ⟨sl.map (Sl.killH k), hd.take k⟩ := rfl
@[simp] theorem k_kH_n : Sl.killH k (.no : Sl T) = .no := rfl
@[simp] theorem k_kH_t : Sl.killH k (.t t) = .t t := rfl
@[simp] theorem k_kH_s {p : List Nat} : Sl.killH k (.al (.sl j) p : Sl T) = .al (.sl j) p := rfl
@[simp] theorem k_kH_h {p : List Nat} : Sl.killH k (.al (.hd j) p : Sl T) = if j = k then .no else .al (.hd j) p := rfl
@[simp] theorem k_kH_o {c : Option T} : Sl.killH k (oS c) = oS c := by cases c <;> rfl
/-- the target's slot: nothing, or the m-th thing -/
def oP (k : Nat) : Option Nat → Sl T
  | none => .no
  | some m => .al (.hd k) [m]
@[simp] theorem oP_n : oP k none = .no := rfl
@[simp] theorem oP_s : oP k (some m) = .al (.hd k) [m] := rfl
@[simp] theorem kH_oP {c : Option Nat} : Sl.killH k (oP k c) = .no := by cases c <;> simp [oP]
@[simp] theorem kR_oP {c : Option Nat} : Sl.killR i (oP k c) = oP k c := by cases c <;> rfl
end
theorem Runs.loopP {j i : Nat} {f b : S → RS} {s : S} {Q : RS → Prop} (n : Nat) (P : Nat → S → Prop) (h0 : ∃ s1, hideS j s = some s1 ∧ P 0 s1) (hn : lenJ j s = n)
    (turn : ∀ m s', m < n → P m s' → ∃ s1, bindP i s.hd.length n m s' = some s1 ∧ Runs f s1 (fun r => match r with
      | .nx s2 => P (m + 1) s2
      | .ct s2 => P (m + 1) s2
      | _ => False))
    (fin : ∀ s', P n s' → lenH s.hd.length n s' = true ∧ ∃ s3, showS j s.hd.length s' = some s3 ∧ Runs b s3 Q) : Runs (seqS (forP j i f) b) s Q := by
  obtain ⟨s1, h1, p0⟩ := h0
  show Q (seqS (forP j i f) b s)
  rw [k_seq]
  simp only [forP, h1, hn]
  have : ∀ m s', m ≤ n → P (n - m) s' → Q (seqK b (endP j s.hd.length (forPV i s.hd.length n f m s'))) := by
    intro m
    induction m with
    | zero =>
      intro s' _ p
      obtain ⟨q1, s3, q2, q3⟩ := fin s' p
      simp only [forPV, q1, if_true, endP, q2]
      exact q3
    | succ m ih =>
      intro s' hm p
      obtain ⟨s2, q1, q2⟩ := turn (n - (m + 1)) s' (by omega) p
      simp only [forPV, q1]
      simp only [Runs] at q2
      have e : n - (m + 1) + 1 = n - m := by omega
      rw [e] at q2
      cases e2 : f s2 with
      | nx s3 => rw [e2] at q2; exact ih s3 (by omega) q2
      | ct s3 => rw [e2] at q2; exact ih s3 (by omega) q2
      | bk s3 => rw [e2] at q2; exact q2.elim
      | rt t s3 => rw [e2] at q2; exact q2.elim
      | ex C fs s3 => rw [e2] at q2; exact q2.elim
      | fail => rw [e2] at q2; exact q2.elim
  exact this n s1 (Nat.le_refl _) (by simpa using p0)
theorem Runs.nxQ {a : S → RS} {s s1 : S} {Q : RS → Prop} (h : a s = .nx s1) (q : Q (.nx s1)) : Runs a s Q := by show Q (a s); rw [h]; exact q
theorem md_const {α : Type} (l : List α) (m : Nat) (a : α) : (l.modify m fun _ => a) = l.set m a := by
  apply List.ext_getElem?
  intro j
  simp only [List.getElem?_set, List.getElem?_modify]
  by_cases h : m = j
  · subst h
    by_cases h2 : m < l.length <;> simp [h2]
  · simp [h]
end TL
namespace TL
open PySem PySem.Spec L2
/-! ## Rows of numbers -/
def rowT (o : Bool) (r : List Int) : T := .box o .lst (r.map aI)
@[simp] theorem rowT_eq {o : Bool} {r : List Int} : rowT o r = .box o .lst (r.map aI) := rfl
section
variable {o o' : Bool} {m m' : List (List Int)} {xs ys : List Int} {α : Type} {l : List α}
@[simp] theorem r_fzL : T.fzL (m.map (rowT o)) = m.map (rowT false) := by
  induction m with
  | nil => rfl
  | cons x xs ih => simp [ih]
@[simp] theorem r_allF : T.allFL (m.map (rowT false)) = true := by
  induction m with
  | nil => rfl
  | cons x xs ih => simp [ih]
@[simp] theorem r_allO : T.allOL (m.map (rowT true)) = true := by
  induction m with
  | nil => rfl
  | cons x xs ih => simp [ih]
@[simp] theorem r_dat : T.datL (m.map (rowT o)) = m.map fun r => .list (r.map .int) := by
  induction m with
  | nil => rfl
  | cons x xs ih => simp [ih]
@[simp] theorem r_eqv : PyData.eqvAll (m.map fun r => .list (r.map .int)) (m'.map fun r => .list (r.map .int)) = decide (m = m') := by
  induction m generalizing m' with
  | nil => cases m' <;> simp [PyData.eqvAll]
  | cons x xs ih => cases m' with
    | nil => simp [PyData.eqvAll]
    | cons y ys => by_cases h : x = y <;> simp [PyData.eqvAll, ih, h]
@[simp] theorem r_okd : (m.map (rowT o)).all (okd 1) = true := by
  rw [List.all_eq_true]
  intro x hx
  obtain ⟨r, _, rfl⟩ := List.mem_map.mp hx
  simp
@[simp] theorem r_fit : (T.box o .lst (m.map (rowT o'))).fit = true := okd_fit (n := 2) (by rw [okd_l]; exact r_okd) (by decide)
@[simp] theorem r_set {i : Nat} {r : List Int} : (m.map (rowT o)).set i (.box o .lst (r.map aI)) = (m.set i r).map (rowT o) := by rw [List.map_set]; rfl
@[simp] theorem f_setL {ts : List T} {t : T} {i : Int} (h : 0 ≤ i) (h2 : i < ts.length) : setF .lst ts (.atm (.int i)) t = some (.lst, ts.set i.toNat t) := by simp [setF, h, h2]
/-! sorting -/
def srtI (xs : List Int) : List Int := xs.mergeSort fun a b => decide (a ≤ b)
def srtR (m : List (List Int)) : List (List Int) := m.mergeSort fun a b => decide (a ≤ b)
@[simp] theorem srt_i : srtT (xs.map aI) = (srtI xs).map aI := by
  rw [srtT, srtI, List.map_mergeSort (s := sLe)]
  intro a _ b _
  have := congrFun (congrFun (PySem.W.dataLe_int (β := Int) id) a) b
  simp only [id] at this
  rw [← this]; rfl
@[simp] theorem srt_r : srtT (m.map (rowT o)) = (srtR m).map (rowT o) := by
  rw [srtT, srtR, List.map_mergeSort (s := sLe)]
  intro a _ b _
  have := congrFun (congrFun (PySem.W.dataLe_rows (β := List Int) id) a) b
  simp only [id] at this
  rw [← this]
  show PySem.W.dataLe false (fun b => PyData.list (b.map .int)) a b = PySem.W.dataLe false T.dat (rowT o a) (rowT o b)
  simp [PySem.W.dataLe_eq]
theorem srtI_perm : (srtI xs).Perm xs := List.mergeSort_perm _ _
theorem srtR_perm : (srtR m).Perm m := List.mergeSort_perm _ _
@[simp] theorem srtI_len : (srtI xs).length = xs.length := srtI_perm.length_eq
@[simp] theorem srtR_len : (srtR m).length = m.length := srtR_perm.length_eq
theorem srtI_sorted : (srtI xs).Pairwise (· ≤ ·) := by
  have := List.pairwise_mergeSort (le := fun a b : Int => decide (a ≤ b)) (by simp; omega) (by simp; omega) xs
  simpa [srtI, srtR] using this
theorem le_trans_rows {a b c : List Int} : a ≤ b → b ≤ c → a ≤ c := List.le_trans
theorem srtR_sorted : (srtR m).Pairwise (· ≤ ·) := by
  have := List.pairwise_mergeSort (le := fun a b : List Int => decide (a ≤ b)) (by simp only [decide_eq_true_eq]; exact fun _ _ _ => List.le_trans) (by simp only [Bool.or_eq_true, decide_eq_true_eq]; exact fun a b => List.le_total a b) m
  simpa [srtI, srtR] using this
theorem int_sorted_eq {xs ys : List Int} (h : xs.Perm ys) (h1 : xs.Pairwise (· ≤ ·)) (h2 : ys.Pairwise (· ≤ ·)) : xs = ys :=
  h.eq_of_pairwise (fun a b _ _ q1 q2 => by omega) h1 h2
theorem row_sorted_eq {xs ys : List (List Int)} (h : xs.Perm ys) (h1 : xs.Pairwise (· ≤ ·)) (h2 : ys.Pairwise (· ≤ ·)) : xs = ys :=
  h.eq_of_pairwise (fun a b _ _ q1 q2 => List.le_antisymm q1 q2) h1 h2
theorem srtI_of_perm (h : xs.Perm ys) : srtI xs = srtI ys := int_sorted_eq ((srtI_perm.trans h).trans srtI_perm.symm) srtI_sorted srtI_sorted
theorem srtR_of_perm (h : m.Perm m') : srtR m = srtR m' := row_sorted_eq ((srtR_perm.trans h).trans srtR_perm.symm) srtR_sorted srtR_sorted
theorem srtR_id (h : m.Pairwise (· ≤ ·)) : srtR m = m := row_sorted_eq srtR_perm srtR_sorted h
@[simp] theorem al_ints {xs ys : List Int} : PySem.W.alikeAll (xs.map PyData.int) (ys.map PyData.int) = true := PySem.W.alike_ints xs ys
@[simp] theorem al_ll {xs ys : List PyData} : PySem.W.alike (.list xs) (.list ys) = PySem.W.alikeAll xs ys := by simp [PySem.W.alike]
@[simp] theorem al_ii {i j : Int} : PySem.W.alike (.int i) (.int j) = true := by simp [PySem.W.alike]
@[simp] theorem b_goodL : T.goodL (xs.map aI) = true := by
  induction xs with
  | nil => rfl
  | cons x xs ih => simp only [List.map_cons, T.goodL, ih, Bool.and_true]; rfl
@[simp] theorem srtB_i (h : xs.length ≤ sizeLine) : srtB (xs.map aI) = true := by
  simp [srtB, h, T.good, PyData.depth, notTup, tupNe]
@[simp] theorem srtB_r (h : m.length ≤ sizeLine) : srtB (m.map (rowT o)) = true := by
  simp [srtB, h, T.good, PyData.depth, notTup, tupNe, PySem.W.depth_ints]
@[simp] theorem sortF_l {ts : List T} (h : srtB ts = true) : sortF (.box o .lst ts) = some (.lst, srtT ts) := by simp [sortF, h]
end
end TL
namespace TL
open PySem PySem.Spec L2
/-! ## The maps that the laws build -/
theorem mokW (i j : Int) (h : (j.natAbs : Int) < 2 ^ 64) : mulOk i j = true := mul_ok2 (by exact Int.ofNat_lt.mp (by simpa using h))
theorem mok67 (i j : Int) : mulOk i (j % 67 + 1) = true := mokW _ _ (by omega)
theorem mok66 (i j : Int) : mulOk (1 + j % 66) i = true := mul_ok1 (by have : ((1 + j % 66).natAbs : Int) < 2 ^ 64 := by omega
                                                                       exact Int.ofNat_lt.mp (by simpa using this))
theorem mokv (i j : Int) : mulOk i (1 - 2 * (j % 2)) = true := mokW _ _ (by omega)
def road (ns : List Int) (k : Int) : Int :=
  let c0 := ns[0]?.getD 0
  let c1 := ns[1]?.getD 0
  let step := if 0 < c0 % 3 then c0 % 10 ^ 40 + 1 else 1
  let shift := if 0 < c1 % 3 then c1 % 10 ^ 40 else 0
  let r := step * (((1 + c1 / 3 % 66) * k + c0 / 3 % 67) % 67 + 1) + shift
  if c1 % 5 = 4 then 10 ^ 60 - r else r
def cellAt (ns : List Int) (k : Nat) : Int := ns[k]?.getD 0
def turnedL (xs : List Int) : List Int := match xs.min? with
  | some m => xs.drop (xs.idxOf m) ++ xs.take (xs.idxOf m)
  | none => []
def putIn (r : List Int) (k : Int) (e : Int) : List Int := r.take k.toNat ++ [e] ++ r.drop k.toNat
def rowAt (m : List (List Int)) (a : Int) : List Int := m[a.toNat]?.getD []
def putAt (m : List (List Int)) (a k e : Int) : List (List Int) := m.set a.toNat (putIn (rowAt m a) k e)
def endOf (ns : List Int) (k : Nat) (c : Int) : Int := road ns k * (1 - 2 * (c % 2))
def turnA (ns : List Int) (P : Int) (m : List (List Int)) (k : Nat) (c : Int) : List (List Int) := putAt m (c * 48271 % 10007 % P) (c * 16807 % 10009 % ((rowAt m (c * 48271 % 10007 % P)).length + 1)) (endOf ns k c)
def turnB (ns : List Int) (P : Int) (m : List (List Int)) (k : Nat) (c : Int) : List (List Int) := putAt m (c * 69621 % 10037 % P) (c * 39373 % 10039 % ((rowAt m (c * 69621 % 10037 % P)).length + 1)) (-endOf ns k c)
def turnStep (ns : List Int) (P : Int) (m : List (List Int)) (p : Int × Nat) : List (List Int) := turnB ns P (turnA ns P m p.2 p.1) p.2 p.1
def turnsL (ns : List Int) (P : Int) (cells : List Int) : List (List Int) := cells.zipIdx.foldl (turnStep ns P) (List.replicate P.toNat [])
def placesN (ns : List Int) (start : Nat) : Int := if start < ns.length then 1 + cellAt ns 2 % 30 else cellAt ns 2 % 30
def cells (ns : List Int) (start : Nat) : List Int := (ns.drop start).take 60
def goodL (m : List (List Int)) : List (List Int) := srtR (m.map turnedL)
@[simp] theorem putIn_len {r : List Int} {k e : Int} : (putIn r k e).length = r.length + 1 := by simp [putIn]; omega
@[simp] theorem putAt_len {m : List (List Int)} {a k e : Int} : (putAt m a k e).length = m.length := by simp [putAt]
theorem putIn_perm {r : List Int} {k e : Int} : (putIn r k e).Perm (e :: r) := by
  unfold putIn
  have : (r.take k.toNat ++ [e] ++ r.drop k.toNat).Perm ([e] ++ r.take k.toNat ++ r.drop k.toNat) := List.perm_append_comm.append_right _
  simpa using this
theorem turned_perm {xs : List Int} : (turnedL xs).Perm xs := by
  unfold turnedL
  split
  · exact List.perm_append_comm.trans (by rw [List.take_append_drop])
  · rename_i h; rw [List.min?_eq_none_iff.mp h]
@[simp] theorem turned_len {xs : List Int} : (turnedL xs).length = xs.length := turned_perm.length_eq
theorem argmin {xs : List Int} {a : Nat} (ha : a < xs.length) (h1 : ∀ j (h : j < xs.length), xs[a] ≤ xs[j]) (h2 : ∀ j (h : j < a), xs[a] < xs[j]) : turnedL xs = xs.drop a ++ xs.take a := by
  have hm : xs.min? = some xs[a] := by
    rw [List.min?_eq_some_iff]
    refine ⟨List.getElem_mem ha, fun b hb => ?_⟩
    obtain ⟨j, hj, rfl⟩ := List.mem_iff_getElem.mp hb
    exact h1 j hj
  have hi : xs.idxOf xs[a] = a := by
    rw [List.idxOf, List.findIdx_eq ha]
    refine ⟨by simp, fun j hj => ?_⟩
    have := h2 j hj
    simp; omega
  simp only [turnedL, hm, hi]
/-! how long rows get -/
def rowsLe (m : List (List Int)) (n : Nat) : Prop := ∀ r ∈ m, r.length ≤ n
theorem rowsLe.mono {m : List (List Int)} {n n' : Nat} (h : rowsLe m n) (q : n ≤ n') : rowsLe m n' := fun r hr => Nat.le_trans (h r hr) q
theorem rowAt_le {m : List (List Int)} {n : Nat} {a : Int} (h : rowsLe m n) : (rowAt m a).length ≤ n := by
  unfold rowAt
  cases e : m[a.toNat]? with
  | none => simp
  | some r => exact h r (List.mem_of_getElem? e)
theorem putAt_le {m : List (List Int)} {n : Nat} {a k e : Int} (h : rowsLe m n) : rowsLe (putAt m a k e) (n + 1) := by
  intro r hr
  rcases List.mem_or_eq_of_mem_set hr with hr | rfl
  · have := h r hr; omega
  · have := rowAt_le (a := a) h; simp; omega
theorem foldl_snoc {α β : Type} (f : β → α → β) (b : β) (l : List α) (a : α) : (l ++ [a]).foldl f b = f (l.foldl f b) a := by simp
theorem turns_len {ns : List Int} {P : Int} (l : List (Int × Nat)) (m : List (List Int)) : (l.foldl (turnStep ns P) m).length = m.length := by
  induction l generalizing m with
  | nil => rfl
  | cons x l ih => rw [List.foldl_cons, ih]; simp [turnStep, turnA, turnB]
theorem turns_le {ns : List Int} {P : Int} (l : List (Int × Nat)) (m : List (List Int)) (n : Nat) (h : rowsLe m n) : rowsLe (l.foldl (turnStep ns P) m) (n + 2 * l.length) := by
  induction l generalizing m n with
  | nil => exact h.mono (by omega)
  | cons x l ih => rw [List.foldl_cons]; exact (ih _ (n + 2) (putAt_le (putAt_le h))).mono (by simp; omega)
theorem rep_le (n k : Nat) : rowsLe (List.replicate n []) k := fun r hr => by rw [(List.mem_replicate.mp hr).2]; simp
@[simp] theorem turnsL_len {ns : List Int} {P : Int} {cs : List Int} : (turnsL ns P cs).length = P.toNat := by rw [turnsL, turns_len]; simp
theorem turnsL_le {ns : List Int} {P : Int} {cs : List Int} : rowsLe (turnsL ns P cs) (2 * cs.length) := (turns_le _ _ 0 (rep_le _ _)).mono (by simp)
theorem rowAt_get {m : List (List Int)} {a : Int} (h0 : 0 ≤ a) (h : a < m.length) : m[a.toNat]? = some (rowAt m a) := by
  unfold rowAt
  rw [List.getElem?_eq_getElem (by omega)]; rfl
theorem emod_lt {a b : Int} (h : 0 < b) : 0 ≤ a % b ∧ a % b < b := ⟨Int.emod_nonneg _ (by omega), Int.emod_lt_of_pos _ h⟩
@[simp] theorem cut_midN {α : Type} (xs : List α) {i j : Nat} : cutT xs (some (i : Int)) (some (j : Int)) = (xs.drop i).take (j - i) := by
  rw [cut_mid _ (by omega) (by omega)]; simp
@[simp] theorem cut_midP {α : Type} (xs : List α) {i j : Nat} : cutT xs (some (i : Int)) (some ((i : Int) + (j : Nat))) = (xs.drop i).take j := by
  rw [cut_mid _ (by omega) (by omega)]; congr 1; omega
@[simp] theorem cut_midO {α : Type} (xs : List α) {i : Nat} {k : Int} (h : 0 ≤ k) : cutT xs (some (i : Int)) (some ((i : Int) + k)) = (xs.drop i).take k.toNat := by
  rw [cut_mid _ (by omega) (by omega)]; congr 1; omega
@[simp] theorem md_set {α : Type} {l : List α} {i : Nat} {f : α → α} {t : α} : (l.modify i f).set i t = l.set i t := by
  apply List.ext_getElem?
  intro j
  simp only [List.getElem?_set, List.getElem?_modify, List.length_modify]
  by_cases h : i = j <;> simp [h]
end TL
namespace TL
open PySem PySem.Spec L2
/-! ## Dicts of numbers -/
abbrev aB (b : Bool) : T := .atm (.bl b)
section
variable {β : Type}
def dget : List (Int × β) → Int → Option β
  | [], _ => none
  | p :: d, k => if p.1 = k then some p.2 else dget d k
def dset : List (Int × β) → Int → β → List (Int × β)
  | [], k, v => [(k, v)]
  | p :: d, k, v => if p.1 = k then (k, v) :: d else p :: dset d k v
/-- no key twice -/
def dok (d : List (Int × β)) : Prop := (d.map (·.1)).Nodup
theorem dget_set (d : List (Int × β)) (k : Int) (v : β) (j : Int) : dget (dset d k v) j = if k = j then some v else dget d j := by
  induction d with
  | nil => simp [dset, dget]
  | cons p d ih =>
    simp only [dset]
    by_cases h : p.1 = k
    · rw [if_pos h]
      simp only [dget]
      by_cases h2 : k = j
      · simp [h2]
      · rw [if_neg h2, if_neg h2, if_neg (by omega)]
    · rw [if_neg h]
      simp only [dget, ih]
      by_cases h2 : p.1 = j
      · rw [if_pos h2, if_pos h2, if_neg (by omega)]
      · rw [if_neg h2, if_neg h2]
theorem dset_keys (d : List (Int × β)) (k : Int) (v : β) : (dset d k v).map (·.1) = if (dget d k).isSome = true then d.map (·.1) else d.map (·.1) ++ [k] := by
  induction d with
  | nil => simp [dset, dget]
  | cons p d ih =>
    simp only [dset, dget]
    by_cases h : p.1 = k
    · simp [h]
    · simp only [if_neg h, List.map_cons, ih]
      split <;> simp
theorem dget_mem {d : List (Int × β)} {k : Int} : (dget d k).isSome = true ↔ k ∈ d.map (·.1) := by
  induction d with
  | nil => simp [dget]
  | cons p d ih =>
    simp only [dget]
    by_cases h : p.1 = k
    · simp [h]
    · simp only [if_neg h, ih, List.map_cons, List.mem_cons]
      constructor
      · exact fun q => .inr q
      · rintro (q | q)
        · exact absurd q.symm h
        · exact q
theorem dok_set {d : List (Int × β)} (h : dok d) (k : Int) (v : β) : dok (dset d k v) := by
  unfold dok
  rw [dset_keys]
  split
  · exact h
  · rename_i q
    rw [List.nodup_append]
    refine ⟨h, by simp, fun a ha b hb => ?_⟩
    simp at hb; subst hb
    rintro rfl
    exact q (dget_mem.mpr ha)
theorem dset_len (d : List (Int × β)) (k : Int) (v : β) : (dset d k v).length ≤ d.length + 1 := by
  induction d with
  | nil => simp [dset]
  | cons p d ih => simp only [dset]; split <;> simp <;> omega
theorem dset_new {d : List (Int × β)} {k : Int} {v : β} (h : k ∉ d.map (·.1)) : dset d k v = d ++ [(k, v)] := by
  induction d with
  | nil => rfl
  | cons p d ih =>
    simp only [List.map_cons, List.mem_cons, not_or] at h
    simp only [dset, if_neg (fun q => h.1 q.symm : ¬ p.1 = k), ih h.2, List.cons_append]
def ksD (d : List (Int × β)) : List Key := d.map fun p => .inl p.1
def vsD (f : β → T) (d : List (Int × β)) : List T := d.map fun p => f p.2
variable {f : β → T} {d : List (Int × β)} {k : Int} {v : β}
@[simp] theorem ksD_nil : ksD ([] : List (Int × β)) = [] := rfl
@[simp] theorem vsD_nil : vsD f [] = [] := rfl
@[simp] theorem ksD_len : (ksD d).length = d.length := by simp [ksD]
@[simp] theorem vsD_len : (vsD f d).length = d.length := by simp [vsD]
@[simp] theorem ksD_emp : (ksD d).isEmpty = d.isEmpty := by cases d <;> rfl
theorem vsD_allF (h : ∀ b, (f b).allF = true) : T.allFL (vsD f d) = true := by
  induction d with
  | nil => rfl
  | cons p d ih => simpa [vsD, h] using ih
theorem vsD_allO (h : ∀ b, (f b).allO = true) : T.allOL (vsD f d) = true := by
  induction d with
  | nil => rfl
  | cons p d ih => simpa [vsD, h] using ih
theorem vsD_fz : T.fzL (vsD f d) = vsD (fun b => (f b).fz) d := by
  induction d with
  | nil => rfl
  | cons p d ih => simpa [vsD] using ih
theorem hasK_D : hasK (ksD d) (.inl k) = (dget d k).isSome := by
  induction d with
  | nil => rfl
  | cons p d ih =>
    have : hasK (ksD (p :: d)) (.inl k) = (decide (p.1 = k) || hasK (ksD d) (.inl k)) := by simp [hasK, ksD]
    rw [this, ih]
    by_cases h : p.1 = k <;> simp [dget, h]
theorem idxK_D : idxK (ksD d) (.inl k) = if (dget d k).isSome = true then some (d.findIdx fun p => decide (p.1 = k)) else none := by
  induction d with
  | nil => rfl
  | cons p d ih =>
    have : ksD (p :: d) = .inl p.1 :: ksD d := rfl
    rw [this]
    simp only [idxK, Sum.inl.injEq, ih, dget, List.findIdx_cons]
    by_cases h : p.1 = k
    · simp [h]
    · simp only [h, if_false, decide_false, cond_false]
      split <;> rfl
theorem dget_at (h : dget d k = some v) : (vsD f d)[d.findIdx fun p => decide (p.1 = k)]? = some (f v) := by
  induction d with
  | nil => simp [dget] at h
  | cons p d ih =>
    simp only [dget] at h
    rw [List.findIdx_cons]
    by_cases e : p.1 = k
    · rw [if_pos e] at h
      simp only [e, decide_true, cond_true]
      simp only [Option.some.injEq] at h
      simp [vsD, h]
    · rw [if_neg e] at h
      simp only [e, decide_false, cond_false]
      have : vsD f (p :: d) = f p.2 :: vsD f d := rfl
      rw [this, List.getElem?_cons_succ]
      exact ih h
theorem putL_D (ok : dok d) (h : (dget d k).isSome = true) : putL (ksD d) (.inl k) (f v) (vsD f d) = vsD f (dset d k v) := by
  induction d with
  | nil => simp [dget] at h
  | cons p d ih =>
    have e1 : ksD (p :: d) = .inl p.1 :: ksD d := rfl
    have e2 : vsD f (p :: d) = f p.2 :: vsD f d := rfl
    have ok' : dok d := by unfold dok at ok ⊢; exact (List.nodup_cons.mp ok).2
    rw [e1, e2]
    simp only [putL, List.zip_cons_cons, List.map_cons, Sum.inl.injEq, dset]
    by_cases e : p.1 = k
    · rw [if_pos e, if_pos e]
      have nm : k ∉ d.map (·.1) := by unfold dok at ok; rw [← e]; exact (List.nodup_cons.mp ok).1
      have : ∀ d : List (Int × β), k ∉ d.map (·.1) → ((ksD d).zip (vsD f d)).map (fun p => if p.1 = .inl k then f v else p.2) = vsD f d := by
        intro d
        induction d with
        | nil => intro _; rfl
        | cons q d ih =>
          intro h
          simp only [List.map_cons, List.mem_cons, not_or] at h
          have e1 : ksD (q :: d) = .inl q.1 :: ksD d := rfl
          have e2 : vsD f (q :: d) = f q.2 :: vsD f d := rfl
          rw [e1, e2, List.zip_cons_cons, List.map_cons, ih h.2, if_neg (by simp; exact fun q => h.1 q.symm)]
      rw [this d nm]; rfl
    · rw [if_neg e, if_neg e]
      simp only [dget, if_neg e] at h
      have := ih ok' h
      simp only [putL] at this
      rw [this]; rfl
theorem setF_D (ok : dok d) (hz : d.length < sizeLine) (hf : (f v).allF = true) : setF (.dct (ksD d)) (vsD f d) (.atm (.int k)) (f v) = some (.dct (ksD (dset d k v)), vsD f (dset d k v)) := by
  simp only [setF, T.key, ksD_len, hz, if_true, hasK_D, hf]
  split
  · rename_i h
    rw [putL_D ok h]
    have : ksD (dset d k v) = ksD d := by
      have := dset_keys d k v
      rw [if_pos h] at this
      simp only [ksD]
      have e2 := congrArg (List.map (Sum.inl : Int → Key)) this
      simpa [List.map_map, Function.comp_def] using e2
    rw [this]
  · rename_i h
    rw [dset_new (fun q => h (dget_mem.mpr q))]
    simp [ksD, vsD]
@[simp] theorem setF_I {d : List (Int × Int)} {k v : Int} (ok : dok d) (hz : d.length < sizeLine) : setF (.dct (ksD d)) (vsD aI d) (.atm (.int k)) (.atm (.int v)) = some (.dct (ksD (dset d k v)), vsD aI (dset d k v)) := setF_D (f := aI) ok hz rfl
@[simp] theorem setF_B {d : List (Int × Bool)} {k : Int} {v : Bool} (ok : dok d) (hz : d.length < sizeLine) : setF (.dct (ksD d)) (vsD aB d) (.atm (.int k)) (.atm (.bl v)) = some (.dct (ksD (dset d k v)), vsD aB (dset d k v)) := setF_D (f := aB) ok hz rfl
@[simp] theorem vsI_allF {d : List (Int × Int)} : T.allFL (vsD aI d) = true := vsD_allF fun _ => rfl
@[simp] theorem vsI_allO {d : List (Int × Int)} : T.allOL (vsD aI d) = true := vsD_allO fun _ => rfl
@[simp] theorem vsI_fz {d : List (Int × Int)} : T.fzL (vsD aI d) = vsD aI d := vsD_fz
@[simp] theorem vsB_allF {d : List (Int × Bool)} : T.allFL (vsD aB d) = true := vsD_allF fun _ => rfl
@[simp] theorem vsB_allO {d : List (Int × Bool)} : T.allOL (vsD aB d) = true := vsD_allO fun _ => rfl
@[simp] theorem vsB_fz {d : List (Int × Bool)} : T.fzL (vsD aB d) = vsD aB d := vsD_fz
/-! reading -/
@[simp] theorem ixJ_D {e : Ev} {m : Md} {s : S} (h : dget d k = some v) (hf : (f v).allF = true) : ixJ e (vsD f d) m s (idxK (ksD d) (.inl k)) = .ok (.v (f v)) m s := by
  rw [idxK_D, h]
  simp only [Option.isSome_some, if_true, k_ixJ, dget_at h, k_ixO, k_ixC_f hf]
@[simp] theorem inF_D {neg o : Bool} {ts : List T} : inF neg [.atm (.int k), .box o (.dct (ksD d)) ts] = some (.a (.bl (neg ^^ (dget d k).isSome))) := by
  simp only [inF, T.key, hasK_D]
@[simp] theorem getF_I {o : Bool} {d : List (Int × Int)} {k v : Int} (h : dget d k = some v) : getF [.box o (.dct (ksD d)) (vsD aI d), .atm (.int k)] = some (.a (.int v)) := by
  simp only [getF, T.key, idxK_D, h, Option.isSome_some, if_true, getV, dget_at (f := aI) h]
end
@[simp] theorem f_dn : setF (.dct []) [] = setF (.dct (ksD ([] : List (Int × Int)))) (vsD aI []) := rfl
/-! the places of ends -/
def placesS (d : List (Int × Int)) (p : List Int × Nat) : List (Int × Int) := p.1.foldl (fun d e => dset d e (p.2 : Int)) d
def placesD (m : List (List Int)) : List (Int × Int) := m.zipIdx.foldl placesS []
theorem dsets_ok (n : Int) (q : List Int) (D : List (Int × Int)) (h : dok D) : dok (q.foldl (fun d e => dset d e n) D) ∧ (q.foldl (fun d e => dset d e n) D).length ≤ D.length + q.length := by
  induction q generalizing D with
  | nil => exact ⟨h, by simp⟩
  | cons x q ih =>
    rw [List.foldl_cons]
    obtain ⟨h1, h2⟩ := ih _ (dok_set h x n)
    have := dset_len D x n
    exact ⟨h1, by simp; omega⟩
theorem places_ok (l : List (List Int × Nat)) (D : List (Int × Int)) (h : dok D) : dok (l.foldl placesS D) ∧ (l.foldl placesS D).length ≤ D.length + (l.map (·.1)).flatten.length := by
  induction l generalizing D with
  | nil => exact ⟨h, by simp⟩
  | cons x l ih =>
    rw [List.foldl_cons]
    obtain ⟨h3, h4⟩ := dsets_ok (x.2 : Int) x.1 D h
    obtain ⟨h1, h2⟩ := ih (placesS D x) h3
    refine ⟨h1, ?_⟩
    have : (placesS D x).length ≤ D.length + x.1.length := h4
    simp only [List.map_cons, List.flatten_cons, List.length_append]
    omega
theorem dok_nil : dok ([] : List (Int × Int)) := by simp [dok]
theorem placesS_ok (m : List (List Int)) (pre post : List (List Int × Nat)) (e : m.zipIdx = pre ++ post) : dok (pre.foldl placesS []) ∧ (pre.foldl placesS []).length ≤ (pre.map (·.1)).flatten.length := by
  simpa using places_ok pre [] dok_nil
theorem placesS_len (m : List (List Int)) (pre : List (List Int × Nat)) (x : List Int × Nat) (post : List (List Int × Nat)) (e : m.zipIdx = pre ++ x :: post) : (pre.foldl placesS []).length + x.1.length ≤ m.flatten.length := by
  have h := (placesS_ok m pre _ e).2
  have := congrArg (fun l => (l.map (·.1)).flatten.length) e
  simp only [List.zipIdx_map_fst, List.map_append, List.map_cons, List.flatten_append, List.flatten_cons, List.length_append] at this
  omega
@[simp] theorem f_isi_dd {o : Bool} {ks : List Key} {xs : List T} : isiF [.box o (.dct ks) xs, .atm (.ty "dict")] = some (.a (.bl true)) := by rfl
@[simp] theorem f_isi_bb {b : Bool} : isiF [.atm (.bl b), .atm (.ty "bool")] = some (.a (.bl true)) := by rfl
@[simp] theorem d_bool2 {a b : Bool} : PyData.eqv (.bool a) (.bool b) = decide (a = b) := by cases a <;> cases b <;> simp [PyData.eqv]
@[simp] theorem f_isi_ss {z : Str} : isiF [.atm (.str z), .atm (.ty "str")] = some (.a (.bl true)) := by rfl
@[simp] theorem k_isD {o : Bool} {ks : List Key} {xs : List T} : isDct (.box o (.dct ks) xs) = true := (rfl)
theorem dget_of_mem {β : Type} {d : List (Int × β)} {k : Int} {v : β} (ok : dok d) (h : (k, v) ∈ d) : dget d k = some v := by
  induction d with
  | nil => simp at h
  | cons p d ih =>
    simp only [dok, List.map_cons, List.nodup_cons] at ok
    simp only [dget]
    rcases List.mem_cons.mp h with e | h
    · subst e; simp
    · have : k ∈ d.map (·.1) := List.mem_map.mpr ⟨_, h, rfl⟩
      rw [if_neg (fun q => ok.1 (by rw [q]; exact this))]
      exact ih ok.2 h
theorem dsets_new (n : Int) (q : List Int) (D : List (Int × Int)) (h : (D.map (·.1) ++ q).Nodup) : q.foldl (fun d e => dset d e n) D = D ++ q.map fun e => (e, n) := by
  induction q generalizing D with
  | nil => simp
  | cons x q ih =>
    rw [List.foldl_cons]
    have hx : x ∉ D.map (·.1) := by
      intro hx
      have := (List.nodup_append.mp h).2.2 x hx x (by simp)
      exact this rfl
    rw [dset_new hx, ih _ (by simpa [List.map_append] using h)]
    simp
theorem places_new (l : List (List Int × Nat)) (D : List (Int × Int)) (h : (D.map (·.1) ++ (l.map (·.1)).flatten).Nodup) : l.foldl placesS D = D ++ l.flatMap fun p => p.1.map fun e => (e, (p.2 : Int)) := by
  induction l generalizing D with
  | nil => simp
  | cons x l ih =>
    rw [List.foldl_cons]
    simp only [List.map_cons, List.flatten_cons] at h
    have h1 : placesS D x = D ++ x.1.map fun e => (e, (x.2 : Int)) := dsets_new _ _ _ (by rw [← List.append_assoc] at h; exact (List.nodup_append.mp h).1)
    rw [h1, ih _ (by simpa [List.map_append, List.map_map, Function.comp_def] using h)]
    simp
theorem placesD_eq {m : List (List Int)} (nd : m.flatten.Nodup) : placesD m = m.zipIdx.flatMap fun p => p.1.map fun e => (e, (p.2 : Int)) := by
  have := places_new m.zipIdx [] (by simpa using nd)
  simpa [placesD] using this
theorem placesD_keys {m : List (List Int)} (nd : m.flatten.Nodup) : (placesD m).map (·.1) = m.flatten := by
  rw [placesD_eq nd, List.map_flatMap]
  simp only [List.map_map, Function.comp_def, List.map_id']
  rw [List.flatMap_def]
  simp
theorem placesD_len {m : List (List Int)} (nd : m.flatten.Nodup) : (placesD m).length = m.flatten.length := by
  rw [← placesD_keys nd, List.length_map]
theorem placesD_dok {m : List (List Int)} (nd : m.flatten.Nodup) : dok (placesD m) := by unfold dok; rw [placesD_keys nd]; exact nd
theorem placesD_get {m : List (List Int)} (nd : m.flatten.Nodup) {i : Nat} {r : List Int} (hi : m[i]? = some r) {e : Int} (he : e ∈ r) : dget (placesD m) e = some (i : Int) := by
  refine dget_of_mem (placesD_dok nd) ?_
  rw [placesD_eq nd, List.mem_flatMap]
  exact ⟨(r, i), List.mem_zipIdx_iff_getElem?.mpr (by simpa using hi), List.mem_map.mpr ⟨e, he, rfl⟩⟩
theorem zip_at {α : Type} {l : List α} {pre : List (α × Nat)} {x : α} {n : Nat} {post : List (α × Nat)} (e : l.zipIdx = pre ++ (x, n) :: post) : n = pre.length ∧ l[n]? = some x := by
  have h1 := congrArg (fun l => l[pre.length]?) e
  simp at h1
  obtain ⟨y, h2, rfl, rfl⟩ := h1
  exact ⟨rfl, h2⟩
@[simp] theorem b_in {neg o : Bool} {x : Int} {xs : List Int} : inF neg [.atm (.int x), .box o .lst (xs.map aI)] = some (.a (.bl (neg ^^ decide (x ∈ xs)))) := by
  simp only [inF, fit_ints, f_fit_i, and_self, if_true, d_ints, d_int]
  congr 4
  induction xs with
  | nil => simp
  | cons y ys ih =>
    simp only [List.map_cons, List.any_cons, ih, e_int, List.mem_cons]
    by_cases h : y = x
    · simp [h]
    · have : ¬ x = y := fun q => h q.symm
      simp [h, this]
/-! neighbours -/
def nbStep (D : List (Int × Int)) (i : Int) (row : List Int) (e : Int) : List Int := if (dget D (-e)).getD 0 ≠ i ∧ (dget D (-e)).getD 0 ∉ row then row ++ [(dget D (-e)).getD 0] else row
def nbRow (D : List (Int × Int)) (i : Int) (r : List Int) : List Int := r.foldl (nbStep D i) []
def nbrs (m : List (List Int)) : List (List Int) := m.zipIdx.map fun p => nbRow (placesD m) p.2 p.1
theorem nb_len (D : List (Int × Int)) (i : Int) (r row : List Int) : (r.foldl (nbStep D i) row).length ≤ row.length + r.length := by
  induction r generalizing row with
  | nil => simp
  | cons x r ih =>
    rw [List.foldl_cons]
    have := ih (nbStep D i row x)
    have h2 : (nbStep D i row x).length ≤ row.length + 1 := by unfold nbStep; split <;> simp
    simp; omega
/-- each end's other end is there -/
def closed (m : List (List Int)) : Prop := ∀ e ∈ m.flatten, -e ∈ m.flatten
theorem placesD_some {m : List (List Int)} (nd : m.flatten.Nodup) {e : Int} (h : e ∈ m.flatten) : ∃ (i : Nat) (r : List Int), m[i]? = some r ∧ e ∈ r ∧ dget (placesD m) e = some (i : Int) := by
  obtain ⟨r, hr, he⟩ := List.mem_flatten.mp h
  obtain ⟨i, hi⟩ := List.mem_iff_getElem?.mp hr
  exact ⟨i, r, hi, he, placesD_get nd hi he⟩
theorem len_flat {m : List (List Int)} {r : List Int} (h : r ∈ m) : r.length ≤ m.flatten.length := by
  induction m with
  | nil => simp at h
  | cons x m ih =>
    rcases List.mem_cons.mp h with rfl | h
    · simp
    · have := ih h; simp; simp at this; omega
end TL
namespace TL
open PySem PySem.Spec L2
/-! ## The roads of a built map -/
theorem prime67 : ∀ t : Fin 67, ∀ d : Fin 67, (t.val * d.val) % 67 = 0 → t.val = 0 ∨ d.val = 0 := by decide +kernel
theorem mul67 {t d : Int} (h1 : 1 ≤ t) (h2 : t ≤ 66) (h3 : 0 ≤ d) (h4 : d ≤ 66) (h : (t * d) % 67 = 0) : d = 0 := by
  obtain ⟨a, rfl⟩ := Int.eq_ofNat_of_zero_le (by omega : 0 ≤ t)
  obtain ⟨b, rfl⟩ := Int.eq_ofNat_of_zero_le h3
  have := prime67 ⟨a, by omega⟩ ⟨b, by omega⟩ (by
    have : ((a * b : Nat) : Int) % 67 = 0 := by simpa using h
    show (a * b) % 67 = 0
    omega)
  simp at this
  omega
theorem lin67 {t c k k' : Int} (h1 : 1 ≤ t) (h2 : t ≤ 66) (h3 : k' ≤ k) (h4 : k - k' ≤ 66) (h : (t * k + c) % 67 = (t * k' + c) % 67) : k = k' := by
  have e : t * k + c = t * (k - k') + (t * k' + c) := by rw [Int.mul_sub]; omega
  have : (t * (k - k')) % 67 = 0 := by
    generalize t * (k - k') = u at e
    generalize t * k + c = v at e h
    generalize t * k' + c = w at e h
    omega
  have := mul67 h1 h2 (by omega) h4 this
  omega
def stepN (c0 : Int) : Int := if 0 < c0 % 3 then c0 % 10 ^ 40 + 1 else 1
def shiftN (c1 : Int) : Int := if 0 < c1 % 3 then c1 % 10 ^ 40 else 0
theorem road_eq (ns : List Int) (k : Int) : road ns k = (let r := stepN (ns[0]?.getD 0) * (((1 + ns[1]?.getD 0 / 3 % 66) * k + ns[0]?.getD 0 / 3 % 67) % 67 + 1) + shiftN (ns[1]?.getD 0)
    if ns[1]?.getD 0 % 5 = 4 then 10 ^ 60 - r else r) := rfl
theorem step_ok (c : Int) : 1 ≤ stepN c ∧ stepN c ≤ 10 ^ 40 := by
  unfold stepN
  split <;> constructor <;> omega
theorem shift_ok (c : Int) : 0 ≤ shiftN c ∧ shiftN c < 10 ^ 40 := by
  unfold shiftN
  split <;> constructor <;> omega
theorem road_ok (ns : List Int) (k : Int) : 0 < road ns k ∧ road ns k < 10 ^ 60 := by
  rw [road_eq]
  obtain ⟨s1, s2⟩ := step_ok (ns[0]?.getD 0)
  obtain ⟨s3, s4⟩ := shift_ok (ns[1]?.getD 0)
  generalize hu : ((1 + ns[1]?.getD 0 / 3 % 66) * k + ns[0]?.getD 0 / 3 % 67) % 67 + 1 = u
  have u1 : 1 ≤ u ∧ u ≤ 67 := by omega
  generalize stepN (ns[0]?.getD 0) = st at s1 s2 ⊢
  generalize shiftN (ns[1]?.getD 0) = sh at s3 s4 ⊢
  have m1 : 1 * 1 ≤ st * u := Int.mul_le_mul s1 u1.1 (by omega) (by omega)
  have m2 : st * u ≤ 10 ^ 40 * 67 := Int.mul_le_mul s2 u1.2 (by omega) (by omega)
  generalize st * u = w at m1 m2 ⊢
  simp only
  split <;> omega
theorem acr {a b : Int} (h : a + 1 = b + 1) : a = b := by omega
theorem road_inj (ns : List Int) {k k' : Int} (h0 : 0 ≤ k) (h0' : 0 ≤ k') (h1 : k ≤ 66) (h1' : k' ≤ 66) (h : road ns k = road ns k') : k = k' := by
  rw [road_eq, road_eq] at h
  obtain ⟨s1, s2⟩ := step_ok (ns[0]?.getD 0)
  have h2 : stepN (ns[0]?.getD 0) * (((1 + ns[1]?.getD 0 / 3 % 66) * k + ns[0]?.getD 0 / 3 % 67) % 67 + 1) = stepN (ns[0]?.getD 0) * (((1 + ns[1]?.getD 0 / 3 % 66) * k' + ns[0]?.getD 0 / 3 % 67) % 67 + 1) := by
    generalize stepN (ns[0]?.getD 0) * (((1 + ns[1]?.getD 0 / 3 % 66) * k + ns[0]?.getD 0 / 3 % 67) % 67 + 1) = a at h ⊢
    generalize stepN (ns[0]?.getD 0) * (((1 + ns[1]?.getD 0 / 3 % 66) * k' + ns[0]?.getD 0 / 3 % 67) % 67 + 1) = b at h ⊢
    simp only at h
    split at h <;> omega
  have h3 := Int.eq_of_mul_eq_mul_left (by omega) h2
  have ht1 : 1 ≤ 1 + (ns[1]?.getD (0 : Int)) / 3 % 66 := by omega
  have ht2 : 1 + (ns[1]?.getD (0 : Int)) / 3 % 66 ≤ 66 := by omega
  rcases Int.le_total k' k with q | q
  · exact lin67 ht1 ht2 q (by omega) (acr h3)
  · exact (lin67 ht1 ht2 q (by omega) (acr h3).symm).symm
/-- the roads of n cells -/
def rds (ns : List Int) (n : Nat) : List Int := (List.range n).map fun k : Nat => road ns k
@[simp] theorem rds_len {ns : List Int} {n : Nat} : (rds ns n).length = n := by simp [rds]
theorem rds_pos {ns : List Int} {n : Nat} {e : Int} (h : e ∈ rds ns n) : 0 < e ∧ e < 10 ^ 60 := by
  obtain ⟨k, _, rfl⟩ := List.mem_map.mp h
  exact road_ok ns k
theorem rds_nodup {ns : List Int} {n : Nat} (hn : n ≤ 67) : (rds ns n).Nodup := by
  unfold rds
  rw [List.Nodup, List.pairwise_map]
  have := List.nodup_range (n := n)
  refine List.Pairwise.imp_of_mem (R := fun a b => a ≠ b) ?_ this
  intro a b ha hb hab h
  simp at ha hb
  have := road_inj ns (k := a) (k' := b) (by omega) (by omega) (by omega) (by omega) h
  omega
/-- the ends of n cells -/
def eds (ns : List Int) (n : Nat) : List Int := (rds ns n).flatMap fun r => [r, -r]
theorem set_perm {m : List (List Int)} {i : Nat} {r : List Int} {e : Int} (h : i < m.length) (p : r.Perm (e :: m[i])) : (m.set i r).flatten.Perm (e :: m.flatten) := by
  induction m generalizing i with
  | nil => simp at h
  | cons x m ih =>
    cases i with
    | zero =>
      simp only [List.set_cons_zero, List.flatten_cons]
      exact (p.append_right _)
    | succ i =>
      simp only [List.set_cons_succ, List.flatten_cons]
      refine ((ih (by simpa using h) (by simpa using p)).append_left x).trans ?_
      exact List.perm_middle
theorem putAt_perm {m : List (List Int)} {a k e : Int} (h0 : 0 ≤ a) (h : a < m.length) : (putAt m a k e).flatten.Perm (e :: m.flatten) := by
  have hl : a.toNat < m.length := by omega
  have eR : rowAt m a = m[a.toNat] := by unfold rowAt; rw [List.getElem?_eq_getElem hl]; rfl
  exact set_perm hl (by rw [← eR]; exact putIn_perm)
theorem endOf_or (ns : List Int) (k : Nat) (c : Int) : endOf ns k c = road ns k ∨ endOf ns k c = -road ns k := by
  unfold endOf
  rcases (by omega : c % 2 = 0 ∨ c % 2 = 1) with h | h <;> rw [h]
  · left; omega
  · right; omega
theorem step_perm {ns : List Int} {P : Int} {m : List (List Int)} (hP : 0 < P) (hm : (m.length : Int) = P) (p : Int × Nat) : (turnStep ns P m p).flatten.Perm (m.flatten ++ [road ns p.2, -road ns p.2]) := by
  unfold turnStep
  obtain ⟨a1, a2⟩ := emod_lt (a := p.1 * 48271 % 10007) hP
  obtain ⟨b1, b2⟩ := emod_lt (a := p.1 * 69621 % 10037) hP
  refine (putAt_perm b1 (by simp [turnA, hm]; exact b2)).trans ?_
  refine (List.Perm.cons _ (putAt_perm a1 (by rw [hm]; exact a2))).trans ?_
  have : (-endOf ns p.2 p.1 :: endOf ns p.2 p.1 :: m.flatten).Perm (road ns p.2 :: -road ns p.2 :: m.flatten) := by
    rcases endOf_or ns p.2 p.1 with h | h <;> rw [h]
    · exact .swap _ _ _
    · rw [Int.neg_neg]
  refine this.trans ?_
  have : (([road ns p.2, -road ns p.2] : List Int) ++ m.flatten).Perm (m.flatten ++ [road ns p.2, -road ns p.2]) := List.perm_append_comm
  simpa using this
theorem turns_perm {ns : List Int} {P : Int} (hP : 0 < P) (l : List (Int × Nat)) (m : List (List Int)) (hm : (m.length : Int) = P) : (l.foldl (turnStep ns P) m).flatten.Perm (m.flatten ++ l.flatMap fun p => [road ns p.2, -road ns p.2]) := by
  induction l generalizing m with
  | nil => simp
  | cons x l ih =>
    rw [List.foldl_cons]
    refine (ih _ (by simpa [turnStep, turnA, turnB] using hm)).trans ?_
    rw [List.flatMap_cons, ← List.append_assoc]
    exact (step_perm hP hm x).append_right _
theorem eds_eq (ns : List Int) (cs : List Int) : (cs.zipIdx.flatMap fun p => [road ns p.2, -road ns p.2]) = eds ns cs.length := by
  have : cs.zipIdx.map (·.2) = List.range cs.length := by rw [List.zipIdx_map_snd, List.range_eq_range']
  unfold eds rds
  rw [← this, List.map_map, List.flatMap_map]
  rfl
theorem turnsL_perm {ns : List Int} {P : Int} {cs : List Int} (h : cs ≠ [] → 0 < P) : (turnsL ns P cs).flatten.Perm (eds ns cs.length) := by
  by_cases hc : cs = []
  · subst hc
    simp [turnsL, eds, rds]
  · rw [← eds_eq]
    have := turns_perm (ns := ns) (h hc) cs.zipIdx (List.replicate P.toNat []) (by have := h hc; simp; omega)
    simpa [turnsL] using this
theorem map_turned_perm (m : List (List Int)) : (m.map turnedL).flatten.Perm m.flatten := by
  induction m with
  | nil => exact .nil
  | cons x m ih => simpa using turned_perm.append ih
theorem goodL_perm (m : List (List Int)) : (goodL m).flatten.Perm m.flatten := (srtR_perm.flatten).trans (map_turned_perm m)
@[simp] theorem goodL_len {m : List (List Int)} : (goodL m).length = m.length := by simp [goodL]
theorem goodL_le {m : List (List Int)} {n : Nat} (h : rowsLe m n) : rowsLe (goodL m) n := by
  intro r hr
  have := srtR_perm.mem_iff.mp hr
  obtain ⟨x, hx, rfl⟩ := List.mem_map.mp this
  simpa using h x hx
/-- the map of a script -/
def mapOf (ns : List Int) (start : Nat) : List (List Int) := goodL (turnsL ns (placesN ns start) (cells ns start))
theorem places_ok' (ns : List Int) (start : Nat) : 0 ≤ placesN ns start ∧ placesN ns start ≤ 30 ∧ (cells ns start ≠ [] → 0 < placesN ns start) := by
  unfold placesN cells
  refine ⟨by split <;> omega, by split <;> omega, fun h => ?_⟩
  have : start < ns.length := by
    rcases Nat.lt_or_ge start ns.length with q | q
    · exact q
    · exact absurd (by rw [List.drop_of_length_le q]; rfl) h
  rw [if_pos this]; omega
theorem cells_le (ns : List Int) (start : Nat) : (cells ns start).length ≤ 60 := by simp [cells]; omega
theorem mapOf_perm (ns : List Int) (start : Nat) : (mapOf ns start).flatten.Perm (eds ns (cells ns start).length) := (goodL_perm _).trans (turnsL_perm (places_ok' ns start).2.2)
theorem mapOf_len (ns : List Int) (start : Nat) : (mapOf ns start).length = (placesN ns start).toNat := by simp [mapOf]
theorem mapOf_le (ns : List Int) (start : Nat) : rowsLe (mapOf ns start) 120 := goodL_le (turnsL_le.mono (by have := cells_le ns start; omega))
theorem eds_len (ns : List Int) (n : Nat) : (eds ns n).length = 2 * n := by simp [eds, List.length_flatMap, List.map_const', Nat.mul_comm]
theorem mapOf_flat (ns : List Int) (start : Nat) : (mapOf ns start).flatten.length = 2 * (cells ns start).length := by rw [(mapOf_perm ns start).length_eq, eds_len]
theorem eds_perm (ns : List Int) (n : Nat) : (eds ns n).Perm (rds ns n ++ (rds ns n).map fun r => -r) := by
  unfold eds
  induction rds ns n with
  | nil => exact .nil
  | cons x l ih =>
    simp only [List.flatMap_cons, List.map_cons, List.cons_append, List.nil_append]
    refine .cons _ ?_
    exact (ih.cons _).trans List.perm_middle.symm
theorem eds_nodup {ns : List Int} {n : Nat} (hn : n ≤ 67) : (eds ns n).Nodup := by
  rw [(eds_perm ns n).nodup_iff, List.nodup_append]
  refine ⟨rds_nodup hn, ?_, fun a ha b hb => ?_⟩
  · rw [List.Nodup, List.pairwise_map]
    exact (rds_nodup hn).imp fun h q => h (by omega)
  · obtain ⟨r, hr, rfl⟩ := List.mem_map.mp hb
    have := rds_pos ha
    have := rds_pos hr
    omega
theorem mapOf_nodup (ns : List Int) (start : Nat) : (mapOf ns start).flatten.Nodup := by
  rw [(mapOf_perm ns start).nodup_iff]; exact eds_nodup (by have := cells_le ns start; omega)
/-- the ends rising -/
theorem ends_sorted (ns : List Int) (n : Nat) : srtI (eds ns n) = ((srtI (rds ns n)).reverse.map fun r => -r) ++ srtI (rds ns n) := by
  refine int_sorted_eq (srtI_perm.trans ((eds_perm ns n).trans (List.perm_append_comm.trans ?_))) srtI_sorted ?_
  · exact (((srtI_perm.symm.trans (List.reverse_perm _).symm).map _)).append srtI_perm.symm
  · rw [List.pairwise_append]
    refine ⟨?_, srtI_sorted, fun a ha b hb => ?_⟩
    · rw [List.pairwise_map, List.pairwise_reverse]
      exact srtI_sorted.imp fun h => by omega
    · obtain ⟨r, hr, rfl⟩ := List.mem_map.mp ha
      have := rds_pos (srtI_perm.mem_iff.mp (List.mem_reverse.mp hr))
      have := rds_pos (srtI_perm.mem_iff.mp hb)
      omega
theorem roads_sorted (ns : List Int) (n : Nat) : ((srtI (eds ns n)).filter fun e => decide (0 < e)) = srtI (rds ns n) := by
  rw [ends_sorted, List.filter_append, List.filter_eq_nil_iff.mpr, List.nil_append, List.filter_eq_self.mpr]
  · intro e he; have := rds_pos (srtI_perm.mem_iff.mp he); simp; omega
  · intro e he
    obtain ⟨r, hr, rfl⟩ := List.mem_map.mp he
    have := rds_pos (srtI_perm.mem_iff.mp (List.mem_reverse.mp hr))
    simp; omega
theorem eds_mem {ns : List Int} {n : Nat} {e : Int} (h : e ∈ eds ns n) : e ≠ 0 ∧ e.natAbs < 10 ^ 60 := by
  obtain ⟨r, hr, h⟩ := List.mem_flatMap.mp h
  have := rds_pos hr
  simp at h
  rcases h with rfl | rfl <;> omega
theorem mapOf_ends (ns : List Int) (start : Nat) : ∀ r ∈ mapOf ns start, ∀ e ∈ r, e ≠ 0 ∧ e.natAbs < 10 ^ 60 := by
  intro r hr e he
  exact eds_mem ((mapOf_perm ns start).mem_iff.mp (List.mem_flatten.mpr ⟨r, hr, he⟩))
theorem eds_closed {ns : List Int} {n : Nat} {e : Int} (h : e ∈ eds ns n) : -e ∈ eds ns n := by
  obtain ⟨r, hr, h⟩ := List.mem_flatMap.mp h
  refine List.mem_flatMap.mpr ⟨r, hr, ?_⟩
  simp at h ⊢
  rcases h with rfl | rfl <;> omega
theorem mapOf_closed (ns : List Int) (start : Nat) : closed (mapOf ns start) := fun _ he => (mapOf_perm ns start).mem_iff.mpr (eds_closed ((mapOf_perm ns start).mem_iff.mp he))
end TL
namespace TL
open PySem PySem.Spec L2
/-! ## Colours of places: numbers or None -/
def cT : Option Int → T
  | none => .atm .non
  | some i => aI i
@[simp] theorem cT_n : cT none = .atm .non := rfl
@[simp] theorem cT_s {i : Int} : cT (some i) = aI i := rfl
section
variable {o neg : Bool} {cs cs' : List (Option Int)} {c : Option Int} {a b : Int}
@[simp] theorem c_allF1 : (cT c).allF = true := by cases c <;> rfl
@[simp] theorem c_fz1 : (cT c).fz = cT c := by cases c <;> rfl
@[simp] theorem c_allF : T.allFL (cs.map cT) = true := by
  induction cs with
  | nil => rfl
  | cons x xs ih => simp [ih]
@[simp] theorem c_fzL : T.fzL (cs.map cT) = cs.map cT := by
  induction cs with
  | nil => rfl
  | cons x xs ih => simp [ih]
def cD : Option Int → PyData
  | none => .none
  | some i => .int i
theorem c_dat1 : (cT c).dat = cD c := by cases c <;> rfl
@[simp] theorem c_dat : T.datL (cs.map cT) = cs.map cD := by
  induction cs with
  | nil => rfl
  | cons x xs ih => simp only [List.map_cons, T.datL, ih, c_dat1]
theorem cD_eqv {c d : Option Int} : PyData.eqv (cD c) (cD d) = decide (c = d) := by
  cases c <;> cases d <;> simp [cD, PyData.eqv]
@[simp] theorem c_eqv : PyData.eqvAll (cs.map cD) (cs'.map cD) = decide (cs = cs') := by
  induction cs generalizing cs' with
  | nil => cases cs' <;> simp [PyData.eqvAll]
  | cons x xs ih => cases cs' with
    | nil => simp [PyData.eqvAll]
    | cons y ys => by_cases h : x = y <;> simp [PyData.eqvAll, ih, h, cD_eqv]
@[simp] theorem c_fit : (T.box o .lst (cs.map cT)).fit = true := okd_fit (n := 1) (by
  rw [okd_l, List.all_eq_true]
  intro x hx
  obtain ⟨c, _, rfl⟩ := List.mem_map.mp hx
  cases c <;> simp) (by decide)
@[simp] theorem c_in2 : inF neg [cT c, .box o .tup [.atm (.int a), .atm (.int b)]] = some (.a (.bl (neg ^^ decide (c = some a ∨ c = some b)))) := by
  cases c with
  | none => simp [inF, flatT, flatTs, flatV, inV, eqV]
  | some x =>
    simp only [cT_s, inF, flatT, flatTs, flatV, if_true, inV, List.any_cons, List.any_nil, eqV, Bool.or_false]
    have e1 : (a == x) = decide (x = a) := by rw [Bool.eq_iff_iff]; simp; exact ⟨fun q => q.symm, fun q => q.symm⟩
    have e2 : (b == x) = decide (x = b) := by rw [Bool.eq_iff_iff]; simp; exact ⟨fun q => q.symm, fun q => q.symm⟩
    by_cases h : x = a <;> by_cases h2 : x = b <;> simp [e1, e2, h, h2]
@[simp] theorem c_isN : isNF neg [cT c, .atm .non] = some (.a (.bl (neg ^^ decide (c = none)))) := by
  cases c <;> simp [isNF]
end
@[simp] theorem f_isN_n {neg : Bool} : isNF neg [.atm .non, .atm .non] = some (.a (.bl (neg ^^ true))) := by simp [isNF]
@[simp] theorem f_isN_i {neg : Bool} {i : Int} : isNF neg [.atm (.int i), .atm .non] = some (.a (.bl (neg ^^ false))) := by simp [isNF]
/-! chains -/
def colOf (cs : List (Option Int)) (t : Int) : Option Int := cs[t.toNat]?.getD none
def chStep (cs : List (Option Int)) (a b : Int) (met : List Int) (t : Int) : List Int := if t ∉ met ∧ (colOf cs t = some a ∨ colOf cs t = some b) then met ++ [t] else met
def chain (nb : List (List Int)) (cs : List (Option Int)) (a b : Int) : Nat → List Int → Nat → List Int
  | 0, met, _ => met
  | f + 1, met, k => if k < met.length then chain nb cs a b f ((rowAt nb (met[k]?.getD 0)).foldl (chStep cs a b) met) (k + 1) else met
theorem chStep_comm (cs : List (Option Int)) (a b : Int) : chStep cs a b = chStep cs b a := by
  funext met t
  simp only [chStep, or_comm]
theorem chain_comm (nb : List (List Int)) (cs : List (Option Int)) (a b : Int) (f : Nat) (met : List Int) (k : Nat) : chain nb cs a b f met k = chain nb cs b a f met k := by
  induction f generalizing met k with
  | zero => rfl
  | succ f ih => simp only [chain, chStep_comm cs a b, ih]
def inR (N : Nat) (l : List Int) : Prop := ∀ t ∈ l, 0 ≤ t ∧ t < N
structure Met (N : Nat) (met : List Int) : Prop where
  nd : met.Nodup
  rg : inR N met
theorem nodup_len : ∀ (l l' : List Nat), l.Nodup → l ⊆ l' → l.length ≤ l'.length
  | [], l', _, _ => by simp
  | x :: l, l', h, hs => by
    have hx : x ∈ l' := hs (by simp)
    have h1 := List.nodup_cons.mp h
    have : l ⊆ l'.erase x := fun y hy => (List.mem_erase_of_ne (fun q : y = x => h1.1 (by rw [← q]; exact hy))).mpr (hs (by simp [hy]))
    have := nodup_len l (l'.erase x) h1.2 this
    rw [List.length_erase_of_mem hx] at this
    have : 0 < l'.length := List.length_pos_of_mem hx
    simp; omega
theorem Met.len {N : Nat} {met : List Int} (h : Met N met) : met.length ≤ N := by
  have h1 : (met.map Int.toNat).Nodup := by
    rw [List.Nodup, List.pairwise_map]
    refine List.Pairwise.imp_of_mem (R := fun a b => a ≠ b) ?_ h.nd
    intro a b ha hb hab q
    have := h.rg a ha
    have := h.rg b hb
    omega
  have h2 : (met.map Int.toNat) ⊆ List.range N := by
    intro x hx
    obtain ⟨t, ht, rfl⟩ := List.mem_map.mp hx
    have := h.rg t ht
    simp; omega
  have := nodup_len _ _ h1 h2
  simpa using this
theorem Met.step {N : Nat} {cs : List (Option Int)} {a b : Int} {met : List Int} {t : Int} (h : Met N met) (ht : 0 ≤ t ∧ t < N) : Met N (chStep cs a b met t) := by
  unfold chStep
  split
  · rename_i q
    refine ⟨?_, fun x hx => ?_⟩
    · rw [List.nodup_append]
      exact ⟨h.nd, by simp, fun x hx y hy => by simp at hy; subst hy; rintro rfl; exact q.1 hx⟩
    · rcases List.mem_append.mp hx with hx | hx
      · exact h.rg x hx
      · simp at hx; subst hx; exact ht
  · exact h
theorem Met.fold {N : Nat} {cs : List (Option Int)} {a b : Int} {r : List Int} {met : List Int} (h : Met N met) (hr : inR N r) : Met N (r.foldl (chStep cs a b) met) := by
  induction r generalizing met with
  | nil => exact h
  | cons x r ih => rw [List.foldl_cons]; exact ih (h.step (hr x (by simp))) fun t ht => hr t (by simp [ht])
theorem ch_len (cs : List (Option Int)) (a b : Int) (r met : List Int) : met.length ≤ (r.foldl (chStep cs a b) met).length := by
  induction r generalizing met with
  | nil => simp
  | cons x r ih =>
    rw [List.foldl_cons]
    refine Nat.le_trans ?_ (ih _)
    unfold chStep; split <;> simp
theorem nb_range {m : List (List Int)} (nd : m.flatten.Nodup) (cl : closed m) : ∀ r ∈ nbrs m, inR m.length r := by
  intro r hr
  obtain ⟨⟨row, i⟩, hp, rfl⟩ := List.mem_map.mp hr
  have hrow : row ∈ m := by
    have := List.mem_zipIdx_iff_getElem?.mp hp
    exact List.mem_of_getElem? (by simpa using this)
  have : ∀ l : List Int, (∀ e ∈ l, e ∈ row) → ∀ acc, inR m.length acc → inR m.length (l.foldl (nbStep (placesD m) (i : Int)) acc) := by
    intro l
    induction l with
    | nil => intro _ acc h; exact h
    | cons x l ih =>
      intro hl acc h
      rw [List.foldl_cons]
      refine ih (fun e he => hl e (by simp [he])) _ ?_
      unfold nbStep
      split
      · intro t ht
        rcases List.mem_append.mp ht with ht | ht
        · exact h t ht
        · simp at ht; subst ht
          obtain ⟨j, r2, hj, _, hd⟩ := placesD_some nd (cl x (List.mem_flatten.mpr ⟨row, hrow, hl x (by simp)⟩))
          rw [hd]
          have := (List.getElem?_eq_some_iff.mp hj).1
          simp; omega
      · exact h
  exact this row (fun _ h => h) [] (fun t ht => by simp at ht)
theorem nbrs_len {m : List (List Int)} : (nbrs m).length = m.length := by simp [nbrs]
theorem chain_done (nb : List (List Int)) (cs : List (Option Int)) (a b : Int) (f : Nat) (met : List Int) (k : Nat) (h : met.length ≤ k) : chain nb cs a b f met k = met := by
  cases f with
  | zero => rfl
  | succ f => simp only [chain]; rw [if_neg (by omega)]
theorem chain_go (nb : List (List Int)) (cs : List (Option Int)) (a b : Int) {f : Nat} {met : List Int} {k : Nat} (h : k < met.length) (hf : 0 < f) : chain nb cs a b f met k = chain nb cs a b (f - 1) ((rowAt nb (met[k]?.getD 0)).foldl (chStep cs a b) met) (k + 1) := by
  cases f with
  | zero => omega
  | succ f => simp only [chain]; rw [if_pos h]; rfl
theorem chain_met {nb : List (List Int)} {cs : List (Option Int)} {a b : Int} {N : Nat} (hr : ∀ r ∈ nb, inR N r) (f : Nat) (met : List Int) (k : Nat) (h : Met N met) : Met N (chain nb cs a b f met k) := by
  induction f generalizing met k with
  | zero => exact h
  | succ f ih =>
    simp only [chain]
    split
    · refine ih _ _ (h.fold ?_)
      unfold rowAt
      cases e : nb[(met[k]?.getD 0).toNat]? with
      | none => intro t ht; simp at ht
      | some r => exact hr r (List.mem_of_getElem? e)
    · exact h
end TL
namespace TL
open PySem PySem.Spec L2
/-! ## isinstance -/
section
variable {o : Bool} {xs : List T} {i : Int} {z : Str}
theorem i_nl : isiF [.atm .non, .atm (.ty "list")] = some (.a (.bl false)) := by rfl
theorem i_nt : isiF [.atm .non, .atm (.ty "tuple")] = some (.a (.bl false)) := by rfl
theorem i_il : isiF [.atm (.int i), .atm (.ty "list")] = some (.a (.bl false)) := by rfl
theorem i_it : isiF [.atm (.int i), .atm (.ty "tuple")] = some (.a (.bl false)) := by rfl
theorem i_is : isiF [.atm (.int i), .atm (.ty "str")] = some (.a (.bl false)) := by rfl
theorem i_sl : isiF [.atm (.str z), .atm (.ty "list")] = some (.a (.bl false)) := by rfl
theorem i_st : isiF [.atm (.str z), .atm (.ty "tuple")] = some (.a (.bl false)) := by rfl
theorem i_lt : isiF [.box o .lst xs, .atm (.ty "tuple")] = some (.a (.bl false)) := by rfl
theorem i_tl : isiF [.box o .tup xs, .atm (.ty "list")] = some (.a (.bl false)) := by rfl
theorem i_tt : isiF [.box o .tup xs, .atm (.ty "tuple")] = some (.a (.bl true)) := by rfl
@[simp] theorem f_isN_s {neg : Bool} : isNF neg [.atm (.str z), .atm .non] = some (.a (.bl (neg ^^ false))) := by simp [isNF]
theorem e_strS : PyData.eqv (.str z) (.str z) = true := by simp [PyData.eqv]
end
end TL
namespace TL
open PySem PySem.Spec L2
/-! ## Plain programs: what may lack an answer -/
section
variable {α β γ δ ε ζ η σ ρ : Type}
def o2 (a : Option α) (b : Option β) (f : α → β → Option γ) : Option γ := a.bind fun x => b.bind fun y => f x y
def o3 (a : Option α) (b : Option β) (c : Option γ) (f : α → β → γ → Option δ) : Option δ := a.bind fun x => b.bind fun y => c.bind fun z => f x y z
def o4 (a : Option α) (b : Option β) (c : Option γ) (d : Option δ) (f : α → β → γ → δ → Option ε) : Option ε := a.bind fun x => b.bind fun y => c.bind fun z => d.bind fun u => f x y z u
def o5 (a : Option α) (b : Option β) (c : Option γ) (d : Option δ) (e : Option ε) (f : α → β → γ → δ → ε → Option ζ) : Option ζ := a.bind fun x => b.bind fun y => c.bind fun z => d.bind fun u => e.bind fun v => f x y z u v
def o6 (a : Option α) (b : Option β) (c : Option γ) (d : Option δ) (e : Option ε) (g : Option ζ) (f : α → β → γ → δ → ε → ζ → Option η) : Option η := a.bind fun x => b.bind fun y => c.bind fun z => d.bind fun u => e.bind fun v => g.bind fun w => f x y z u v w
@[simp] theorem o2_s {x : α} {y : β} {f : α → β → Option γ} : o2 (some x) (some y) f = f x y := rfl
@[simp] theorem o3_s {x : α} {y : β} {z : γ} {f : α → β → γ → Option δ} : o3 (some x) (some y) (some z) f = f x y z := rfl
@[simp] theorem o4_s {x : α} {y : β} {z : γ} {u : δ} {f : α → β → γ → δ → Option ε} : o4 (some x) (some y) (some z) (some u) f = f x y z u := rfl
@[simp] theorem o5_s {x : α} {y : β} {z : γ} {u : δ} {v : ε} {f : α → β → γ → δ → ε → Option ζ} : o5 (some x) (some y) (some z) (some u) (some v) f = f x y z u v := rfl
@[simp] theorem o6_s {x : α} {y : β} {z : γ} {u : δ} {v : ε} {w : ζ} {f : α → β → γ → δ → ε → ζ → Option η} : o6 (some x) (some y) (some z) (some u) (some v) (some w) f = f x y z u v w := rfl
/-- loops: each turn goes on -/
def forO (f : σ → α → Option σ) : List α → σ → Option σ
  | [], s => some s
  | x :: xs, s => (f s x).bind (forO f xs)
/-- a turn's end: on, out, handed back -/
inductive Lp (σ ρ : Type) where
  | nx (s : σ) | bk (s : σ) | rt (r : ρ)
inductive Ot (σ ρ : Type) where
  | nx (s : σ) | rt (r : ρ)
def Lp.go (k : σ → Option (Ot σ ρ)) : Lp σ ρ → Option (Ot σ ρ)
  | .nx s => k s
  | .bk s => some (.nx s)
  | .rt r => some (.rt r)
def Ot.go {ω : Type} (k : σ → Option ω) (i : ρ → Option ω) : Ot σ ρ → Option ω
  | .nx s => k s
  | .rt r => i r
@[simp] theorem Lp.go_n {k : σ → Option (Ot σ ρ)} {s : σ} : Lp.go k (.nx s) = k s := rfl
@[simp] theorem Lp.go_b {k : σ → Option (Ot σ ρ)} {s : σ} : Lp.go k (.bk s) = some (.nx s) := rfl
@[simp] theorem Lp.go_r {k : σ → Option (Ot σ ρ)} {r : ρ} : Lp.go k (.rt r) = some (.rt r) := rfl
@[simp] theorem Ot.go_n {ω : Type} {k : σ → Option ω} {i : ρ → Option ω} {s : σ} : Ot.go k i (.nx s) = k s := rfl
@[simp] theorem Ot.go_r {ω : Type} {k : σ → Option ω} {i : ρ → Option ω} {r : ρ} : Ot.go k i (.rt r) = i r := rfl
def forC (f : σ → α → Option (Lp σ ρ)) : List α → σ → Option (Ot σ ρ)
  | [], s => some (.nx s)
  | x :: xs, s => (f s x).bind (Lp.go (forC f xs))
def whN (c : σ → Option Bool) (f : σ → Option (Lp σ ρ)) : Nat → σ → Option (Ot σ ρ)
  | 0, _ => none
  | n + 1, s => (c s).bind fun b => if b = true then (f s).bind (Lp.go (whN c f n)) else some (.nx s)
open Classical in
noncomputable def whC (c : σ → Option Bool) (f : σ → Option (Lp σ ρ)) (s : σ) : Option (Ot σ ρ) := if h : ∃ n, (whN c f n s).isSome = true then whN c f h.choose s else none
noncomputable def whO (c : σ → Option Bool) (f : σ → Option σ) (s : σ) : Option σ := (whC (ρ := Empty) c (fun s => (f s).map .nx) s).bind (Ot.go some fun e => nomatch e)
theorem whN_mono {c : σ → Option Bool} {f : σ → Option (Lp σ ρ)} : ∀ {n : Nat} {s : σ} {r : Ot σ ρ}, whN c f n s = some r → whN c f (n + 1) s = some r
  | 0, s, r, h => by simp [whN] at h
  | n + 1, s, r, h => by
    rw [whN] at h ⊢
    cases e : c s with
    | none => rw [e] at h; simp at h
    | some b =>
      rw [e] at h
      cases b with
      | false => simpa using h
      | true =>
        simp only [Option.bind_some, if_true] at h ⊢
        cases e2 : f s with
        | none => rw [e2] at h; simp at h
        | some l =>
          rw [e2] at h
          cases l with
          | nx s2 => exact whN_mono h
          | bk s2 => exact h
          | rt r2 => exact h
theorem whN_le {c : σ → Option Bool} {f : σ → Option (Lp σ ρ)} {n m : Nat} {s : σ} {r : Ot σ ρ} (h : whN c f n s = some r) (le : n ≤ m) : whN c f m s = some r := by
  induction le with
  | refl => exact h
  | step _ ih => exact whN_mono ih
theorem whC_of {c : σ → Option Bool} {f : σ → Option (Lp σ ρ)} {n : Nat} {s : σ} {r : Ot σ ρ} (h : whN c f n s = some r) : whC c f s = some r := by
  have ex : ∃ n, (whN c f n s).isSome = true := ⟨n, by rw [h]; rfl⟩
  unfold whC
  rw [dif_pos ex]
  obtain ⟨r', hr'⟩ := Option.isSome_iff_exists.mp ex.choose_spec
  rcases Nat.le_total n ex.choose with le | le
  · exact whN_le h le
  · rw [hr', ← h, whN_le hr' le]
theorem whC_ex {c : σ → Option Bool} {f : σ → Option (Lp σ ρ)} {s : σ} {r : Ot σ ρ} (h : whC c f s = some r) : ∃ n, whN c f n s = some r := by
  unfold whC at h
  split at h
  · exact ⟨_, h⟩
  · cases h
/-! ### rules -/
theorem forO_inv {f : σ → α → Option σ} {l : List α} {s : σ} (I : List α → σ → Prop) (h0 : I [] s) (h : ∀ pre x post s, l = pre ++ x :: post → I pre s → ∃ s', f s x = some s' ∧ I (pre ++ [x]) s') : ∃ s', forO f l s = some s' ∧ I l s' := by
  have : ∀ post pre s, l = pre ++ post → I pre s → ∃ s', forO f post s = some s' ∧ I l s' := by
    intro post
    induction post with
    | nil => intro pre s e i; simp at e; subst e; exact ⟨s, rfl, i⟩
    | cons x post ih =>
      intro pre s e i
      obtain ⟨s1, e1, i1⟩ := h pre x post s e i
      obtain ⟨s2, e2, i2⟩ := ih (pre ++ [x]) s1 (by simp [e]) i1
      exact ⟨s2, by simp only [forO, e1, Option.bind_some, e2], i2⟩
  exact this l [] s rfl h0
theorem forO_fold {f : σ → α → Option σ} {l : List α} {s : σ} (g : σ → α → σ) (I : σ → Prop) (h0 : I s) (h : ∀ s, ∀ x ∈ l, I s → f s x = some (g s x) ∧ I (g s x)) : forO f l s = some (l.foldl g s) ∧ I (l.foldl g s) := by
  induction l generalizing s with
  | nil => exact ⟨rfl, h0⟩
  | cons x l ih =>
    obtain ⟨e, i⟩ := h s x (by simp) h0
    obtain ⟨e2, i2⟩ := ih i fun s y hy => h s y (by simp [hy])
    exact ⟨by simp only [forO, e, Option.bind_some, e2, List.foldl_cons], i2⟩
theorem forO_foldp {f : σ → α → Option σ} {l : List α} {s : σ} (g : σ → α → σ) (h : ∀ s, ∀ x ∈ l, f s x = some (g s x)) : forO f l s = some (l.foldl g s) :=
  (forO_fold g (fun _ => True) trivial fun s x hx _ => ⟨h s x hx, trivial⟩).1
/-- .. a turn may hand back -/
theorem forC_inv {f : σ → α → Option (Lp σ ρ)} {l : List α} {s : σ} (I : List α → σ → Prop) (J : Ot σ ρ → Prop) (h0 : I [] s) (h : ∀ pre x post s, l = pre ++ x :: post → I pre s → ∃ w, f s x = some w ∧ match w with
    | .nx s' => I (pre ++ [x]) s'
    | .bk s' => J (.nx s')
    | .rt r => J (.rt r)) (fin : ∀ s, I l s → J (.nx s)) : ∃ w, forC f l s = some w ∧ J w := by
  have : ∀ post pre s, l = pre ++ post → I pre s → ∃ w, forC f post s = some w ∧ J w := by
    intro post
    induction post with
    | nil => intro pre s e i; simp at e; subst e; exact ⟨.nx s, rfl, fin s i⟩
    | cons x post ih =>
      intro pre s e i
      obtain ⟨w, e1, i1⟩ := h pre x post s e i
      cases w with
      | nx s1 =>
        obtain ⟨s2, e2, i2⟩ := ih (pre ++ [x]) s1 (by simp [e]) i1
        exact ⟨s2, by simp only [forC, e1, Option.bind_some, Lp.go, e2], i2⟩
      | bk s1 => exact ⟨.nx s1, by simp only [forC, e1, Option.bind_some, Lp.go], i1⟩
      | rt r => exact ⟨.rt r, by simp only [forC, e1, Option.bind_some, Lp.go], i1⟩
  exact this l [] s rfl h0
/-- .. no turn does -/
theorem forC_go {f : σ → α → Option (Lp σ ρ)} {l : List α} {s : σ} (I : List α → σ → Prop) (h0 : I [] s) (h : ∀ pre x post s, l = pre ++ x :: post → I pre s → ∃ s', f s x = some (.nx s') ∧ I (pre ++ [x]) s') : ∃ s', forC f l s = some (.nx s') ∧ I l s' := by
  obtain ⟨w, e, j⟩ := forC_inv (f := f) (l := l) (s := s) I (fun w => ∃ s', w = .nx s' ∧ I l s') h0 (fun pre x post s e i => by
    obtain ⟨s', e1, i1⟩ := h pre x post s e i
    exact ⟨.nx s', e1, i1⟩) fun s i => ⟨s, rfl, i⟩
  obtain ⟨s', rfl, i⟩ := j
  exact ⟨s', e, i⟩
theorem whC_inv {c : σ → Option Bool} {f : σ → Option (Lp σ ρ)} {s : σ} (I : σ → Prop) (J : Ot σ ρ → Prop) (μ : σ → Nat) (h0 : I s) (h : ∀ s, I s → ∃ b, c s = some b ∧ (b = false → J (.nx s)) ∧ (b = true → ∃ w, f s = some w ∧ match w with
    | .nx s' => I s' ∧ μ s' < μ s
    | .bk s' => J (.nx s')
    | .rt r => J (.rt r))) : ∃ w, whC c f s = some w ∧ J w := by
  have : ∀ n s, μ s < n → I s → ∃ w, whN c f n s = some w ∧ J w := by
    intro n
    induction n with
    | zero => intro s h; omega
    | succ n ih =>
      intro s hm i
      obtain ⟨b, e, h1, h2⟩ := h s i
      rw [whN, e]
      cases b with
      | false => exact ⟨.nx s, by simp, h1 rfl⟩
      | true =>
        obtain ⟨w, e2, h3⟩ := h2 rfl
        simp only [Option.bind_some, if_true, e2]
        cases w with
        | nx s' => exact ih s' (by have := h3.2; omega) h3.1
        | bk s' => exact ⟨_, rfl, h3⟩
        | rt r => exact ⟨_, rfl, h3⟩
  obtain ⟨w, e, j⟩ := this (μ s + 1) s (by omega) h0
  exact ⟨w, whC_of e, j⟩
theorem whO_inv {c : σ → Option Bool} {f : σ → Option σ} {s : σ} (I : σ → Prop) (J : σ → Prop) (μ : σ → Nat) (h0 : I s) (h : ∀ s, I s → ∃ b, c s = some b ∧ (b = false → J s) ∧ (b = true → ∃ s', f s = some s' ∧ I s' ∧ μ s' < μ s)) : ∃ s', whO c f s = some s' ∧ J s' := by
  obtain ⟨w, e, j⟩ := whC_inv (ρ := Empty) (c := c) (f := fun s => (f s).map .nx) I (fun w => ∃ s', w = .nx s' ∧ J s') μ h0 fun s i => by
    obtain ⟨b, e, h1, h2⟩ := h s i
    refine ⟨b, e, fun q => ⟨s, rfl, h1 q⟩, fun q => ?_⟩
    obtain ⟨s', e2, h3⟩ := h2 q
    exact ⟨.nx s', by rw [e2]; rfl, h3⟩
  obtain ⟨s', rfl, j⟩ := j
  exact ⟨s', by rw [whO, e]; rfl, j⟩
/-! comprehensions -/
def flP (c : α → Option Bool) (f : α → Option β) : List α → Option (List β)
  | [] => some []
  | x :: xs => (c x).bind fun b => if b = true then (f x).bind fun y => (flP c f xs).bind fun ys => some (y :: ys) else flP c f xs
def mpP (f : α → Option β) : List α → Option (List β)
  | [] => some []
  | x :: xs => (f x).bind fun y => (mpP f xs).bind fun ys => some (y :: ys)
noncomputable def capO (xs : List α) : Option (List α) := @ite _ (xs.length ≤ 16777216) (Classical.propDecidable _) (some xs) none
noncomputable def flO (c : α → Option Bool) (f : α → Option β) (xs : List α) : Option (List β) := (flP c f xs).bind capO
noncomputable def mpO (f : α → Option β) (xs : List α) : Option (List β) := (mpP f xs).bind capO
theorem capO_s {xs : List α} (h : xs.length ≤ 16777216) : capO xs = some xs := if_pos h
theorem mpP_map {f : α → Option β} (g : α → β) {xs : List α} (h : ∀ x ∈ xs, f x = some (g x)) : mpP f xs = some (xs.map g) := by
  induction xs with
  | nil => rfl
  | cons x xs ih => simp only [mpP, h x (by simp), Option.bind_some, ih fun y hy => h y (by simp [hy]), List.map_cons]
theorem mpO_map {f : α → Option β} (g : α → β) {xs : List α} (h : ∀ x ∈ xs, f x = some (g x)) (hl : xs.length ≤ 16777216) : mpO f xs = some (xs.map g) := by
  rw [mpO, mpP_map g h, Option.bind_some, capO_s (by simpa using hl)]
theorem flP_map {c : α → Option Bool} {f : α → Option β} (p : α → Bool) (g : α → β) {xs : List α} (hc : ∀ x ∈ xs, c x = some (p x)) (h : ∀ x ∈ xs, p x = true → f x = some (g x)) : flP c f xs = some ((xs.filter p).map g) := by
  induction xs with
  | nil => rfl
  | cons x xs ih =>
    have ih := ih (fun y hy => hc y (by simp [hy])) fun y hy => h y (by simp [hy])
    simp only [flP, hc x (by simp), Option.bind_some, ih, List.filter_cons]
    cases e : p x with
    | false => simp
    | true => simp [h x (by simp) e]
theorem flO_map {c : α → Option Bool} {f : α → Option β} (p : α → Bool) (g : α → β) {xs : List α} (hc : ∀ x ∈ xs, c x = some (p x)) (h : ∀ x ∈ xs, p x = true → f x = some (g x)) (hl : xs.length ≤ 16777216) : flO c f xs = some ((xs.filter p).map g) := by
  rw [flO, flP_map p g hc h, Option.bind_some, capO_s]
  rw [List.length_map]
  exact Nat.le_trans (List.length_filter_le _ _) hl
/-! operations -/
noncomputable def appO (xs : List α) (x : α) : Option (List α) := @ite _ (xs.length < 16777216) (Classical.propDecidable _) (some (xs ++ [x])) none
noncomputable def catO (xs ys : List α) : Option (List α) := @ite _ (xs.length + ys.length ≤ 16777216) (Classical.propDecidable _) (some (xs ++ ys)) none
def pyIx (xs : List α) (i : Int) : Option α := (ixN xs.length i).bind fun k => xs[k]?
noncomputable def mulO (i j : Int) : Option Int := @ite _ (mulOk i j = true) (Classical.propDecidable _) (some (i * j)) none
noncomputable def fdivO (i j : Int) : Option Int := @ite _ (0 < j ∧ j.natAbs < 2 ^ 9000) (Classical.propDecidable _) (some (i / j)) none
noncomputable def modO (i j : Int) : Option Int := @ite _ (0 < j) (Classical.propDecidable _) (some (i % j)) none
noncomputable def powO (i j : Int) : Option Int := @ite _ (0 ≤ j ∧ j ≤ 1000000 ∧ i.natAbs < 2 ^ 64) (Classical.propDecidable _) (some (i ^ j.toNat)) none
noncomputable def indexO (xs : List Int) (i : Int) : Option Int := @ite _ (i ∈ xs) (Classical.propDecidable _) (some (xs.idxOf i : Nat)) none
noncomputable def insO (xs : List α) (i : Int) (x : α) : Option (List α) := @ite _ (xs.length < 16777216 ∧ 0 ≤ i ∧ i < 2 ^ 63) (Classical.propDecidable _) (some (xs.take i.toNat ++ [x] ++ xs.drop i.toNat)) none
def popO (xs : List α) : Option (α × List α) := xs[xs.length - 1]?.bind fun x => some (x, xs.dropLast)
noncomputable def popAtO (xs : List α) (i : Int) : Option (α × List α) := @ite _ (-(2 ^ 63) ≤ i ∧ i < 2 ^ 63) (Classical.propDecidable _) ((ixN xs.length i).bind fun k => xs[k]?.bind fun x => some (x, xs.eraseIdx k)) none
noncomputable def remO (xs : List Int) (i : Int) : Option (List Int) := @ite _ (i ∈ xs) (Classical.propDecidable _) (some (xs.eraseIdx (xs.idxOf i))) none
def setO (xs : List α) (i : Int) (x : α) : Option (List α) := (ixN xs.length i).bind fun k => some (xs.set k x)
noncomputable def rangeO (n : Int) : Option (List Int) := @ite _ (-(2 ^ 62) ≤ n ∧ n < 2 ^ 62) (Classical.propDecidable _) (some ((List.range n.toNat).map fun k => (k : Nat))) none
noncomputable def range2O (a b : Int) : Option (List Int) := @ite _ (-(2 ^ 62) ≤ a ∧ a < 2 ^ 62 ∧ -(2 ^ 62) ≤ b ∧ b < 2 ^ 62) (Classical.propDecidable _) (some ((List.range (b - a).toNat).map fun k => a + (k : Nat))) none
def enumL (xs : List α) : List (Int × α) := xs.zipIdx.map fun p => ((p.2 : Int), p.1)
theorem appO_s {xs : List α} {x : α} (h : xs.length < 16777216) : appO xs x = some (xs ++ [x]) := if_pos h
theorem catO_s {xs ys : List α} (h : xs.length + ys.length ≤ 16777216) : catO xs ys = some (xs ++ ys) := if_pos h
theorem pyIx_n {xs : List α} {i : Int} (h : 0 ≤ i) (h2 : i < xs.length) : pyIx xs i = xs[i.toNat]? := by
  simp [pyIx, ixN, h, h2]
theorem pyIx_k {xs : List α} {k : Nat} (h : k < xs.length) : pyIx xs (k : Int) = some xs[k] := by
  rw [pyIx_n (by omega) (by omega)]; simp [h]
theorem pyIx_last {xs : List α} (h : xs ≠ []) : pyIx xs (-1) = some (xs.getLast h) := by
  have : 0 < xs.length := by cases xs <;> simp_all
  simp only [pyIx, ixN_m1, this, if_true, Option.bind_some]
  rw [List.getLast_eq_getElem, List.getElem?_eq_getElem]
theorem fdivO_s {i j : Int} (h : 0 < j) (h2 : j.natAbs < 2 ^ 64) : fdivO i j = some (i / j) := if_pos ⟨h, Nat.lt_of_lt_of_le h2 (Nat.pow_le_pow_right (by decide) (by decide))⟩
theorem modO_s {i j : Int} (h : 0 < j) : modO i j = some (i % j) := if_pos h
theorem powO_s {i j : Int} (h : 0 ≤ j) (h2 : j ≤ 1000000) (h3 : i.natAbs < 2 ^ 64) : powO i j = some (i ^ j.toNat) := if_pos ⟨h, h2, h3⟩
theorem mulO_s {i j : Int} (h : mulOk i j = true) : mulO i j = some (i * j) := if_pos h
theorem setO_n {xs : List α} {i : Int} {x : α} (h : 0 ≤ i) (h2 : i < xs.length) : setO xs i x = some (xs.set i.toNat x) := by
  simp [setO, ixN, h, h2]
theorem rangeO_n {n : Nat} (h : n < 16777216) : rangeO (n : Int) = some ((List.range n).map fun k => ((k : Nat) : Int)) := by
  unfold rangeO
  rw [if_pos (by omega)]; simp
end
section
variable {α β γ σ : Type}
/-- a turn that leaves the list as long as it was -/
noncomputable def capN (n : Nat) (f : List γ × σ → Nat → Option (List γ × σ)) (st : List γ × σ) (m : Nat) : Option (List γ × σ) := @ite _ (st.1.length = n) (Classical.propDecidable _) (f st m) none
def upX (o : Option β) (N : α) (f : β → α) : α := match o with
  | some x => f x
  | none => N
/-- a thing of a tuple -/
noncomputable def ixT (n : Int) (y : Int) (x : α) : Option α := @ite _ (y = n) (Classical.propDecidable _) (some x) none
@[simp] theorem ixT_s {n : Int} {x : α} : ixT n n x = some x := if_pos rfl
noncomputable def sortO (le : α → α → Bool) (xs : List α) : Option (List α) := @ite _ (xs.length ≤ 16777216) (Classical.propDecidable _) (some (xs.mergeSort le)) none
theorem sortO_s {le : α → α → Bool} {xs : List α} (h : xs.length ≤ 16777216) : sortO le xs = some (xs.mergeSort le) := if_pos h
abbrev leI (a b : Int) : Bool := decide (a ≤ b)
abbrev leR (a b : List Int) : Bool := decide (a ≤ b)
abbrev ltR (a b : List Int) : Bool := decide (a < b)
/-- rows compared thing by thing -/
def lexB [DecidableEq α] (lt : α → α → Bool) : List α → List α → Bool
  | [], [] => false
  | [], _ :: _ => true
  | _ :: _, [] => false
  | x :: xs, y :: ys => if x = y then lexB lt xs ys else lt x y
def leM (a b : List (List Int)) : Bool := !lexB ltR b a
end
/-! dicts -/
section
variable {κ α : Type} [DecidableEq κ]
/-- the value of a key -/
def kget : List (κ × α) → κ → Option α
  | [], _ => none
  | p :: d, k => if p.1 = k then some p.2 else kget d k
def khas (d : List (κ × α)) (k : κ) : Bool := d.any fun p => decide (p.1 = k)
/-- a key's value set -/
def kset (d : List (κ × α)) (k : κ) (v : α) : List (κ × α) := if khas d k = true then d.map (fun p => if p.1 = k then (k, v) else p) else d ++ [(k, v)]
noncomputable def ksetO (d : List (κ × α)) (k : κ) (v : α) : Option (List (κ × α)) := @ite _ (d.length < 16777216) (Classical.propDecidable _) (some (kset d k v)) none
end
end TL
namespace TL
open PySem PySem.Spec L2
/-! ## How values are told as trees -/
section
variable {α β γ δ ε κ : Type}
abbrev aS (z : Str) : T := .atm (.str z)
def aN (_ : Unit) : T := .atm .non
def eL (o : Bool) (e : α → T) (xs : List α) : T := .box o .lst (xs.map e)
def eSc (xs : List Int) : T := .box false .scr (xs.map aI)
def eTl (o : Bool) (e : α → T) (xs : List α) : T := .box o .tup (xs.map e)
def eT0 (o : Bool) (_ : Unit) : T := .box o .tup []
def eT1 (o : Bool) (e : α → T) (x : α) : T := .box o .tup [e x]
def eT2 (o : Bool) (e : α → T) (f : β → T) (p : α × β) : T := .box o .tup [e p.1, f p.2]
def eT3 (o : Bool) (e : α → T) (f : β → T) (g : γ → T) (p : α × β × γ) : T := .box o .tup [e p.1, f p.2.1, g p.2.2]
def eT4 (o : Bool) (e : α → T) (f : β → T) (g : γ → T) (h : δ → T) (p : α × β × γ × δ) : T := .box o .tup [e p.1, f p.2.1, g p.2.2.1, h p.2.2.2]
def eT5 (o : Bool) (e : α → T) (f : β → T) (g : γ → T) (h : δ → T) (i : ε → T) (p : α × β × γ × δ × ε) : T := .box o .tup [e p.1, f p.2.1, g p.2.2.1, h p.2.2.2.1, i p.2.2.2.2]
def eO (e : α → T) : Option α → T
  | none => .atm .non
  | some a => e a
class KeyE (κ : Type) where
  key : κ → Key
  inj : ∀ a b, key a = key b → a = b
instance : KeyE Int := ⟨.inl, fun _ _ h => Sum.inl.inj h⟩
instance : KeyE Str := ⟨.inr, fun _ _ h => Sum.inr.inj h⟩
def eD [KeyE κ] (o : Bool) (e : α → T) (d : List (κ × α)) : T := .box o (.dct (d.map fun p => KeyE.key p.1)) (d.map fun p => e p.2)

theorem fzL_mapE {e e' : α → T} (h : ∀ a, (e a).fz = e' a) (xs : List α) : T.fzL (xs.map e) = xs.map e' := by
  rw [fzL_map, List.map_map]; exact List.map_congr_left fun a _ => h a
theorem allFL_mapE {e : α → T} (h : ∀ a, (e a).allF = true) (xs : List α) : T.allFL (xs.map e) = true := by
  induction xs with
  | nil => rfl
  | cons x xs ih => simp [h, ih]
theorem allOL_mapE {e : α → T} (h : ∀ a, (e a).allO = true) (xs : List α) : T.allOL (xs.map e) = true := by
  induction xs with
  | nil => rfl
  | cons x xs ih => simp [h, ih]
/-- freezing -/
class Fz (e : α → T) (e' : outParam (α → T)) : Prop where
  fz : ∀ a, (e a).fz = e' a
class Fr (e : α → T) : Prop where
  fr : ∀ a, (e a).allF = true
class Ow (e : α → T) : Prop where
  ow : ∀ a, (e a).allF = false
class Ao (e : α → T) : Prop where
  ao : ∀ a, (e a).allO = true
instance : Fz aI aI := ⟨fun _ => rfl⟩
instance : Fz aB aB := ⟨fun _ => rfl⟩
instance : Fz aS aS := ⟨fun _ => rfl⟩
instance : Fz aN aN := ⟨fun _ => rfl⟩
instance : Fz eSc eSc := ⟨fun a => by simp [eSc]⟩
instance {o : Bool} {e e' : α → T} [Fz e e'] : Fz (eL o e) (eL false e') := ⟨fun a => by simp only [eL, k_fz_b, fzL_mapE Fz.fz]⟩
instance {o : Bool} {e e' : α → T} [Fz e e'] : Fz (eTl o e) (eTl false e') := ⟨fun a => by simp only [eTl, k_fz_b, fzL_mapE Fz.fz]⟩
instance {o : Bool} : Fz (eT0 o) (eT0 false) := ⟨fun a => rfl⟩
instance {o : Bool} {e e' : α → T} [Fz e e'] : Fz (eT1 o e) (eT1 false e') := ⟨fun a => by simp [eT1, Fz.fz]⟩
instance {o : Bool} {e e' : α → T} [Fz e e'] {f f' : β → T} [Fz f f'] : Fz (eT2 o e f) (eT2 false e' f') := ⟨fun a => by simp [eT2, Fz.fz (e := e), Fz.fz (e := f)]⟩
instance {o : Bool} {e e' : α → T} [Fz e e'] {f f' : β → T} [Fz f f'] {g g' : γ → T} [Fz g g'] : Fz (eT3 o e f g) (eT3 false e' f' g') := ⟨fun a => by simp [eT3, Fz.fz (e := e), Fz.fz (e := f), Fz.fz (e := g)]⟩
instance {o : Bool} {e e' : α → T} [Fz e e'] {f f' : β → T} [Fz f f'] {g g' : γ → T} [Fz g g'] {h h' : δ → T} [Fz h h'] : Fz (eT4 o e f g h) (eT4 false e' f' g' h') := ⟨fun a => by simp [eT4, Fz.fz (e := e), Fz.fz (e := f), Fz.fz (e := g), Fz.fz (e := h)]⟩
instance {o : Bool} {e e' : α → T} [Fz e e'] {f f' : β → T} [Fz f f'] {g g' : γ → T} [Fz g g'] {h h' : δ → T} [Fz h h'] {i i' : ε → T} [Fz i i'] : Fz (eT5 o e f g h i) (eT5 false e' f' g' h' i') := ⟨fun a => by simp [eT5, Fz.fz (e := e), Fz.fz (e := f), Fz.fz (e := g), Fz.fz (e := h), Fz.fz (e := i)]⟩
instance {e e' : α → T} [Fz e e'] : Fz (eO e) (eO e') := ⟨fun a => by cases a <;> simp [eO, Fz.fz]⟩
instance [KeyE κ] {o : Bool} {e e' : α → T} [Fz e e'] : Fz (eD (κ := κ) o e) (eD false e') := ⟨fun a => by
  simp only [eD, k_fz_b]
  congr 1
  rw [fzL_map, List.map_map]; exact List.map_congr_left fun a _ => Fz.fz a.2⟩
instance : Fr aI := ⟨fun _ => rfl⟩
instance : Fr aB := ⟨fun _ => rfl⟩
instance : Fr aS := ⟨fun _ => rfl⟩
instance : Fr aN := ⟨fun _ => rfl⟩
instance : Fr eSc := ⟨fun a => by simp [eSc]⟩
instance {e : α → T} [Fr e] : Fr (eL false e) := ⟨fun a => by simp [eL, allFL_mapE Fr.fr]⟩
instance {e : α → T} [Fr e] : Fr (eTl false e) := ⟨fun a => by simp [eTl, allFL_mapE Fr.fr]⟩
instance : Fr (eT0 false) := ⟨fun a => rfl⟩
instance {e : α → T} [Fr e] : Fr (eT1 false e) := ⟨fun a => by simp [eT1, Fr.fr]⟩
instance {e : α → T} [Fr e] {f : β → T} [Fr f] : Fr (eT2 false e f) := ⟨fun a => by simp [eT2, Fr.fr]⟩
instance {e : α → T} [Fr e] {f : β → T} [Fr f] {g : γ → T} [Fr g] : Fr (eT3 false e f g) := ⟨fun a => by simp [eT3, Fr.fr]⟩
instance {e : α → T} [Fr e] {f : β → T} [Fr f] {g : γ → T} [Fr g] {h : δ → T} [Fr h] : Fr (eT4 false e f g h) := ⟨fun a => by simp [eT4, Fr.fr]⟩
instance {e : α → T} [Fr e] {f : β → T} [Fr f] {g : γ → T} [Fr g] {h : δ → T} [Fr h] {i : ε → T} [Fr i] : Fr (eT5 false e f g h i) := ⟨fun a => by simp [eT5, Fr.fr]⟩
instance {e : α → T} [Fr e] : Fr (eO e) := ⟨fun a => by cases a <;> simp [eO, Fr.fr]⟩
instance [KeyE κ] {e : α → T} [Fr e] : Fr (eD (κ := κ) false e) := ⟨fun a => by simp only [eD, k_allF_b, Bool.not_false, Bool.true_and]; exact allFL_mapE (e := fun p : κ × α => e p.2) (fun p => Fr.fr p.2) a⟩
instance {e : α → T} : Ow (eL true e) := ⟨fun a => rfl⟩
instance {e : α → T} : Ow (eTl true e) := ⟨fun a => rfl⟩
instance : Ow (eT0 true) := ⟨fun a => rfl⟩
instance {e : α → T} : Ow (eT1 true e) := ⟨fun a => rfl⟩
instance {e : α → T} {f : β → T} : Ow (eT2 true e f) := ⟨fun a => rfl⟩
instance {e : α → T} {f : β → T} {g : γ → T} : Ow (eT3 true e f g) := ⟨fun a => rfl⟩
instance {e : α → T} {f : β → T} {g : γ → T} {h : δ → T} : Ow (eT4 true e f g h) := ⟨fun a => rfl⟩
instance {e : α → T} {f : β → T} {g : γ → T} {h : δ → T} {i : ε → T} : Ow (eT5 true e f g h i) := ⟨fun a => rfl⟩
instance [KeyE κ] {e : α → T} : Ow (eD (κ := κ) true e) := ⟨fun a => rfl⟩
instance : Ao aI := ⟨fun _ => rfl⟩
instance : Ao aB := ⟨fun _ => rfl⟩
instance : Ao aS := ⟨fun _ => rfl⟩
instance : Ao aN := ⟨fun _ => rfl⟩
instance {e : α → T} [Ao e] : Ao (eL true e) := ⟨fun a => by simp [eL, allOL_mapE Ao.ao]⟩
instance {e : α → T} [Ao e] : Ao (eTl true e) := ⟨fun a => by simp [eTl, allOL_mapE Ao.ao]⟩
instance : Ao (eT0 true) := ⟨fun a => rfl⟩
instance {e : α → T} [Ao e] : Ao (eT1 true e) := ⟨fun a => by simp [eT1, Ao.ao]⟩
instance {e : α → T} [Ao e] {f : β → T} [Ao f] : Ao (eT2 true e f) := ⟨fun a => by simp [eT2, Ao.ao]⟩
instance {e : α → T} [Ao e] {f : β → T} [Ao f] {g : γ → T} [Ao g] : Ao (eT3 true e f g) := ⟨fun a => by simp [eT3, Ao.ao]⟩
instance {e : α → T} [Ao e] {f : β → T} [Ao f] {g : γ → T} [Ao g] {h : δ → T} [Ao h] : Ao (eT4 true e f g h) := ⟨fun a => by simp [eT4, Ao.ao]⟩
instance {e : α → T} [Ao e] {f : β → T} [Ao f] {g : γ → T} [Ao g] {h : δ → T} [Ao h] {i : ε → T} [Ao i] : Ao (eT5 true e f g h i) := ⟨fun a => by simp [eT5, Ao.ao]⟩
instance {e : α → T} [Ao e] : Ao (eO e) := ⟨fun a => by cases a <;> simp [eO, Ao.ao]⟩
instance [KeyE κ] {e : α → T} [Ao e] : Ao (eD (κ := κ) true e) := ⟨fun a => by simp only [eD, k_allO_b, Bool.true_and]; exact allOL_mapE (e := fun p : κ × α => e p.2) (fun p => Ao.ao p.2) a⟩

/-! ## Layouts -/
inductive Ly where
  | any | no | is (t : T) | al (r : Rt) (p : List Nat)
structure Lay where
  sl : List Ly
  hd : List T
def Ly.ok : Ly → Sl T → Prop
  | .any, _ => True
  | .no, x => x = .no
  | .is t, x => x = .t t
  | .al r p, x => x = .al r p
def oks : List Ly → List (Sl T) → Prop
  | [], xs => xs = []
  | y :: ys, xs => ∃ z zs, xs = z :: zs ∧ y.ok z ∧ oks ys zs
structure At (L : Lay) (s : S) : Prop where
  sl : oks L.sl s.sl
  hd : s.hd = L.hd
def nth : List Ly → Nat → Ly
  | [], _ => .any
  | y :: _, 0 => y
  | _ :: ys, n + 1 => nth ys n
theorem oks_len : ∀ {ys : List Ly} {xs : List (Sl T)}, oks ys xs → xs.length = ys.length
  | [], xs, h => by have : xs = [] := h; subst this; rfl
  | y :: ys, xs, ⟨z, zs, e, _, h⟩ => by rw [e]; simp [oks_len h]
theorem oks_get : ∀ {ys : List Ly} {xs : List (Sl T)} {i : Nat}, oks ys xs → i < ys.length → ∃ x, xs[i]? = some x ∧ (nth ys i).ok x
  | y :: ys, xs, 0, ⟨z, zs, e, o, h⟩, _ => by subst e; exact ⟨z, rfl, o⟩
  | y :: ys, xs, i + 1, ⟨z, zs, e, o, h⟩, hi => by subst e; have := oks_get (ys := ys) (xs := zs) (i := i) h (by simpa using hi); exact this
theorem nth_len : ∀ {ys : List Ly} {i : Nat}, nth ys i ≠ .any → i < ys.length
  | [], _, h => absurd rfl h
  | _ :: _, 0, _ => by simp
  | _ :: ys, i + 1, h => by have := nth_len (ys := ys) (i := i) h; simp; omega
section
variable {L : Lay} {s : S} {i : Nat} {t : T} {r : Rt} {p : List Nat}
theorem At.is (h : At L s) (e : nth L.sl i = .is t) : s.sl[i]? = some (.t t) := by
  obtain ⟨x, hx, o⟩ := oks_get h.sl (nth_len (by rw [e]; simp))
  rw [e] at o
  rw [hx, show x = .t t from o]
theorem At.al (h : At L s) (e : nth L.sl i = .al r p) : s.sl[i]? = some (.al r p) := by
  obtain ⟨x, hx, o⟩ := oks_get h.sl (nth_len (by rw [e]; simp))
  rw [e] at o
  rw [hx, show x = .al r p from o]
theorem At.no (h : At L s) (e : nth L.sl i = .no) : s.sl[i]? = some .no := by
  obtain ⟨x, hx, o⟩ := oks_get h.sl (nth_len (by rw [e]; simp))
  rw [e] at o
  rw [hx, show x = .no from o]
theorem At.lt (h : At L s) (hi : Nat.blt i L.sl.length = true) : i < s.sl.length := by rw [oks_len h.sl]; simpa [Nat.blt_eq] using hi
/-- a root's tree -/
def Lay.rt (L : Lay) : Rt → Option T
  | .sl i => match nth L.sl i with
    | .is t => some t
    | _ => none
  | .hd k => L.hd[k]?
theorem At.rt (h : At L s) (e : L.rt r = some t) : s.root r = some t := by
  cases r with
  | sl i =>
    simp only [Lay.rt] at e
    split at e
    · rename_i u hu
      simp only [Option.some.injEq] at e; subst e
      simp only [SS.root, h.is hu]
    · cases e
  | hd k => simp only [SS.root, h.hd]; exact e
theorem At.gt (h : At L s) (e : L.rt r = some t) : s.gt r p = t.get p := by simp only [SS.gt, h.rt e]
/-! changes -/
def Ly.killR (i : Nat) : Ly → Ly
  | .al (.sl j) p => if j = i then .no else .al (.sl j) p
  | y => y
def lset : List Ly → Nat → Ly → List Ly
  | [], _, _ => []
  | _ :: ys, 0, y => y :: ys
  | z :: ys, i + 1, y => z :: lset ys i y
def Lay.put (L : Lay) (i : Nat) (y : Ly) : Lay := ⟨lset (L.sl.map (Ly.killR i)) i y, L.hd⟩
theorem killR_ok {y : Ly} {x : Sl T} (h : y.ok x) : (y.killR i).ok (Sl.killR i x) := by
  cases y with
  | any => trivial
  | no => cases h; rfl
  | is t => cases h; rfl
  | al r p =>
    cases h
    cases r with
    | sl j =>
      by_cases q : j = i
      · simp [Ly.killR, Sl.killR, q, Ly.ok]
      · simp [Ly.killR, Sl.killR, q, Ly.ok]
    | hd k => rfl
theorem oks_map {f : Ly → Ly} {g : Sl T → Sl T} (hf : ∀ y x, y.ok x → (f y).ok (g x)) : ∀ {ys : List Ly} {xs : List (Sl T)}, oks ys xs → oks (ys.map f) (xs.map g)
  | [], xs, h => by rw [show xs = [] from h]; rfl
  | y :: ys, xs, ⟨z, zs, e, o, h⟩ => by subst e; exact ⟨g z, zs.map g, rfl, hf y z o, oks_map hf h⟩
theorem oks_set {y : Ly} {x : Sl T} (hy : y.ok x) : ∀ {ys : List Ly} {xs : List (Sl T)} {i : Nat}, oks ys xs → oks (lset ys i y) (xs.set i x)
  | [], xs, i, h => by rw [show xs = [] from h]; rfl
  | z :: ys, xs, 0, ⟨u, zs, e, o, h⟩ => by subst e; exact ⟨x, zs, rfl, hy, h⟩
  | z :: ys, xs, i + 1, ⟨u, zs, e, o, h⟩ => by subst e; exact ⟨u, zs.set i x, rfl, o, oks_set hy h⟩
theorem At.put (h : At L s) {y : Ly} {x : Sl T} (hy : y.ok x) : At (L.put i y) (s.put i x) := ⟨oks_set hy (oks_map (fun _ _ => killR_ok) h.sl), h.hd⟩
/-- a root's tree changed -/
def Lay.setR (L : Lay) (r : Rt) (t : T) : Lay := match r with
  | .sl i => ⟨lset L.sl i (.is t), L.hd⟩
  | .hd k => ⟨L.sl, L.hd.set k t⟩
theorem At.setR (h : At L s) : At (L.setR r t) (s.setR r t) := by
  cases r with
  | sl i => exact ⟨oks_set (show Ly.ok (.is t) (.t t) from rfl) h.sl, h.hd⟩
  | hd k => exact ⟨h.sl, by simp only [SS.setR, Lay.setR, h.hd]⟩
/-- places below a place of length n fall -/
def Ly.kil (r : Rt) (n : Nat) : Ly → Ly
  | .al r' p => if r' = r ∧ n < p.length then .any else .al r' p
  | y => y
def Lay.kil (L : Lay) (r : Rt) (n : Nat) : Lay := ⟨L.sl.map (Ly.kil r n), L.hd⟩
theorem kil_ok {q : List Nat} {y : Ly} {x : Sl T} (h : y.ok x) : (y.kil r q.length).ok (Sl.kill r q x) := by
  cases y with
  | any => trivial
  | no => cases h; rfl
  | is t => cases h; rfl
  | al r' p =>
    cases h
    simp only [Ly.kil, Sl.kill]
    by_cases c : r' = r ∧ q.length < p.length
    · rw [if_pos c]; trivial
    · rw [if_neg c, if_neg]
      · exact rfl
      · simp only [below, Bool.and_eq_true, decide_eq_true_eq]
        exact fun z => c ⟨z.1.1, z.2⟩
theorem At.kil (h : At L s) {q : List Nat} : At (L.kil r q.length) (s.kill r q) := ⟨oks_map (fun _ _ => kil_ok) h.sl, h.hd⟩
/-- less is known -/
def Sub (L L' : Lay) : Prop := ∀ s, At L s → At L' s
theorem Sub.rfl {L : Lay} : Sub L L := fun _ h => h
theorem Sub.trans {L L' L'' : Lay} (h : Sub L L') (h' : Sub L' L'') : Sub L L'' := fun s a => h' s (h s a)
def maskL : List Bool → List Ly → List Ly
  | true :: bs, _ :: ys => .any :: maskL bs ys
  | false :: bs, y :: ys => y :: maskL bs ys
  | [], ys => ys
  | _ :: _, [] => []
theorem mask_ok : ∀ {bs : List Bool} {ys : List Ly} {xs : List (Sl T)}, oks ys xs → oks (maskL bs ys) xs
  | [], [], _, h => h
  | [], _ :: _, _, h => h
  | _ :: _, [], _, h => by simpa [maskL] using h
  | true :: bs, y :: ys, _, ⟨z, zs, e, _, h⟩ => ⟨z, zs, e, trivial, mask_ok h⟩
  | false :: bs, y :: ys, _, ⟨z, zs, e, o, h⟩ => ⟨z, zs, e, o, mask_ok h⟩
theorem Sub.mask (bs : List Bool) {ys zs : List Ly} {hd : List T} (h : maskL bs ys = zs := by rfl) : Sub ⟨ys, hd⟩ ⟨zs, hd⟩ := fun s a => ⟨by subst h; exact mask_ok a.sl, a.hd⟩
end
end
end TL
namespace TL
open PySem PySem.Spec L2
/-! ## What an expression comes to, from a layout to a layout -/
/-- where a value stands: in hand, or at a place under a root -/
def EvAt (L : Lay) (k : Option Rt) (v : Ev) (t : T) : Prop := match k with
  | none => v = .v t
  | some r => ∃ p, v = .p r p ∧ ∀ s, At L s → s.gt r p = some t
theorem EvAt.view {L : Lay} {k : Option Rt} {v : Ev} {t : T} {s : S} (h : EvAt L k v t) (a : At L s) : view s v = some t := by
  cases k with
  | none => rw [show v = .v t from h]; rfl
  | some r => obtain ⟨p, rfl, h⟩ := h; exact h s a
theorem evat_surv {L : Lay} {k : Option Rt} {v : Ev} {t : T} {m : Md} (h : EvAt L k v t) (q : k = none ∨ m.quiet = true) : surv v m = true := by
  cases k with
  | none => rw [show v = .v t from h]; rfl
  | some r =>
    obtain ⟨p, rfl, h⟩ := h
    rcases q with q | q
    · cases q
    · cases m <;> simp_all [Md.quiet, surv]
section
variable {α β γ δ ε ζ : Type} {L L1 L2 L3 L4 L5 : Lay} {q q1 q2 q3 q4 q5 : Bool} {k k1 k2 k3 k4 k5 : Option Rt} {g ga gb gc gd ge : S → RE} {t t1 t2 : S → RT}
def EW (L : Lay) (q : Bool) (k : Option Rt) (g : S → RE) (L' : Lay) (o : Option α) (e : α → T) : Prop :=
  ∀ a, o = some a → ∀ s, At L s → ∃ v m s', g s = .ok v m s' ∧ At L' s' ∧ (q = true → m.quiet = true) ∧ EvAt L' k v (e a)
def ET (L : Lay) (q : Bool) (t : S → RT) (L' : Lay) (o : Option Bool) : Prop :=
  ∀ b, o = some b → ∀ s, At L s → ∃ m s', t s = .ok b m s' ∧ At L' s' ∧ (q = true → m.quiet = true)
variable {a : α} {A : Option α} {B : Option β} {C : Option γ} {D : Option δ} {F : Option ε} {ea ea' : α → T} {eb : β → T} {ec : γ → T} {ed : δ → T} {ee : ε → T} {i : Nat} {r : Rt}
theorem quiet_seq {m m' : Md} (h : m.quiet = true) (h' : m'.quiet = true) : (m.seq m').quiet = true := by
  cases m <;> cases m' <;> simp_all [Md.quiet, Md.seq]
theorem q_and {m m' : Md} (h : q1 = true → m.quiet = true) (h' : q2 = true → m'.quiet = true) : (q1 && q2) = true → (m.seq m').quiet = true := by
  intro z
  simp only [Bool.and_eq_true] at z
  exact quiet_seq (h z.1) (h' z.2)
theorem q_fz {m : Md} (h : q = true → m.quiet = true) : q = true → (m.seq .fz).quiet = true := fun z => quiet_seq (h z) rfl
/-! atoms -/
theorem E.con {v : V} (h : ea a = .atm v) : EW L true none (kE v) L (some a) ea := fun a' e s al => by
  cases e; exact ⟨.v (.atm v), .pure, s, rfl, al, fun _ => rfl, by rw [h]; rfl⟩
theorem E.rdF [Fr ea] (i : Nat) (h : nth L.sl i = .is (ea a)) : EW L true none (rdE i) L (some a) ea := fun a' e s al => by
  cases e
  refine ⟨.v (ea a), .pure, s, ?_, al, fun _ => rfl, rfl⟩
  simp only [rdE, al.is h, Fr.fr, if_true]
theorem E.rdO [Ow ea] (i : Nat) (h : nth L.sl i = .is (ea a)) : EW L true (some (.sl i)) (rdE i) L (some a) ea := fun a' e s al => by
  cases e
  refine ⟨.p (.sl i) [], .pure, s, ?_, al, fun _ => rfl, [], rfl, fun s2 a2 => ?_⟩
  · simp only [rdE, al.is h, Ow.ow, Bool.false_eq_true, if_false]
  · rw [a2.gt (r := .sl i) (t := ea a) (by simp only [Lay.rt, h])]; cases ea a <;> rfl
theorem get_nil (t : T) : t.get [] = some t := by cases t <;> rfl
/-- a name that stands for a place -/
theorem E.rdAF [Fr eb] (i : Nat) {p : List Nat} {t0 : T} (h : nth L.sl i = .al r p) (hr : L.rt r = some t0) (hg : ∀ b, B = some b → t0.get p = some (eb b)) : EW L true none (rdE i) L B eb := fun b e s al => by
  have g1 : s.gt r p = some (eb b) := (al.gt hr).trans (hg b e)
  refine ⟨.v (eb b), .pure, s, ?_, al, fun _ => rfl, rfl⟩
  simp only [rdE, al.al h, g1, Fr.fr, if_true]
theorem E.rdAO [Ow eb] (i : Nat) {p : List Nat} {t0 : T} (h : nth L.sl i = .al r p) (hr : L.rt r = some t0) (hg : ∀ b, B = some b → t0.get p = some (eb b)) : EW L true (some r) (rdE i) L B eb := fun b e s al => by
  have g1 : ∀ s, At L s → s.gt r p = some (eb b) := fun s al => (al.gt hr).trans (hg b e)
  refine ⟨.p r p, .pure, s, ?_, al, fun _ => rfl, p, rfl, g1⟩
  simp only [rdE, al.al h, g1 s al, Ow.ow, Bool.false_eq_true, if_false]
theorem E.mv (i : Nat) (h : nth L.sl i = .is (ea a)) : EW L false none (mvE i) (L.put i .no) (some a) ea := fun a' e s al => by
  cases e
  refine ⟨.v (ea a), .many, s.put i .no, ?_, al.put rfl, fun z => (nomatch z), rfl⟩
  simp only [mvE, al.is h]
theorem E.fz [Fz ea ea'] (h : EW L q none g L1 A ea) : EW L q none (fzE g) L1 A ea' := fun a e s al => by
  obtain ⟨v, m, s', h1, h2, h3, h4⟩ := h a e s al
  rw [show v = .v (ea a) from h4] at h1
  refine ⟨.v (ea' a), m, s', ?_, h2, h3, rfl⟩
  simp only [fzE, h1, Fz.fz]
/-- a name's own tree frozen where it is -/
theorem E.fzR [Ow ea] [Fz ea ea'] (i : Nat) (h : nth L.sl i = .is (ea a)) : EW L true none (fzE (rdE i)) (L.setR (.sl i) (ea' a)) (some a) ea' := fun a' e s al => by
  cases e
  have hr : L.rt (.sl i) = some (ea a) := by simp only [Lay.rt, h]
  have hg : s.gt (.sl i) [] = some (ea a) := (al.gt hr).trans (get_nil _)
  refine ⟨.v (ea' a), Md.seq .pure .fz, s.fzAt (.sl i) [], ?_, ?_, fun _ => rfl, rfl⟩
  · have : rdE i s = .ok (.p (.sl i) []) .pure s := by simp only [rdE, al.is h, Ow.ow, Bool.false_eq_true, if_false]
    simp only [fzE, this, hg, Fz.fz]
  · have : s.fzAt (.sl i) [] = s.setR (.sl i) (ea' a) := by
      simp only [S.fzAt, al.rt hr, hg]
      have : T.md (ea a).fz (ea a) [] = ea' a := by rw [Fz.fz]; cases ea a <;> rfl
      rw [this]
    rw [this]
    exact al.setR
/-- .. a lent thing's -/
theorem E.wk (h : EW L q none g L1 A ea) (w : Sub L1 L2) : EW L q none g L2 A ea := fun a e s al => by
  obtain ⟨v, m, s', h1, h2, h3, h4⟩ := h a e s al
  exact ⟨v, m, s', h1, w _ h2, h3, h4⟩
theorem E.up (h : EW L q k g L1 A ea) : EW L q k g L1 (A.map some) (eO ea) := fun a e s al => by
  cases A with
  | none => cases e
  | some a0 => cases e; exact h a0 rfl s al
theorem E.un {A : Option (Option α)} (h : EW L q k g L1 A (eO ea)) : EW L q k g L1 (A.bind id) ea := fun a e s al => by
  cases A with
  | none => cases e
  | some a0 => simp only [Option.bind_some, id] at e; subst e; exact h (some a) rfl s al
theorem E.non {A : Option Unit} (h : EW L q k g L1 A aN) : EW L q k g L1 (A.map fun _ => (none : Option α)) (eO ea) := fun a e s al => by
  cases A with
  | none => cases e
  | some a0 => cases e; exact h a0 rfl s al
theorem E.cv {f : α → β} (h : EW L q k g L1 A ea) (c : ∀ a, ea a = eb (f a)) : EW L q k g L1 (A.map f) eb := fun b e s al => by
  cases A with
  | none => cases e
  | some a0 => cases e; rw [← c]; exact h a0 rfl s al
/-! operations -/
def Op (t : T) : Option RV → Prop
  | some (.a v) => t = .atm v
  | some (.n k xs) => t = .box true k xs ∧ T.allFL xs = true
  | none => False
theorem opE_of {f : List T → Option RV} {gs : List (S → RE)} {s s' : S} {es : List Ev} {m : Md} {ts : List T} {t : T} (h : argsG gs s = .ok es m s') (hv : views s' es = some ts) (ho : Op t (f ts)) : opE f (argsG gs) s = .ok (.v t) m s' := by
  simp only [opE, h, hv]
  cases e : f ts with
  | none => rw [e] at ho; exact ho.elim
  | some rv =>
    rw [e] at ho
    cases rv with
    | a v => rw [show t = .atm v from ho]
    | n k xs => obtain ⟨rfl, ho⟩ := ho; simp only [ho, if_true]
/-- what stands behind stays where something comes ahead of it -/
def Two (k1 : Option Rt) (q2 : Bool) (L1 L2 : Lay) : Prop := k1 = none ∨ (q2 = true ∧ L2 = L1)
theorem Two.v {k1 : Option Rt} {q2 : Bool} {L1 L2 : Lay} (h : k1 = none := by rfl) : Two k1 q2 L1 L2 := .inl h
theorem Two.s {k1 : Option Rt} {q2 : Bool} {L1 : Lay} (h : q2 = true := by rfl) : Two k1 q2 L1 L1 := .inr ⟨h, rfl⟩
theorem EvAt.two {v : Ev} {t : T} {m : Md} (h : EvAt L1 k1 v t) (w : Two k1 q2 L1 L2) (hq : q2 = true → m.quiet = true) : surv v m = true ∧ EvAt L2 k1 v t := by
  rcases w with rfl | ⟨hq2, rfl⟩
  · exact ⟨evat_surv h (.inl rfl), h⟩
  · exact ⟨evat_surv h (.inr (hq hq2)), h⟩
theorem args1 (ha : EW L q1 k1 ga L1 A ea) {x : α} (e : A = some x) {s : S} (al : At L s) : ∃ v m s', argsG [ga] s = .ok [v] m s' ∧ At L1 s' ∧ (q1 = true → m.quiet = true) ∧ EvAt L1 k1 v (ea x) := by
  obtain ⟨v, m, s', h1, h2, h3, h4⟩ := ha x e s al
  refine ⟨v, m, s', ?_, h2, h3, h4⟩
  simp only [argsG, h1, evat_surv (m := .pure) h4 (.inr rfl), if_true, k_seq_pr]
theorem args_cons {gs : List (S → RE)} (ha : EW L q1 k1 ga L1 A ea) {x : α} (e : A = some x) {P : S → List Ev → Prop} (hs : ∀ s, At L1 s → ∃ es m s', argsG gs s = .ok es m s' ∧ At L2 s' ∧ (q2 = true → m.quiet = true) ∧ P s' es) (w : Two k1 q2 L1 L2) {s : S} (al : At L s) :
    ∃ v es m s', argsG (ga :: gs) s = .ok (v :: es) m s' ∧ At L2 s' ∧ ((q1 && q2) = true → m.quiet = true) ∧ EvAt L2 k1 v (ea x) ∧ P s' es := by
  obtain ⟨v, m, s1, h1, h2, h3, h4⟩ := ha x e s al
  obtain ⟨es, m', s2, g1, g2, g3, g4⟩ := hs s1 h2
  obtain ⟨w1, w2⟩ := h4.two w g3
  exact ⟨v, es, m.seq m', s2, by simp only [argsG, h1, g1, w1, if_true], g2, q_and h3 g3, w2, g4⟩
theorem o2_of {f : α → β → Option γ} {c : γ} (h : o2 A B f = some c) : ∃ x y, A = some x ∧ B = some y ∧ f x y = some c := by
  cases A with
  | none => cases h
  | some x => cases B with
    | none => cases h
    | some y => exact ⟨x, y, rfl, rfl, h⟩
theorem o3_of {f : α → β → γ → Option δ} {c : δ} (h : o3 A B C f = some c) : ∃ x y z, A = some x ∧ B = some y ∧ C = some z ∧ f x y z = some c := by
  cases A with
  | none => cases h
  | some x => cases B with
    | none => cases h
    | some y => cases C with
      | none => cases h
      | some z => exact ⟨x, y, z, rfl, rfl, rfl, h⟩
theorem o4_of {f : α → β → γ → δ → Option ε} {c : ε} (h : o4 A B C D f = some c) : ∃ x y z u, A = some x ∧ B = some y ∧ C = some z ∧ D = some u ∧ f x y z u = some c := by
  cases A with
  | none => cases h
  | some x => cases B with
    | none => cases h
    | some y => cases C with
      | none => cases h
      | some z => cases D with
        | none => cases h
        | some u => exact ⟨x, y, z, u, rfl, rfl, rfl, rfl, h⟩
theorem o5_of {f : α → β → γ → δ → ε → Option ζ} {c : ζ} (h : o5 A B C D F f = some c) : ∃ x y z u v, A = some x ∧ B = some y ∧ C = some z ∧ D = some u ∧ F = some v ∧ f x y z u v = some c := by
  cases A with
  | none => cases h
  | some x => cases B with
    | none => cases h
    | some y => cases C with
      | none => cases h
      | some z => cases D with
        | none => cases h
        | some u => cases F with
          | none => cases h
          | some v => exact ⟨x, y, z, u, v, rfl, rfl, rfl, rfl, rfl, h⟩
theorem bind_of {f : α → Option β} {b : β} (h : A.bind f = some b) : ∃ x, A = some x ∧ f x = some b := by
  cases A with
  | none => cases h
  | some x => exact ⟨x, rfl, h⟩
theorem map_of {f : α → β} {b : β} (h : A.map f = some b) : ∃ x, A = some x ∧ f x = b := by
  cases A with
  | none => cases h
  | some x => exact ⟨x, rfl, by simpa using h⟩
theorem E.op1 {f : List T → Option RV} {R : α → Option β} (ha : EW L q k1 ga L1 A ea) (hf : ∀ x b, R x = some b → Op (eb b) (f [ea x])) : EW L q none (opE f (argsG [ga])) L1 (A.bind R) eb := fun b e s al => by
  obtain ⟨x, ex, e⟩ := bind_of e
  obtain ⟨v, m, s', h1, h2, h3, h4⟩ := args1 ha ex al
  exact ⟨.v (eb b), m, s', opE_of h1 (by simp only [k_views, h4.view h2, k_views0, k_vcons]) (hf x b e), h2, h3, rfl⟩
theorem E.op2 {f : List T → Option RV} {R : α → β → Option γ} (ha : EW L q1 k1 ga L1 A ea) (hb : EW L1 q2 k2 gb L2 B eb) (w : Two k1 q2 L1 L2) (hf : ∀ x y c, R x y = some c → Op (ec c) (f [ea x, eb y])) : EW L (q1 && q2) none (opE f (argsG [ga, gb])) L2 (o2 A B R) ec := fun c e s al => by
  obtain ⟨x, y, ex, ey, e⟩ := o2_of e
  obtain ⟨v, es, m, s', h1, h2, h3, h4, u, rfl, h5⟩ := args_cons (P := fun _ es => ∃ v, es = [v] ∧ EvAt L2 k2 v (eb y)) ha ex (fun s al => by
    obtain ⟨v, m, s', h1, h2, h3, h4⟩ := args1 hb ey al
    exact ⟨[v], m, s', h1, h2, h3, v, rfl, h4⟩) w al
  exact ⟨.v (ec c), m, s', opE_of h1 (by simp only [k_views, h4.view h2, h5.view h2, k_views0, k_vcons]) (hf x y c e), h2, h3, rfl⟩
theorem E.op3 {f : List T → Option RV} {R : α → β → γ → Option δ} (ha : EW L q1 k1 ga L1 A ea) (hb : EW L1 q2 k2 gb L2 B eb) (hc : EW L2 q3 k3 gc L3 C ec) (w2 : Two k2 q3 L2 L3) (w1 : Two k1 (q2 && q3) L1 L3) (hf : ∀ x y z d, R x y z = some d → Op (ed d) (f [ea x, eb y, ec z])) : EW L (q1 && (q2 && q3)) none (opE f (argsG [ga, gb, gc])) L3 (o3 A B C R) ed := fun d e s al => by
  obtain ⟨x, y, z, ex, ey, ez, e⟩ := o3_of e
  obtain ⟨v, es, m, s', h1, h2, h3, h4, u, w, rfl, h5, h6⟩ := args_cons (P := fun _ es => ∃ v w, es = [v, w] ∧ EvAt L3 k2 v (eb y) ∧ EvAt L3 k3 w (ec z)) ha ex (fun s al => by
    obtain ⟨v, es, m, s', h1, h2, h3, h4, u, rfl, h5⟩ := args_cons (P := fun _ es => ∃ v, es = [v] ∧ EvAt L3 k3 v (ec z)) hb ey (fun s al => by
      obtain ⟨v, m, s', h1, h2, h3, h4⟩ := args1 hc ez al
      exact ⟨[v], m, s', h1, h2, h3, v, rfl, h4⟩) w2 al
    exact ⟨_, m, s', h1, h2, h3, v, u, rfl, h4, h5⟩) w1 al
  exact ⟨.v (ed d), m, s', opE_of h1 (by simp only [k_views, h4.view h2, h5.view h2, h6.view h2, k_views0, k_vcons]) (hf x y z d e), h2, h3, rfl⟩
theorem E.chk {chk : T → Bool} (h : EW L q k g L1 A ea) (hc : ∀ a, chk (ea a) = true) : EW L q k (chkE chk g) L1 A ea := fun a e s al => by
  obtain ⟨v, m, s', h1, h2, h3, h4⟩ := h a e s al
  exact ⟨v, m, s', by simp only [chkE, h1, h4.view h2, hc, if_true], h2, h3, h4⟩
theorem E.int {A : Option Int} (h : EW L q none g L1 A aI) : EW L q none (intE g) L1 A aI := fun a e s al => by
  obtain ⟨v, m, s', h1, h2, h3, h4⟩ := h a e s al
  rw [show v = .v (aI a) from h4] at h1
  exact ⟨.v (aI a), m, s', by simp only [intE, h1], h2, h3, rfl⟩
/-! tests -/
theorem T.tst {A : Option Bool} (h : EW L q none g L1 A aB) : ET L q (tstE g) L1 A := fun b e s al => by
  obtain ⟨v, m, s', h1, h2, h3, h4⟩ := h b e s al
  rw [show v = .v (aB b) from h4] at h1
  exact ⟨m, s', by simp only [tstE, h1], h2, h3⟩
theorem T.tru {tr : α → Bool} (h : EW L q k g L1 A ea) (ht : ∀ a, (ea a).truth = some (tr a)) : ET L q (truE g) L1 (A.map tr) := fun b e s al => by
  obtain ⟨x, ex, rfl⟩ := map_of e
  obtain ⟨v, m, s', h1, h2, h3, h4⟩ := h x ex s al
  exact ⟨m, s', by rw [k_tru, h1, k_truK, h4.view h2, k_truV, ht, k_truB], h2, h3⟩
theorem T.not {A : Option Bool} (h : ET L q t L1 A) : ET L q (notT t) L1 (A.map (!·)) := fun b e s al => by
  obtain ⟨x, ex, rfl⟩ := map_of e
  obtain ⟨m, s', h1, h2, h3⟩ := h x ex s al
  exact ⟨m, s', by rw [k_not, h1, k_notK], h2, h3⟩
theorem T.yes : ET L true yesT L (some true) := fun b e s al => by cases e; exact ⟨.pure, s, rfl, al, fun _ => rfl⟩
theorem T.and {A B : Option Bool} (h1 : ET L q1 t1 L1 A) (w : Sub L1 L2) (h2 : ET L1 q2 t2 L2 B) : ET L (q1 && q2) (andT t1 t2) L2 (A.bind fun a => if a = true then B else some false) := fun b e s al => by
  obtain ⟨x, ex, e⟩ := bind_of e
  obtain ⟨m, s1, g1, g2, g3⟩ := h1 x ex s al
  cases x with
  | false =>
    simp only [Bool.false_eq_true, if_false, Option.some.injEq] at e; subst e
    exact ⟨m, s1, by rw [k_and, g1, k_andK, if_neg (by decide)], w _ g2, fun z => g3 (by simp only [Bool.and_eq_true] at z; exact z.1)⟩
  | true =>
    simp only [if_true] at e
    obtain ⟨m', s2, f1, f2, f3⟩ := h2 b e s1 g2
    exact ⟨m.seq m', s2, by rw [k_and, g1, k_andK, if_pos rfl, f1, k_seqT], f2, q_and g3 f3⟩
theorem T.or {A B : Option Bool} (h1 : ET L q1 t1 L1 A) (w : Sub L1 L2) (h2 : ET L1 q2 t2 L2 B) : ET L (q1 && q2) (orT t1 t2) L2 (A.bind fun a => if a = true then some true else B) := fun b e s al => by
  obtain ⟨x, ex, e⟩ := bind_of e
  obtain ⟨m, s1, g1, g2, g3⟩ := h1 x ex s al
  cases x with
  | true =>
    simp only [if_true, Option.some.injEq] at e; subst e
    exact ⟨m, s1, by rw [k_or, g1, k_orK, if_pos rfl], w _ g2, fun z => g3 (by simp only [Bool.and_eq_true] at z; exact z.1)⟩
  | false =>
    simp only [Bool.false_eq_true, if_false] at e
    obtain ⟨m', s2, f1, f2, f3⟩ := h2 b e s1 g2
    exact ⟨m.seq m', s2, by rw [k_or, g1, k_orK, if_neg (by decide), f1, k_seqT], f2, q_and g3 f3⟩
theorem E.not {A : Option Bool} (h : EW L q none g L1 A aB) : EW L q none (notE g) L1 (A.map (!·)) aB := fun b e s al => by
  obtain ⟨x, ex, rfl⟩ := map_of e
  obtain ⟨m, s', h1, h2, h3⟩ := T.tst h x ex s al
  exact ⟨.v (aB !x), m, s', by rw [k_notE, h1, k_notEK], h2, h3, rfl⟩
theorem E.and {A B : Option Bool} (h1 : EW L q1 none ga L1 A aB) (w : Sub L1 L2) (h2 : EW L1 q2 none gb L2 B aB) : EW L (q1 && q2) none (andE ga gb) L2 (A.bind fun a => if a = true then B else some false) aB := fun b e s al => by
  obtain ⟨x, ex, e⟩ := bind_of e
  obtain ⟨m, s1, g1, g2, g3⟩ := T.tst h1 x ex s al
  cases x with
  | false =>
    simp only [Bool.false_eq_true, if_false, Option.some.injEq] at e; subst e
    exact ⟨.v (aB false), m, s1, by rw [k_andE, g1, k_andEK, if_neg (by decide)], w _ g2, fun z => g3 (by simp only [Bool.and_eq_true] at z; exact z.1), rfl⟩
  | true =>
    simp only [if_true] at e
    obtain ⟨v, m', s2, f1, f2, f3, f4⟩ := h2 b e s1 g2
    exact ⟨v, m.seq m', s2, by rw [k_andE, g1, k_andEK, if_pos rfl, f1, k_seqE], f2, q_and g3 f3, f4⟩
theorem E.or {A B : Option Bool} (h1 : EW L q1 none ga L1 A aB) (w : Sub L1 L2) (h2 : EW L1 q2 none gb L2 B aB) : EW L (q1 && q2) none (orE ga gb) L2 (A.bind fun a => if a = true then some true else B) aB := fun b e s al => by
  obtain ⟨x, ex, e⟩ := bind_of e
  obtain ⟨m, s1, g1, g2, g3⟩ := T.tst h1 x ex s al
  cases x with
  | true =>
    simp only [if_true, Option.some.injEq] at e; subst e
    exact ⟨.v (aB true), m, s1, by rw [k_orE, g1, k_orEK, if_pos rfl], w _ g2, fun z => g3 (by simp only [Bool.and_eq_true] at z; exact z.1), rfl⟩
  | false =>
    simp only [Bool.false_eq_true, if_false] at e
    obtain ⟨v, m', s2, f1, f2, f3, f4⟩ := h2 b e s1 g2
    exact ⟨v, m.seq m', s2, by rw [k_orE, g1, k_orEK, if_neg (by decide), f1, k_seqE], f2, q_and g3 f3, f4⟩
theorem E.cnd {C : Option Bool} {A B : Option α} (h1 : ET L q1 t L1 C) (ha : EW L1 q2 none ga L2 A ea) (hb : EW L1 q2 none gb L2 B ea) : EW L (q1 && q2) none (ifE t ga gb) L2 (C.bind fun c => if c = true then A else B) ea := fun b e s al => by
  obtain ⟨x, ex, e⟩ := bind_of e
  obtain ⟨m, s1, g1, g2, g3⟩ := h1 x ex s al
  cases x with
  | true =>
    simp only [if_true] at e
    obtain ⟨v, m', s2, f1, f2, f3, f4⟩ := ha b e s1 g2
    exact ⟨v, m.seq m', s2, by rw [k_ifE, g1, k_ifEK, if_pos rfl, f1, k_seqE], f2, q_and g3 f3, f4⟩
  | false =>
    simp only [Bool.false_eq_true, if_false] at e
    obtain ⟨v, m', s2, f1, f2, f3, f4⟩ := hb b e s1 g2
    exact ⟨v, m.seq m', s2, by rw [k_ifE, g1, k_ifEK, if_neg (by decide), f1, k_seqE], f2, q_and g3 f3, f4⟩
theorem T.wk {C : Option Bool} (h : ET L q t L1 C) (w : Sub L1 L2) : ET L q t L2 C := fun a e s al => by
  obtain ⟨m, s', h1, h2, h3⟩ := h a e s al
  exact ⟨m, s', h1, w _ h2, h3⟩
/-! values in a row -/
def pr (A : Option α) (B : Option β) : Option (α × β) := A.bind fun a => B.bind fun b => some (a, b)
@[simp] theorem pr_s {x : α} {y : β} : pr (some x) (some y) = some (x, y) := rfl
def EVs (L : Lay) (q : Bool) (gs : List (S → RE)) (L' : Lay) (o : Option α) (vs : α → List T) : Prop :=
  ∀ a, o = some a → ∀ s, At L s → ∃ m s', argsG gs s = .ok ((vs a).map Ev.v) m s' ∧ At L' s' ∧ (q = true → m.quiet = true)
theorem V.nil : EVs L true [] L (some ()) (fun _ => []) := fun a _ s al => ⟨.pure, s, rfl, al, fun _ => rfl⟩
theorem pr_of {c : α × β} (h : pr A B = some c) : A = some c.1 ∧ B = some c.2 := by
  cases A with
  | none => cases h
  | some x => cases B with
    | none => cases h
    | some y => cases h; exact ⟨rfl, rfl⟩
theorem V.cons {gs : List (S → RE)} {vs : β → List T} (ha : EW L q1 none ga L1 A ea) (hb : EVs L1 q2 gs L2 B vs) : EVs L (q1 && q2) (ga :: gs) L2 (pr A B) (fun p => ea p.1 :: vs p.2) := fun c e s al => by
  obtain ⟨e1, e2⟩ := pr_of e
  obtain ⟨v, m, s1, h1, h2, h3, h4⟩ := ha _ e1 s al
  obtain ⟨m', s2, g1, g2, g3⟩ := hb _ e2 s1 h2
  rw [show v = .v (ea c.1) from h4] at h1
  exact ⟨m.seq m', s2, by simp only [argsG, h1, g1, surv, if_true, List.map_cons], g2, q_and h3 g3⟩
theorem tvs_map : ∀ ts : List T, tvs (ts.map Ev.v) = some ts
  | [] => rfl
  | t :: ts => by rw [List.map_cons, k_tvs, tvs_map ts, k_vcons]
/-- a display -/
theorem E.dsp {kd : Kd} {gs : List (S → RE)} {vs : α → List T} (f : α → β) (h : EVs L q gs L1 A vs) (hl : ∀ a, (vs a).length ≤ 1000) (he : ∀ a, eb (f a) = .box true kd (vs a)) : EW L q none (dspE kd (argsG gs)) L1 (A.map f) eb := fun b e s al => by
  obtain ⟨x, ex, rfl⟩ := map_of e
  obtain ⟨m, s', h1, h2, h3⟩ := h x ex s al
  exact ⟨.v (eb (f x)), m, s', by rw [he]; simp only [dspE, h1, tvs_map, hl, if_true], h2, h3, rfl⟩
theorem E.dn [KeyE β] : EW L true none dnE L (some ([] : List (β × α))) (eD true ea) := fun b e s al => by
  cases e; exact ⟨_, .pure, s, rfl, al, fun _ => rfl, rfl⟩
theorem E.disp1 [KeyE β] {eb : β → T} (hk : EW L q1 none ga L1 B eb) (hkey : ∀ b, (eb b).key = some (KeyE.key b)) (hv : EW L1 q2 none gb L2 A ea) : EW L false none (disp1E ga gb) L2 (o2 B A fun b a => some [(b, a)]) (eD true ea) := fun c e s al => by
  obtain ⟨x, y, ex, ey, e⟩ := o2_of e
  cases e
  obtain ⟨v, m, s1, h1, h2, h3, h4⟩ := hk x ex s al
  obtain ⟨v', m', s2, g1, g2, g3, g4⟩ := hv y ey s1 h2
  rw [show v = .v (eb x) from h4] at h1
  rw [show v' = .v (ea y) from g4] at g1
  exact ⟨.v (eD true ea [(x, y)]), .many, s2, by simp only [disp1E, h1, hkey, g1]; rfl, g2, fun z => (nomatch z), rfl⟩
end
end TL
namespace TL
open PySem PySem.Spec L2
section
variable {α β γ δ ε ζ η σ : Type} {L L1 L2 L3 L4 L5 L6 : Lay} {q q1 q2 q3 q4 q5 q6 : Bool} {k k1 k2 k3 k4 k5 k6 : Option Rt} {g ga gb gc gd ge gf : S → RE} {t t1 t2 : S → RT}
variable {a : α} {A : Option α} {B : Option β} {C : Option γ} {D : Option δ} {F : Option ε} {G : Option ζ} {ea ea' : α → T} {eb eb' : β → T} {ec ec' : γ → T} {ed ed' : δ → T} {ee ee' : ε → T} {ef ef' : ζ → T} {er : η → T} {i : Nat} {r : Rt}
/-! ## Subscripts -/
theorem args2 (ha : EW L q1 k1 ga L1 A ea) (hb : EW L1 q2 k2 gb L2 B eb) (w : Two k1 q2 L1 L2) {x : α} {y : β} (ex : A = some x) (ey : B = some y) {s : S} (al : At L s) :
    ∃ u v m s', argsG [ga, gb] s = .ok [u, v] m s' ∧ At L2 s' ∧ ((q1 && q2) = true → m.quiet = true) ∧ EvAt L2 k1 u (ea x) ∧ EvAt L2 k2 v (eb y) := by
  obtain ⟨v, es, m, s', h1, h2, h3, h4, u, rfl, h5⟩ := args_cons (P := fun _ es => ∃ v, es = [v] ∧ EvAt L2 k2 v (eb y)) ha ex (fun s al => by
    obtain ⟨v, m, s', h1, h2, h3, h4⟩ := args1 hb ey al
    exact ⟨[v], m, s', h1, h2, h3, v, rfl, h4⟩) w al
  exact ⟨v, u, m, s', h1, h2, h3, h4, h5⟩
/-- a thing of a box, frozen -/
theorem E.ixF [Fr ec] {R : α → β → Option γ} (ha : EW L q1 k1 ga L1 A ea) (hb : EW L1 q2 k2 gb L2 B eb) (w : Two k1 q2 L1 L2)
    (hf : ∀ x y c, R x y = some c → ∃ o kd xs j, ea x = .box o kd xs ∧ posT kd xs.length (eb y) = some j ∧ xs[j]? = some (ec c)) : EW L (q1 && q2) none (idxE (argsG [ga, gb])) L2 (o2 A B R) ec := fun c e s al => by
  obtain ⟨x, y, ex, ey, e⟩ := o2_of e
  obtain ⟨u, v, m, s', h1, h2, h3, h4, h5⟩ := args2 ha hb w ex ey al
  obtain ⟨o, kd, xs, j, e1, e2, e3⟩ := hf x y c e
  exact ⟨.v (ec c), m, s', by rw [k_ix, h1, k_ixK, h4.view h2, h5.view h2, e1, k_ixV, e2, k_ixJ, e3, k_ixO, k_ixC_f (Fr.fr c)], h2, h3, rfl⟩
/-- .. of a box in hand -/
theorem E.ixW {R : α → β → Option γ} (ha : EW L q1 none ga L1 A ea) (hb : EW L1 q2 k2 gb L2 B eb)
    (hf : ∀ x y c, R x y = some c → ∃ o kd xs j, ea x = .box o kd xs ∧ posT kd xs.length (eb y) = some j ∧ xs[j]? = some (ec c)) : EW L (q1 && q2) none (idxE (argsG [ga, gb])) L2 (o2 A B R) ec := fun c e s al => by
  obtain ⟨x, y, ex, ey, e⟩ := o2_of e
  obtain ⟨u, v, m, s', h1, h2, h3, h4, h5⟩ := args2 ha hb (.inl rfl) ex ey al
  obtain ⟨o, kd, xs, j, e1, e2, e3⟩ := hf x y c e
  refine ⟨.v (ec c), m, s', ?_, h2, h3, rfl⟩
  rw [k_ix, h1, k_ixK, h4.view h2, h5.view h2, e1, k_ixV, e2, k_ixJ, e3, k_ixO]
  rw [show u = .v (ea x) from h4]
  unfold ixC
  split <;> rfl
/-- .. own, of an own box at a place -/
theorem E.ixO [Ow ec] {R : α → β → Option γ} (ha : EW L q1 (some r) ga L1 A ea) (hb : EW L1 q2 k2 gb L1 B eb) (w : q2 = true)
    (hf : ∀ x y c, R x y = some c → ∃ o kd xs j, ea x = .box o kd xs ∧ posT kd xs.length (eb y) = some j ∧ xs[j]? = some (ec c)) : EW L (q1 && q2) (some r) (idxE (argsG [ga, gb])) L1 (o2 A B R) ec := fun c e s al => by
  obtain ⟨x, y, ex, ey, e⟩ := o2_of e
  obtain ⟨u, v, m, s', h1, h2, h3, h4, h5⟩ := args2 ha hb (.inr ⟨w, rfl⟩) ex ey al
  obtain ⟨o, kd, xs, j, e1, e2, e3⟩ := hf x y c e
  obtain ⟨p, rfl, hp⟩ := h4
  have hv := (EvAt.view (k := some r) (v := .p r p) (t := ea x) ⟨p, rfl, hp⟩ h2)
  refine ⟨.p r (p ++ [j]), m, s', ?_, h2, h3, p ++ [j], rfl, fun s2 a2 => ?_⟩
  · rw [k_ix, h1, k_ixK, hv, h5.view h2, e1, k_ixV, e2, k_ixJ, e3, k_ixO]
    simp only [ixC, Ow.ow, Bool.false_eq_true, if_false]
  · have := hp s2 a2
    rw [e1] at this
    simp only [SS.gt] at this ⊢
    cases hr : s2.root r with
    | none => rw [hr] at this; cases this
    | some t0 =>
      rw [hr] at this
      simp only at this ⊢
      have gen : ∀ (p : List Nat) (t0 : T), t0.get p = some (.box o kd xs) → t0.get (p ++ [j]) = some (ec c) := by
        intro p
        induction p with
        | nil =>
          intro t0 h
          rw [get_nil] at h
          cases h
          simp only [List.nil_append, T.get, e3, get_nil]
        | cons n p ih =>
          intro t0 h
          cases t0 with
          | atm v => cases h
          | box o' k' ys =>
            simp only [List.cons_append, T.get] at h ⊢
            cases hn : ys[n]? with
            | none => rw [hn] at h; cases h
            | some z => rw [hn] at h; exact ih z h
      exact gen p t0 this
theorem ix_l {o : Bool} {e : γ → T} (xs : List γ) (y : Int) (c : γ) (h : pyIx xs y = some c) : ∃ o' kd zs j, eL o e xs = .box o' kd zs ∧ posT kd zs.length (aI y) = some j ∧ zs[j]? = some (e c) := by
  obtain ⟨j, h1, h2⟩ := bind_of h
  exact ⟨o, .lst, xs.map e, j, rfl, by rw [f_pos_l, List.length_map]; exact h1, by rw [List.getElem?_map, h2]; rfl⟩
theorem ix_tl {o : Bool} {e : γ → T} (xs : List γ) (y : Int) (c : γ) (h : pyIx xs y = some c) : ∃ o' kd zs j, eTl o e xs = .box o' kd zs ∧ posT kd zs.length (aI y) = some j ∧ zs[j]? = some (e c) := by
  obtain ⟨j, h1, h2⟩ := bind_of h
  exact ⟨o, .tup, xs.map e, j, rfl, by rw [f_pos_t, List.length_map]; exact h1, by rw [List.getElem?_map, h2]; rfl⟩
theorem ix_s (xs : List Int) (y : Int) (c : Int) (h : pyIx xs y = some c) : ∃ o' kd zs j, eSc xs = .box o' kd zs ∧ posT kd zs.length (aI y) = some j ∧ zs[j]? = some (aI c) := by
  obtain ⟨j, h1, h2⟩ := bind_of h
  exact ⟨false, .scr, xs.map aI, j, rfl, by rw [f_pos_s, List.length_map]; exact h1, by rw [List.getElem?_map, h2]; rfl⟩
theorem idxK_get [DecidableEq γ] [KeyE γ] {e : δ → T} {d : List (γ × δ)} {y : γ} {c : δ} (h : kget d y = some c) : ∃ j, idxK (d.map fun p => KeyE.key p.1) (KeyE.key y) = some j ∧ (d.map fun p => e p.2)[j]? = some (e c) := by
  induction d with
  | nil => cases h
  | cons p d ih =>
    simp only [kget] at h
    simp only [List.map_cons, idxK]
    by_cases q : p.1 = y
    · rw [if_pos q] at h; cases h
      exact ⟨0, by rw [if_pos (by rw [q])], rfl⟩
    · rw [if_neg q] at h
      obtain ⟨j, h1, h2⟩ := ih h
      exact ⟨j + 1, by rw [if_neg (fun z => q (KeyE.inj _ _ z)), h1]; rfl, by simpa using h2⟩
theorem ix_dI {o : Bool} {e : δ → T} (d : List (Int × δ)) (y : Int) (c : δ) (h : kget d y = some c) : ∃ o' kd zs j, eD o e d = .box o' kd zs ∧ posT kd zs.length (aI y) = some j ∧ zs[j]? = some (e c) := by
  obtain ⟨j, h1, h2⟩ := idxK_get (e := e) h
  exact ⟨o, _, _, j, rfl, h1, h2⟩
theorem ix_dS {o : Bool} {e : δ → T} (d : List (Str × δ)) (y : Str) (c : δ) (h : kget d y = some c) : ∃ o' kd zs j, eD o e d = .box o' kd zs ∧ posT kd zs.length (aS y) = some j ∧ zs[j]? = some (e c) := by
  obtain ⟨j, h1, h2⟩ := idxK_get (e := e) h
  exact ⟨o, _, _, j, rfl, h1, h2⟩
/-- a sign of a text -/
def sgO (z : Str) (i : Int) : Option Str := (atI z.cps.toList i).bind fun c => if z.length ≤ sizeLine then some ⟨#[c]⟩ else none
theorem E.ixS {A : Option Str} {B : Option Int} (ha : EW L q1 k1 ga L1 A aS) (hb : EW L1 q2 k2 gb L2 B aI) (w : Two k1 q2 L1 L2) : EW L (q1 && q2) none (idxE (argsG [ga, gb])) L2 (o2 A B sgO) aS := fun c e s al => by
  obtain ⟨x, y, ex, ey, e⟩ := o2_of e
  obtain ⟨u, v, m, s', h1, h2, h3, h4, h5⟩ := args2 ha hb w ex ey al
  obtain ⟨d, e1, e2⟩ := bind_of e
  refine ⟨.v (aS c), m, s', ?_, h2, h3, rfl⟩
  rw [k_ix, h1, k_ixK, h4.view h2, h5.view h2]
  rw [show ixV u m s' (some (aS x)) (some (aI y)) = (match atI x.cps.toList y with
    | some c => if x.length ≤ sizeLine then RE.ok (.v (.atm (.str ⟨#[c]⟩))) m s' else .fail
    | none => .fail) from rfl, e1]
  split at e2
  · rename_i hz; simp only [hz, if_true]; cases e2; rfl
  · cases e2
/-! ## Calls -/
def fzK' : Option Rt → T → T
  | none, t => t
  | some _, t => t.fz
/-- what a def is handed -/
structure Arg (k : Option Rt) (ea pa : α → T) : Prop where
  eq : ∀ a, fzK' k (ea a) = pa a
theorem Arg.v : Arg none ea ea := ⟨fun _ => rfl⟩
theorem Arg.p [Fz ea ea'] : Arg (some r) ea ea' := ⟨fun a => Fz.fz a⟩
inductive EvsAt (L : Lay) : List (Option Rt) → List Ev → List T → Prop
  | nil : EvsAt L [] [] []
  | cons {k : Option Rt} {v : Ev} {t : T} {ks : List (Option Rt)} {vs : List Ev} {ts : List T} : EvAt L k v t → EvsAt L ks vs ts → EvsAt L (k :: ks) (v :: vs) (t :: ts)
theorem callArgs_at {s : S} (al : At L s) {ks : List (Option Rt)} {vs : List Ev} {ts : List T} (h : EvsAt L ks vs ts) : callArgs (ks.map fun _ => false) vs s = some (ks.zipWith fzK' ts) ∧ lentR (ks.map fun _ => false) vs = [] ∧ borR (ks.map fun _ => false) vs = ks.filterMap id := by
  induction h with
  | nil => exact ⟨rfl, rfl, rfl⟩
  | @cons k v t ks vs ts h _ ih =>
    cases k with
    | none =>
      rw [show v = .v t from h]
      refine ⟨?_, ?_, ?_⟩
      · rw [List.map_cons, k_ca_v, ih.1]; rfl
      · rw [List.map_cons, k_lRf]; exact ih.2.1
      · rw [List.map_cons, k_bRv, ih.2.2]; rfl
    | some r =>
      obtain ⟨p, rfl, hp⟩ := h
      refine ⟨?_, ?_, ?_⟩
      · rw [List.map_cons, k_ca_p, hp s al, ih.1]; rfl
      · rw [List.map_cons, k_lRf]; exact ih.2.1
      · rw [List.map_cons, k_bRp, ih.2.2]; rfl
/-- what is handed back is frozen from none that were looked at -/
def Bo (ks : List (Option Rt)) (er : η → T) : Prop := (ks.filterMap id).isEmpty = true ∨ ∀ a, (er a).allO = true
theorem Bo.v {ks : List (Option Rt)} (h : (ks.filterMap id).isEmpty = true := by rfl) : Bo ks er := .inl h
theorem Bo.o {ks : List (Option Rt)} [Ao er] : Bo ks er := .inr Ao.ao
theorem call_of {lm : List Bool} {Ff : List T → RF} {gs : List (S → RE)} {ks : List (Option Rt)} {vs : List Ev} {ts : List T} {s s' : S} {m : Md} {b : η} (hl : lm = ks.map fun _ => false) (h : argsG gs s = .ok vs m s') (al : At L s') (hv : EvsAt L ks vs ts) (hF : Ff (ks.zipWith fzK' ts) = .ok (er b) []) (hb : Bo ks er) : callE lm Ff (argsG gs) s = .ok (.v (er b)) m s' := by
  obtain ⟨h1, h2, h3⟩ := callArgs_at al hv
  subst hl
  rw [k_call, h, k_callK, h1, k_callA (by rw [h2]; exact k_apart0), hF, k_callR (by
    rw [h3]
    rcases hb with hb | hb
    · exact .inl hb
    · exact .inr ⟨hb b, rfl⟩), h2, k_callMd0, k_gb0]
theorem E.call0 {Ff : List T → RF} {R : Option η} (hF : ∀ b, R = some b → Ff [] = .ok (er b) []) : EW L true none (callE [] Ff (argsG [])) L R er := fun b e s al =>
  ⟨.v (er b), .pure, s, call_of (ks := []) (ts := []) rfl rfl al .nil (hF b e) (.inl rfl), al, fun _ => rfl, rfl⟩
theorem E.call1 {Ff : List T → RF} {R : α → Option η} {pa : α → T} (hF : ∀ x b, R x = some b → Ff [pa x] = .ok (er b) []) (ha : EW L q1 k1 ga L1 A ea) (a1 : Arg k1 ea pa) (hb : Bo [k1] er) : EW L q1 none (callE [false] Ff (argsG [ga])) L1 (A.bind R) er := fun b e s al => by
  obtain ⟨x, ex, e⟩ := bind_of e
  obtain ⟨v, m, s', h1, h2, h3, h4⟩ := args1 ha ex al
  exact ⟨.v (er b), m, s', call_of (ks := [k1]) (ts := [ea x]) rfl h1 h2 (.cons h4 .nil) (by simp only [List.zipWith_cons_cons, List.zipWith_nil_left, a1.eq]; exact hF x b e) hb, h2, h3, rfl⟩
theorem E.call2 {Ff : List T → RF} {R : α → β → Option η} {pa : α → T} {pb : β → T} (hF : ∀ x y b, R x y = some b → Ff [pa x, pb y] = .ok (er b) []) (ha : EW L q1 k1 ga L1 A ea) (a1 : Arg k1 ea pa) (hb : EW L1 q2 k2 gb L2 B eb) (a2 : Arg k2 eb pb) (w : Two k1 q2 L1 L2) (bo : Bo [k1, k2] er) :
    EW L (q1 && q2) none (callE [false, false] Ff (argsG [ga, gb])) L2 (o2 A B R) er := fun b e s al => by
  obtain ⟨x, y, ex, ey, e⟩ := o2_of e
  obtain ⟨u, v, m, s', h1, h2, h3, h4, h5⟩ := args2 ha hb w ex ey al
  exact ⟨.v (er b), m, s', call_of (ks := [k1, k2]) (ts := [ea x, eb y]) rfl h1 h2 (.cons h4 (.cons h5 .nil)) (by simp only [List.zipWith_cons_cons, List.zipWith_nil_left, a1.eq, a2.eq]; exact hF x y b e) bo, h2, h3, rfl⟩
theorem args3' (ha : EW L q1 k1 ga L1 A ea) (hb : EW L1 q2 k2 gb L2 B eb) (hc : EW L2 q3 k3 gc L3 C ec) (w2 : Two k2 q3 L2 L3) (w1 : Two k1 (q2 && q3) L1 L3) {x : α} {y : β} {z : γ} (ex : A = some x) (ey : B = some y) (ez : C = some z) {s : S} (al : At L s) :
    ∃ es m s', argsG [ga, gb, gc] s = .ok es m s' ∧ At L3 s' ∧ ((q1 && (q2 && q3)) = true → m.quiet = true) ∧ EvsAt L3 [k1, k2, k3] es [ea x, eb y, ec z] := by
  obtain ⟨v, es, m, s', h1, h2, h3, h4, h5⟩ := args_cons (P := fun _ es => EvsAt L3 [k2, k3] es [eb y, ec z]) ha ex (fun s al => by
    obtain ⟨u, v, m, s', h1, h2, h3, h4, h5⟩ := args2 hb hc w2 ey ez al
    exact ⟨_, m, s', h1, h2, h3, .cons h4 (.cons h5 .nil)⟩) w1 al
  exact ⟨_, m, s', h1, h2, h3, .cons h4 h5⟩
theorem E.call3 {Ff : List T → RF} {R : α → β → γ → Option η} {pa : α → T} {pb : β → T} {pc : γ → T} (hF : ∀ x y z b, R x y z = some b → Ff [pa x, pb y, pc z] = .ok (er b) []) (ha : EW L q1 k1 ga L1 A ea) (a1 : Arg k1 ea pa) (hb : EW L1 q2 k2 gb L2 B eb) (a2 : Arg k2 eb pb) (hc : EW L2 q3 k3 gc L3 C ec) (a3 : Arg k3 ec pc)
    (w2 : Two k2 q3 L2 L3) (w1 : Two k1 (q2 && q3) L1 L3) (bo : Bo [k1, k2, k3] er) : EW L (q1 && (q2 && q3)) none (callE [false, false, false] Ff (argsG [ga, gb, gc])) L3 (o3 A B C R) er := fun b e s al => by
  obtain ⟨x, y, z, ex, ey, ez, e⟩ := o3_of e
  obtain ⟨es, m, s', h1, h2, h3, h4⟩ := args3' ha hb hc w2 w1 ex ey ez al
  exact ⟨.v (er b), m, s', call_of (ks := [k1, k2, k3]) (ts := [ea x, eb y, ec z]) rfl h1 h2 h4 (by simp only [List.zipWith_cons_cons, List.zipWith_nil_left, a1.eq, a2.eq, a3.eq]; exact hF x y z b e) bo, h2, h3, rfl⟩
theorem args4' (ha : EW L q1 k1 ga L1 A ea) (hb : EW L1 q2 k2 gb L2 B eb) (hc : EW L2 q3 k3 gc L3 C ec) (hd : EW L3 q4 k4 gd L4 D ed) (w3 : Two k3 q4 L3 L4) (w2 : Two k2 (q3 && q4) L2 L4) (w1 : Two k1 (q2 && (q3 && q4)) L1 L4) {x : α} {y : β} {z : γ} {u : δ} (ex : A = some x) (ey : B = some y) (ez : C = some z) (eu : D = some u) {s : S} (al : At L s) :
    ∃ es m s', argsG [ga, gb, gc, gd] s = .ok es m s' ∧ At L4 s' ∧ ((q1 && (q2 && (q3 && q4))) = true → m.quiet = true) ∧ EvsAt L4 [k1, k2, k3, k4] es [ea x, eb y, ec z, ed u] := by
  obtain ⟨v, es, m, s', h1, h2, h3, h4, h5⟩ := args_cons (P := fun _ es => EvsAt L4 [k2, k3, k4] es [eb y, ec z, ed u]) ha ex (fun s al => by
    exact args3' hb hc hd w3 w2 ey ez eu al) w1 al
  exact ⟨_, m, s', h1, h2, h3, .cons h4 h5⟩
theorem E.call4 {Ff : List T → RF} {R : α → β → γ → δ → Option η} {pa : α → T} {pb : β → T} {pc : γ → T} {pd : δ → T} (hF : ∀ x y z u b, R x y z u = some b → Ff [pa x, pb y, pc z, pd u] = .ok (er b) []) (ha : EW L q1 k1 ga L1 A ea) (a1 : Arg k1 ea pa) (hb : EW L1 q2 k2 gb L2 B eb) (a2 : Arg k2 eb pb) (hc : EW L2 q3 k3 gc L3 C ec) (a3 : Arg k3 ec pc) (hd : EW L3 q4 k4 gd L4 D ed) (a4 : Arg k4 ed pd)
    (w3 : Two k3 q4 L3 L4) (w2 : Two k2 (q3 && q4) L2 L4) (w1 : Two k1 (q2 && (q3 && q4)) L1 L4) (bo : Bo [k1, k2, k3, k4] er) : EW L (q1 && (q2 && (q3 && q4))) none (callE [false, false, false, false] Ff (argsG [ga, gb, gc, gd])) L4 (o4 A B C D R) er := fun b e s al => by
  obtain ⟨x, y, z, u, ex, ey, ez, eu, e⟩ := o4_of e
  obtain ⟨es, m, s', h1, h2, h3, h4⟩ := args4' ha hb hc hd w3 w2 w1 ex ey ez eu al
  exact ⟨.v (er b), m, s', call_of (ks := [k1, k2, k3, k4]) (ts := [ea x, eb y, ec z, ed u]) rfl h1 h2 h4 (by simp only [List.zipWith_cons_cons, List.zipWith_nil_left, a1.eq, a2.eq, a3.eq, a4.eq]; exact hF x y z u b e) bo, h2, h3, rfl⟩
theorem args5' (ha : EW L q1 k1 ga L1 A ea) (hb : EW L1 q2 k2 gb L2 B eb) (hc : EW L2 q3 k3 gc L3 C ec) (hd : EW L3 q4 k4 gd L4 D ed) (he : EW L4 q5 k5 ge L5 F ee) (w4 : Two k4 q5 L4 L5) (w3 : Two k3 (q4 && q5) L3 L5) (w2 : Two k2 (q3 && (q4 && q5)) L2 L5) (w1 : Two k1 (q2 && (q3 && (q4 && q5))) L1 L5) {x : α} {y : β} {z : γ} {u : δ} {v : ε} (ex : A = some x) (ey : B = some y) (ez : C = some z) (eu : D = some u) (ev : F = some v) {s : S} (al : At L s) :
    ∃ es m s', argsG [ga, gb, gc, gd, ge] s = .ok es m s' ∧ At L5 s' ∧ ((q1 && (q2 && (q3 && (q4 && q5)))) = true → m.quiet = true) ∧ EvsAt L5 [k1, k2, k3, k4, k5] es [ea x, eb y, ec z, ed u, ee v] := by
  obtain ⟨v, es, m, s', h1, h2, h3, h4, h5⟩ := args_cons (P := fun _ es => EvsAt L5 [k2, k3, k4, k5] es [eb y, ec z, ed u, ee v]) ha ex (fun s al => by
    exact args4' hb hc hd he w4 w3 w2 ey ez eu ev al) w1 al
  exact ⟨_, m, s', h1, h2, h3, .cons h4 h5⟩
theorem E.call5 {Ff : List T → RF} {R : α → β → γ → δ → ε → Option η} {pa : α → T} {pb : β → T} {pc : γ → T} {pd : δ → T} {pe : ε → T} (hF : ∀ x y z u v b, R x y z u v = some b → Ff [pa x, pb y, pc z, pd u, pe v] = .ok (er b) []) (ha : EW L q1 k1 ga L1 A ea) (a1 : Arg k1 ea pa) (hb : EW L1 q2 k2 gb L2 B eb) (a2 : Arg k2 eb pb) (hc : EW L2 q3 k3 gc L3 C ec) (a3 : Arg k3 ec pc) (hd : EW L3 q4 k4 gd L4 D ed) (a4 : Arg k4 ed pd) (he : EW L4 q5 k5 ge L5 F ee) (a5 : Arg k5 ee pe)
    (w4 : Two k4 q5 L4 L5) (w3 : Two k3 (q4 && q5) L3 L5) (w2 : Two k2 (q3 && (q4 && q5)) L2 L5) (w1 : Two k1 (q2 && (q3 && (q4 && q5))) L1 L5) (bo : Bo [k1, k2, k3, k4, k5] er) : EW L (q1 && (q2 && (q3 && (q4 && q5)))) none (callE [false, false, false, false, false] Ff (argsG [ga, gb, gc, gd, ge])) L5 (o5 A B C D F R) er := fun b e s al => by
  obtain ⟨x, y, z, u, v, ex, ey, ez, eu, ev, e⟩ := o5_of e
  obtain ⟨es, m, s', h1, h2, h3, h4⟩ := args5' ha hb hc hd he w4 w3 w2 w1 ex ey ez eu ev al
  exact ⟨.v (er b), m, s', call_of (ks := [k1, k2, k3, k4, k5]) (ts := [ea x, eb y, ec z, ed u, ee v]) rfl h1 h2 h4 (by simp only [List.zipWith_cons_cons, List.zipWith_nil_left, a1.eq, a2.eq, a3.eq, a4.eq, a5.eq]; exact hF x y z u v b e) bo, h2, h3, rfl⟩
/-! ## What takes its argument over -/
def Tk (t : T) : Option (Kd × List T) → Prop
  | some (k, ys) => t = .box true k ys
  | none => False
theorem E.tkV {f : T → Option (Kd × List T)} {R : α → Option β} (ha : EW L q none ga L1 A ea) (hf : ∀ x b, R x = some b → Tk (eb b) (f (ea x))) : EW L q none (takeE f ga) L1 (A.bind R) eb := fun b e s al => by
  obtain ⟨x, ex, e⟩ := bind_of e
  obtain ⟨v, m, s', h1, h2, h3, h4⟩ := ha x ex s al
  rw [show v = .v (ea x) from h4] at h1
  have z := hf x b e
  refine ⟨.v (eb b), m, s', ?_, h2, h3, rfl⟩
  rw [k_take, h1, k_takeK_v]
  cases e2 : f (ea x) with
  | none => rw [e2] at z; exact z.elim
  | some p => obtain ⟨kd, ys⟩ := p; rw [e2] at z; rw [show eb b = .box true kd ys from z, k_takeB]
theorem E.tkP {f : T → Option (Kd × List T)} {R : α → Option β} (ha : EW L q k1 ga L1 A ea) (hf : ∀ x b, R x = some b → Tk (eb b) (f (ea x))) (hx : ∀ x kd ys, f (ea x) = some (kd, ys) → T.allFL ys = true) : EW L q none (takeE f ga) L1 (A.bind R) eb := fun b e s al => by
  cases k1 with
  | none => exact E.tkV ha hf b e s al
  | some r =>
  obtain ⟨x, ex, e⟩ := bind_of e
  obtain ⟨v, m, s', h1, h2, h3, h4⟩ := ha x ex s al
  have hv := h4.view h2
  obtain ⟨p, rfl, h4⟩ := h4
  have z := hf x b e
  refine ⟨.v (eb b), m, s', ?_, h2, h3, rfl⟩
  rw [k_take, h1, k_takeK_p, h4 s' h2, k_takeP]
  cases e2 : f (ea x) with
  | none => rw [e2] at z; exact z.elim
  | some p => obtain ⟨kd, ys⟩ := p; rw [e2] at z; rw [show eb b = .box true kd ys from z, k_takeF (hx x kd ys e2)]
end
end TL
namespace TL
open PySem PySem.Spec L2
/-! ## Operations on values -/
section
variable {α β γ δ : Type} {o o' : Bool} {e : α → T} {e' : α → T}
theorem v_add (x y c : Int) (h : some (x + y) = some c) : Op (aI c) (addF [aI x, aI y]) := by cases h; rfl
theorem v_sub (x y c : Int) (h : some (x - y) = some c) : Op (aI c) (subF [aI x, aI y]) := by cases h; rfl
theorem v_iadd (x y c : Int) (h : some (x + y) = some c) : Op (aI c) (iaddF [aI x, aI y]) := by cases h; rfl
theorem v_mul (x y c : Int) (h : mulO x y = some c) : Op (aI c) (mulF [aI x, aI y]) := by
  unfold mulO at h
  split at h
  · rename_i q; cases h; rw [f_mul q]; rfl
  · cases h
theorem v_fdiv (x y c : Int) (h : fdivO x y = some c) : Op (aI c) (fdivF [aI x, aI y]) := by
  unfold fdivO at h
  split at h
  · rename_i q; cases h; rw [f_fdivW q.1 q.2]; rfl
  · cases h
theorem v_mod (x y c : Int) (h : modO x y = some c) : Op (aI c) (modF [aI x, aI y]) := by
  unfold modO at h
  split at h
  · rename_i q; cases h; rw [f_mod q]; rfl
  · cases h
theorem v_pow (x y c : Int) (h : powO x y = some c) : Op (aI c) (powF [aI x, aI y]) := by
  unfold powO at h
  split at h
  · rename_i q; cases h; rw [f_pow q.1 q.2.1 q.2.2]; rfl
  · cases h
theorem v_neg (x c : Int) (h : some (-x) = some c) : Op (aI c) (negF [aI x]) := by cases h; rfl
theorem v_abs (x c : Int) (h : some (x.natAbs : Int) = some c) : Op (aI c) (absF [aI x]) := by cases h; rw [b_abs]; rfl
theorem v_lt (x y : Int) (c : Bool) (h : some (decide (x < y)) = some c) : Op (aB c) (ltF [aI x, aI y]) := by cases h; rfl
theorem v_le (x y : Int) (c : Bool) (h : some (decide (x ≤ y)) = some c) : Op (aB c) (leF [aI x, aI y]) := by cases h; rfl
theorem v_gt (x y : Int) (c : Bool) (h : some (decide (y < x)) = some c) : Op (aB c) (gtF [aI x, aI y]) := by cases h; rfl
theorem v_ge (x y : Int) (c : Bool) (h : some (decide (y ≤ x)) = some c) : Op (aB c) (geF [aI x, aI y]) := by cases h; rfl
theorem v_cat [Fr e] (x y c : List α) (h : catO x y = some c) : Op (eL true e c) (addF [eL o e x, eL o' e y]) := by
  unfold catO at h
  split at h
  · rename_i q
    cases h
    simp only [eL]
    rw [f_addL (by simp only [List.length_map]; exact q)]
    exact ⟨by rw [List.map_append], by rw [← List.map_append]; exact allFL_mapE Fr.fr _⟩
  · cases h
/-- lengths -/
theorem v_lenL (x : List α) (c : Int) (h : some (x.length : Int) = some c) : Op (aI c) (lenF [eL o e x]) := by cases h; simp only [eL, f_len_l, List.length_map]; rfl
theorem v_lenTl (x : List α) (c : Int) (h : some (x.length : Int) = some c) : Op (aI c) (lenF [eTl o e x]) := by cases h; simp only [eTl, f_len_t, List.length_map]; rfl
theorem v_lenS (x : List Int) (c : Int) (h : some (x.length : Int) = some c) : Op (aI c) (lenF [eSc x]) := by cases h; simp only [eSc, f_len_s, List.length_map]; rfl
theorem v_lenD [KeyE β] (x : List (β × α)) (c : Int) (h : some (x.length : Int) = some c) : Op (aI c) (lenF [eD o e x]) := by cases h; simp only [eD, f_len_d, List.length_map]; rfl
theorem v_len2 {f : β → T} (x : α × β) (c : Int) (h : some (2 : Int) = some c) : Op (aI c) (lenF [eT2 o e f x]) := by cases h; rfl
/-- cuts -/
theorem cutT_map (f : α → β) (xs : List α) (lo hi : Option Int) : cutT (xs.map f) lo hi = (cutT xs lo hi).map f := by
  simp only [cutT, List.length_map, List.map_take, List.map_drop]
theorem v_slL [Fr e] (x : List α) (y : Int) (c : List α) (h : some (cutT x (some y) none) = some c) : Op (eL true e c) (slLF [eL o e x, aI y]) := by
  cases h; rw [f_slL]; simp only [eL, f_cut_l]; exact ⟨by rw [cutT_map], by rw [cutT_map]; exact allFL_mapE Fr.fr _⟩
theorem v_slU [Fr e] (x : List α) (y : Int) (c : List α) (h : some (cutT x none (some y)) = some c) : Op (eL true e c) (slUF [eL o e x, aI y]) := by
  cases h; rw [f_slU]; simp only [eL, f_cut_l]; exact ⟨by rw [cutT_map], by rw [cutT_map]; exact allFL_mapE Fr.fr _⟩
theorem v_slLU [Fr e] (x : List α) (y z : Int) (c : List α) (h : some (cutT x (some y) (some z)) = some c) : Op (eL true e c) (slLUF [eL o e x, aI y, aI z]) := by
  cases h; rw [f_slLU]; simp only [eL, f_cut_l]; exact ⟨by rw [cutT_map], by rw [cutT_map]; exact allFL_mapE Fr.fr _⟩
theorem v_slLs (x : List Int) (y : Int) (c : List Int) (h : some (cutT x (some y) none) = some c) : Op (eL true aI c) (slLF [eSc x, aI y]) := by
  cases h; rw [f_slL]; simp only [eSc, f_cut_s, eL]; exact ⟨by rw [cutT_map], by rw [cutT_map]; exact allFL_mapE Fr.fr _⟩
theorem v_slUs (x : List Int) (y : Int) (c : List Int) (h : some (cutT x none (some y)) = some c) : Op (eL true aI c) (slUF [eSc x, aI y]) := by
  cases h; rw [f_slU]; simp only [eSc, f_cut_s, eL]; exact ⟨by rw [cutT_map], by rw [cutT_map]; exact allFL_mapE Fr.fr _⟩
theorem v_slLUs (x : List Int) (y z : Int) (c : List Int) (h : some (cutT x (some y) (some z)) = some c) : Op (eL true aI c) (slLUF [eSc x, aI y, aI z]) := by
  cases h; rw [f_slLU]; simp only [eSc, f_cut_s, eL]; exact ⟨by rw [cutT_map], by rw [cutT_map]; exact allFL_mapE Fr.fr _⟩
/-- the least, the greatest, sums -/
theorem v_minL (x : List Int) (c : Int) (h : x.min? = some c) : Op (aI c) (minF [eL o aI x]) := by simp only [eL, b_min, h]; rfl
theorem v_maxL (x : List Int) (c : Int) (h : x.max? = some c) : Op (aI c) (maxF [eL o aI x]) := by simp only [eL, b_max, h]; rfl
theorem v_min2 (x y c : Int) (h : some (min x y) = some c) : Op (aI c) (minF [aI x, aI y]) := by cases h; rw [b_min2]; rfl
theorem v_max2 (x y c : Int) (h : some (max x y) = some c) : Op (aI c) (maxF [aI x, aI y]) := by cases h; rw [b_max2]; rfl
theorem v_sum (x : List Int) (c : Int) (h : some x.sum = some c) : Op (aI c) (sumF [eL o aI x]) := by cases h; simp only [eL, b_sum]; rfl
theorem blL_map (x : List Bool) : T.blL (x.map aB) = some x := by
  induction x with
  | nil => rfl
  | cons b x ih => simp only [List.map_cons, T.blL, ih]
theorem v_all (x : List Bool) (c : Bool) (h : some (x.all id) = some c) : Op (aB c) (allB false [eL o aB x]) := by cases h; simp only [eL, allB, blL_map]; rfl
theorem v_any (x : List Bool) (c : Bool) (h : some (x.any id) = some c) : Op (aB c) (allB true [eL o aB x]) := by cases h; simp only [eL, allB, blL_map]; rfl
theorem v_idx (x : List Int) (y c : Int) (h : indexO x y = some c) : Op (aI c) (idxF [eL o aI x, aI y]) := by
  unfold indexO at h
  split at h
  · rename_i q; cases h; simp only [eL, b_idx q]; rfl
  · cases h
theorem c_isL (x : List α) : isL (eL o e x) = true := rfl
/-- is None -/
class NoN (e : α → T) : Prop where
  nn : ∀ a, e a ≠ .atm .non
  dn : ∀ a, (e a).dat ≠ .none
instance : NoN aI := ⟨fun _ h => (nomatch h), fun _ h => (nomatch h)⟩
instance : NoN aB := ⟨fun _ h => (nomatch h), fun _ h => (nomatch h)⟩
instance : NoN aS := ⟨fun _ h => (nomatch h), fun _ h => (nomatch h)⟩
instance : NoN (eL o e) := ⟨fun _ h => (nomatch h), fun _ h => by simp [eL] at h⟩
instance : NoN (eTl o e) := ⟨fun _ h => (nomatch h), fun _ h => by simp [eTl] at h⟩
instance {f : β → T} : NoN (eT2 o e f) := ⟨fun _ h => (nomatch h), fun _ h => by simp [eT2] at h⟩
instance {f : β → T} {g : γ → T} : NoN (eT3 o e f g) := ⟨fun _ h => (nomatch h), fun _ h => by simp [eT3] at h⟩
theorem isN_ne {neg : Bool} {t : T} (h : t ≠ .atm .non) : isNF neg [t, .atm .non] = some (.a (.bl neg)) := by
  cases t with
  | atm v => cases v <;> first | exact absurd rfl h | (cases neg <;> rfl)
  | box o k xs => rfl
theorem v_isN [NoN e] (x : Option α) (y : Unit) (c : Bool) (h : some x.isNone = some c) : Op (aB c) (isNF false [eO e x, aN y]) := by
  cases h
  cases x with
  | none => rfl
  | some a => rw [show eO e (some a) = e a from rfl, show aN y = .atm .non from rfl, isN_ne (NoN.nn a)]; rfl
theorem v_isnN [NoN e] (x : Option α) (y : Unit) (c : Bool) (h : some x.isSome = some c) : Op (aB c) (isNF true [eO e x, aN y]) := by
  cases h
  cases x with
  | none => rfl
  | some a => rw [show eO e (some a) = e a from rfl, show aN y = .atm .non from rfl, isN_ne (NoN.nn a)]; rfl
theorem v_isN0 [NoN e] (x : α) (y : Unit) (c : Bool) (h : some false = some c) : Op (aB c) (isNF false [e x, aN y]) := by
  cases h; rw [show aN y = .atm .non from rfl, isN_ne (NoN.nn x)]; rfl
theorem v_isnN0 [NoN e] (x : α) (y : Unit) (c : Bool) (h : some true = some c) : Op (aB c) (isNF true [e x, aN y]) := by
  cases h; rw [show aN y = .atm .non from rfl, isN_ne (NoN.nn x)]; rfl
/-- what may be compared: how deep -/
class Fit (e : α → T) (n : outParam Nat) : Prop where
  ok : ∀ a k, n ≤ k → okd k (e a) = true
class EqP (e e' : α → T) [DecidableEq α] : Prop where
  eq : ∀ a b, PyData.eqv (e a).dat (e' b).dat = decide (a = b)
instance : Fit aI 0 := ⟨fun _ _ _ => okd_i⟩
instance : Fit aB 0 := ⟨fun _ _ _ => okd_b⟩
instance : Fit aN 0 := ⟨fun _ _ _ => okd_n⟩
instance {n : Nat} [Fit e n] : Fit (eL o e) (n + 1) := ⟨fun a k h => by
  obtain ⟨k, rfl⟩ : ∃ j, k = j + 1 := ⟨k - 1, by omega⟩
  simp only [eL, okd_l, List.all_eq_true]
  intro x hx
  obtain ⟨b, _, rfl⟩ := List.mem_map.mp hx
  exact Fit.ok b k (by omega)⟩
instance {n : Nat} [Fit e n] : Fit (eTl o e) (n + 1) := ⟨fun a k h => by
  obtain ⟨k, rfl⟩ : ∃ j, k = j + 1 := ⟨k - 1, by omega⟩
  simp only [eTl, okd_t, List.all_eq_true]
  intro x hx
  obtain ⟨b, _, rfl⟩ := List.mem_map.mp hx
  exact Fit.ok b k (by omega)⟩
instance {n : Nat} [Fit e n] : Fit (eO e) n := ⟨fun a k h => by cases a with
  | none => exact okd_n
  | some a => exact Fit.ok a k h⟩
instance {n m : Nat} {f : β → T} [Fit e n] [Fit f m] : Fit (eT2 o e f) (n + m + 1) := ⟨fun a k h => by
  obtain ⟨k, rfl⟩ : ∃ j, k = j + 1 := ⟨k - 1, by omega⟩
  simp only [eT2, okd_t, List.all_cons, List.all_nil, Fit.ok (e := e) a.1 k (by omega), Fit.ok (e := f) a.2 k (by omega), Bool.and_self]⟩
instance {n m l : Nat} {f : β → T} {g : γ → T} [Fit e n] [Fit f m] [Fit g l] : Fit (eT3 o e f g) (n + m + l + 1) := ⟨fun a k h => by
  obtain ⟨k, rfl⟩ : ∃ j, k = j + 1 := ⟨k - 1, by omega⟩
  simp only [eT3, okd_t, List.all_cons, List.all_nil, Fit.ok (e := e) a.1 k (by omega), Fit.ok (e := f) a.2.1 k (by omega), Fit.ok (e := g) a.2.2 k (by omega), Bool.and_self]⟩
instance : EqP aI aI := ⟨fun a b => by simp⟩
instance : EqP aB aB := ⟨fun a b => by simp only [d_bl, PyData.eqv]; cases a <;> cases b <;> rfl⟩
instance : EqP aN aN := ⟨fun a b => by simp [aN, PyData.eqv]⟩
theorem eqAll_map [DecidableEq α] [EqP e e'] : ∀ xs ys : List α, PyData.eqvAll (T.datL (xs.map e)) (T.datL (ys.map e')) = decide (xs = ys)
  | [], [] => by simp [T.datL, PyData.eqvAll]
  | [], y :: ys => by simp [T.datL, PyData.eqvAll]
  | x :: xs, [] => by simp [T.datL, PyData.eqvAll]
  | x :: xs, y :: ys => by
    simp only [List.map_cons, T.datL, PyData.eqvAll, eqAll_map xs ys, EqP.eq (e := e) (e' := e')]
    by_cases h : x = y <;> simp [h]
instance [DecidableEq α] [EqP e e'] : EqP (eL o e) (eL o' e') := ⟨fun a b => by simp only [eL, d_lst, e_list, eqAll_map]⟩
instance [DecidableEq α] [EqP e e'] : EqP (eTl o e) (eTl o' e') := ⟨fun a b => by simp only [eTl, d_tup, e_tuple, eqAll_map]⟩
instance [DecidableEq α] [EqP e e'] {f f' : β → T} [DecidableEq β] [EqP f f'] : EqP (eT2 o e f) (eT2 o' e' f') := ⟨fun a b => by
  obtain ⟨a1, a2⟩ := a
  obtain ⟨b1, b2⟩ := b
  simp only [eT2, d_tup, e_tuple, T.datL, PyData.eqvAll, EqP.eq (e := e) (e' := e'), EqP.eq (e := f) (e' := f')]
  by_cases h : a1 = b1 <;> by_cases h2 : a2 = b2 <;> simp [h, h2]⟩
instance [DecidableEq α] [EqP e e'] {f f' : β → T} [DecidableEq β] [EqP f f'] {g g' : γ → T} [DecidableEq γ] [EqP g g'] : EqP (eT3 o e f g) (eT3 o' e' f' g') := ⟨fun a b => by
  obtain ⟨a1, a2, a3⟩ := a
  obtain ⟨b1, b2, b3⟩ := b
  simp only [eT3, d_tup, e_tuple, T.datL, PyData.eqvAll, EqP.eq (e := e) (e' := e'), EqP.eq (e := f) (e' := f'), EqP.eq (e := g) (e' := g')]
  by_cases h : a1 = b1 <;> by_cases h2 : a2 = b2 <;> by_cases h3 : a3 = b3 <;> simp [h, h2, h3]⟩
theorem eqv_nn {d : PyData} (h : d ≠ .none) : PyData.eqv .none d = false ∧ PyData.eqv d .none = false := by
  cases d <;> first | exact absurd rfl h | (constructor <;> simp [PyData.eqv])
instance [DecidableEq α] [EqP e e'] [NoN e] [NoN e'] : EqP (eO e) (eO e') := ⟨fun a b => by
  cases a with
  | none => cases b with
    | none => simp [eO, PyData.eqv]
    | some b => simp [eO, (eqv_nn (NoN.dn (e := e') b)).1]
  | some a => cases b with
    | none => simp [eO, (eqv_nn (NoN.dn (e := e) a)).2]
    | some b => simp [eO, EqP.eq (e := e) (e' := e')]⟩
theorem v_eq {n n' : Nat} [DecidableEq α] [EqP e e'] [Fit e n] [Fit e' n'] (hn : n ≤ 64 := by decide) (hn' : n' ≤ 64 := by decide) (x y : α) (c : Bool) (h : some (decide (x = y)) = some c) : Op (aB c) (eqF false [e x, e' y]) := by
  cases h
  rw [f_eq (okd_fit (Fit.ok (e := e) x n (Nat.le_refl _)) hn) (okd_fit (Fit.ok (e := e') y n' (Nat.le_refl _)) hn'), EqP.eq]; rfl
theorem v_ne {n n' : Nat} [DecidableEq α] [EqP e e'] [Fit e n] [Fit e' n'] (hn : n ≤ 64 := by decide) (hn' : n' ≤ 64 := by decide) (x y : α) (c : Bool) (h : some (!decide (x = y)) = some c) : Op (aB c) (eqF true [e x, e' y]) := by
  cases h
  rw [f_ne (okd_fit (Fit.ok (e := e) x n (Nat.le_refl _)) hn) (okd_fit (Fit.ok (e := e') y n' (Nat.le_refl _)) hn'), EqP.eq]; rfl
/-- in -/
theorem any_eq [DecidableEq α] [EqP e e'] (x : α) (ys : List α) : (T.datL (ys.map e)).any (fun z => PyData.eqv z (e' x).dat) = decide (x ∈ ys) := by
  induction ys with
  | nil => rfl
  | cons y ys ih =>
    simp only [List.map_cons, T.datL, List.any_cons, ih, EqP.eq (e := e) (e' := e')]
    by_cases h : y = x
    · simp [h]
    · have : x ≠ y := fun z => h z.symm
      by_cases h2 : x ∈ ys <;> simp [h, this, h2]
theorem v_inL {n n' : Nat} [DecidableEq α] [EqP e' e] [Fit e n] [Fit e' n'] (hn : n ≤ 64 := by decide) (hn' : n' ≤ 63 := by decide) (x : α) (ys : List α) (c : Bool) (h : some (decide (x ∈ ys)) = some c) : Op (aB c) (inF false [e x, eL o e' ys]) := by
  cases h
  have f1 := okd_fit (Fit.ok (e := e) x n (Nat.le_refl _)) hn
  have f2 : (T.box true .lst (ys.map e')).fit = true := okd_fit (Fit.ok (e := eL true e') ys (n' + 1) (Nat.le_refl _)) (by omega)
  simp only [eL, inF, f1, f2, and_self, if_true, any_eq, Bool.false_bne]; rfl
theorem v_ninL {n n' : Nat} [DecidableEq α] [EqP e' e] [Fit e n] [Fit e' n'] (hn : n ≤ 64 := by decide) (hn' : n' ≤ 63 := by decide) (x : α) (ys : List α) (c : Bool) (h : some (!decide (x ∈ ys)) = some c) : Op (aB c) (inF true [e x, eL o e' ys]) := by
  cases h
  have f1 := okd_fit (Fit.ok (e := e) x n (Nat.le_refl _)) hn
  have f2 : (T.box true .lst (ys.map e')).fit = true := okd_fit (Fit.ok (e := eL true e') ys (n' + 1) (Nat.le_refl _)) (by omega)
  simp only [eL, inF, f1, f2, and_self, if_true, any_eq, Bool.true_bne]; rfl
theorem hasK_has [DecidableEq γ] [KeyE γ] (d : List (γ × α)) (y : γ) : hasK (d.map fun p => KeyE.key p.1) (KeyE.key y) = khas d y := by
  induction d with
  | nil => rfl
  | cons p d ih =>
    have : hasK ((p :: d).map fun p => KeyE.key p.1) (KeyE.key y) = (decide (KeyE.key p.1 = KeyE.key y) || hasK (d.map fun p => KeyE.key p.1) (KeyE.key y)) := by simp [hasK]
    rw [this, ih]
    have e : decide (KeyE.key p.1 = KeyE.key y) = decide (p.1 = y) := by
      by_cases h : p.1 = y
      · simp [h]
      · have : KeyE.key p.1 ≠ KeyE.key y := fun z => h (KeyE.inj _ _ z)
        simp [h, this]
    rw [e]; rfl
theorem v_inD (x : Int) (d : List (Int × α)) (c : Bool) (h : some (khas d x) = some c) : Op (aB c) (inF false [aI x, eD o e d]) := by
  cases h
  have := hasK_has d x
  simp only [eD, inF, T.key]
  rw [show (Sum.inl x : Key) = KeyE.key x from rfl, this]
  simp only [Bool.false_bne]; rfl
theorem v_ninD (x : Int) (d : List (Int × α)) (c : Bool) (h : some (!khas d x) = some c) : Op (aB c) (inF true [aI x, eD o e d]) := by
  cases h
  have := hasK_has d x
  simp only [eD, inF, T.key]
  rw [show (Sum.inl x : Key) = KeyE.key x from rfl, this]
  simp only [Bool.true_bne]; rfl
/-- isinstance -/
theorem v_isi {n : String} {b : Bool} (hf : ∀ a, isiF [e a, .atm (.ty n)] = some (.a (.bl b))) (x : α) (y : Unit) (c : Bool) (h : some b = some c) : Op (aB c) (isiF [e x, (fun _ => T.atm (.ty n)) y]) := by cases h; rw [hf]; rfl
/-- sorting -/
class Srt (e : α → T) (le : outParam (α → α → Bool)) : Prop where
  le : ∀ a b, sLe (e a) (e b) = le a b
  ok : ∀ xs : List α, xs.length ≤ 16777216 → srtB (xs.map e) = true
theorem srtT_map {le : α → α → Bool} [Srt e le] (xs : List α) : srtT (xs.map e) = (xs.mergeSort le).map e := by
  rw [srtT, List.map_mergeSort (s := sLe)]
  intro a _ b _
  exact (Srt.le a b).symm
theorem k_sort {le : α → α → Bool} [Srt e le] (x c : List α) (h : sortO le x = some c) : Tk (eL true e c) (sortF (eL o e x)) := by
  unfold sortO at h
  split at h
  · rename_i q
    cases h
    simp only [eL, sortF_l (Srt.ok x q), srtT_map]; rfl
  · cases h
theorem k_list (x c : List α) (h : some x = some c) : Tk (eL true e c) (listF (eL o e x)) := by cases h; rfl
theorem k_listTl (x c : List α) (h : some x = some c) : Tk (eL true e c) (listF (eTl o e x)) := by cases h; rfl
theorem k_listS (x c : List Int) (h : some x = some c) : Tk (eL true aI c) (listF (eSc x)) := by cases h; rfl
theorem kx_list [Fr e] (x : List α) (kd : Kd) (ys : List T) (h : listF (eL o e x) = some (kd, ys)) : T.allFL ys = true := by
  cases h; exact allFL_mapE Fr.fr x
theorem kx_sort [Fr e] (x : List α) (kd : Kd) (ys : List T) (h : sortF (eL o e x) = some (kd, ys)) : T.allFL ys = true := by
  simp only [eL, sortF] at h
  split at h
  · cases h
    refine allFL_iff.mpr fun t ht => ?_
    obtain ⟨a, _, rfl⟩ := List.mem_map.mp ((List.mergeSort_perm _ _).mem_iff.mp ht)
    exact Fr.fr a
  · cases h
instance : Srt aI leI := ⟨fun a b => by
  have := congrFun (congrFun (PySem.W.dataLe_int (β := Int) id) a) b
  simp only [id] at this
  rw [leI, ← this]; rfl, fun xs h => srtB_i h⟩
instance : Srt (eL o aI) leR := ⟨fun a b => by
  have := congrFun (congrFun (PySem.W.dataLe_rows (β := List Int) id) a) b
  simp only [id] at this
  rw [leR, ← this]
  show PySem.W.dataLe false T.dat (eL o aI a) (eL o aI b) = PySem.W.dataLe false (fun b => PyData.list (b.map .int)) a b
  simp only [PySem.W.dataLe_eq, eL, d_lst, d_ints], fun xs h => srtB_r h⟩
theorem dlt_R (a b : List Int) : PySem.W.dataLt (.list (a.map .int)) (.list (b.map .int)) = ltR a b := by
  rw [PySem.W.dataLt_list]
  exact PySem.W.dataLt_ints a b
theorem dlt_M (a b : List (List Int)) : PySem.W.dataLt (.list (a.map fun r => .list (r.map .int))) (.list (b.map fun r => .list (r.map .int))) = lexB ltR a b := by
  rw [PySem.W.dataLt_list]
  induction a generalizing b with
  | nil => cases b with
    | nil => exact PyProof.Rows.lex_irrefl _
    | cons y ys =>
      simp only [List.map_nil, List.map_cons, lexB]
      rw [PySem.W.toks_all_cons]
      simp only [PySem.W.keyToksAll]
      rw [PyProof.Rows.lex_diff (O := PyProof.Rows.itemOrd) (by simp)]
      rfl
  | cons x xs ih => cases b with
    | nil =>
      simp only [List.map_nil, List.map_cons, lexB]
      rw [PySem.W.toks_all_cons]
      simp only [PySem.W.keyToksAll]
      rw [PyProof.Rows.lex_diff (O := PyProof.Rows.itemOrd) (by simp)]
      rfl
    | cons y ys =>
      simp only [List.map_cons, lexB]
      rw [PySem.W.dataLt_cons (by simp), dlt_R, ih]
      simp
instance : Srt (eL o (eL o' aI)) leM := ⟨fun a b => by
  show PySem.W.dataLe false T.dat (eL o (eL o' aI) a) (eL o (eL o' aI) b) = leM a b
  have h : ∀ m : List (List Int), (eL o (eL o' aI) m).dat = .list (m.map fun r => .list (r.map .int)) := fun m => by
    simp only [eL, d_lst, datL_map, List.map_map]
    congr 1
    exact List.map_congr_left fun r _ => by show (eL o' aI r).dat = _; simp only [eL, d_lst, d_ints]
  simp only [PySem.W.dataLe_eq, h, cond_false, dlt_M, leM], fun xs h => by
  have h2 : ∀ m : List (List Int), (eL o (eL o' aI) m).dat = .list (m.map fun r => .list (r.map .int)) := fun m => by
    simp only [eL, d_lst, datL_map, List.map_map]
    congr 1
    exact List.map_congr_left fun r _ => by show (eL o' aI r).dat = _; simp only [eL, d_lst, d_ints]
  have al : ∀ a b : List (List Int), PySem.W.alikeAll (a.map fun r => PyData.list (r.map .int)) (b.map fun r => PyData.list (r.map .int)) = true := by
    intro a
    induction a with
    | nil => intro b; cases b <;> simp [PySem.W.alikeAll]
    | cons x xs ih => intro b; cases b with
      | nil => simp [PySem.W.alikeAll]
      | cons y ys => simp [PySem.W.alikeAll, ih]
  have fit : ∀ m : List (List Int), (eL o (eL o' aI) m).good = true ∧ (eL o (eL o' aI) m).dat.depth ≤ 2 := fun m => by
    have := okd_good 2 _ (Fit.ok (e := eL o (eL o' aI)) m 2 (Nat.le_refl _))
    exact ⟨this.1, this.2.2⟩
  simp only [srtB, Bool.and_eq_true, decide_eq_true_eq, List.all_eq_true, List.length_map, Bool.or_eq_true, List.mem_map]
  refine ⟨⟨⟨h, ?_⟩, ?_⟩, .inr ?_⟩
  · rintro x ⟨m, _, rfl⟩; exact ⟨(fit m).1, Nat.le_trans (fit m).2 (by decide)⟩
  · rintro x ⟨m, _, rfl⟩ y ⟨m', _, rfl⟩
    rw [h2, h2, al_ll]; exact al m m'
  · rintro x ⟨m, _, rfl⟩; exact (fit m).1⟩
/-- truth -/
theorem t_L (x : List α) : (eL o e x).truth = some (!x.isEmpty) := by simp only [eL, k_tr_l, List.isEmpty_map]
theorem t_Tl (x : List α) : (eTl o e x).truth = some (!x.isEmpty) := by simp only [eTl, k_tr_t, List.isEmpty_map]
theorem t_B (x : Bool) : (aB x).truth = some x := rfl
theorem t_I (x : Int) : (aI x).truth = some (x != 0) := rfl
theorem t_D [KeyE β] (x : List (β × α)) : (eD o e x).truth = some (!x.isEmpty) := by simp only [eD, k_tr_d, List.isEmpty_map]
theorem t_Sc (x : List Int) : (eSc x).truth = some (!x.isEmpty) := by simp only [eSc, k_tr_s, List.isEmpty_map]
end
end TL
namespace TL
open PySem PySem.Spec L2
section
variable {α β γ δ σ τ ρ ω ι : Type} {L L1 L2 L3 : Lay} {q q1 q2 : Bool} {k k1 k2 : Option Rt} {g ga gb : S → RE} {t : S → RT} {a b : S → RS}
variable {A : Option α} {B : Option β} {ea ea' : α → T} {eb : β → T} {ec : γ → T} {i : Nat} {r : Rt}
/-! ## What is walked -/
def EI (L : Lay) (q : Bool) (gi : S → RI) (L' : Lay) (o : Option (List α)) (e : α → T) : Prop :=
  ∀ xs, o = some xs → ∀ s, At L s → ∃ m s', gi s = .ok (xs.map e) m s' ∧ At L' s' ∧ (q = true → m.quiet = true)
variable {gi : S → RI} {X : Option (List α)}
theorem I.list {o : Bool} [Fr ea] (h : EW L q none g L1 X (eL o ea)) : EI L q (iL g) L1 X ea := fun xs e s al => by
  obtain ⟨v, m, s', h1, h2, h3, h4⟩ := h xs e s al
  rw [show v = .v (eL o ea xs) from h4] at h1
  refine ⟨m, s', ?_, h2, h3⟩
  simp only [iL, h1, eL, k_it_l (allFL_mapE Fr.fr xs)]
theorem I.scr {X : Option (List Int)} (h : EW L q none g L1 X eSc) : EI L q (iL g) L1 X aI := fun xs e s al => by
  obtain ⟨v, m, s', h1, h2, h3, h4⟩ := h xs e s al
  rw [show v = .v (eSc xs) from h4] at h1
  refine ⟨m, s', ?_, h2, h3⟩
  simp only [iL, h1, eSc, k_it_s (allFL_mapE Fr.fr xs)]
theorem I.tup {o : Bool} [Fr ea] (h : EW L q none g L1 X (eTl o ea)) : EI L q (iT g) L1 X ea := fun xs e s al => by
  obtain ⟨v, m, s', h1, h2, h3, h4⟩ := h xs e s al
  rw [show v = .v (eTl o ea xs) from h4] at h1
  refine ⟨m, s', ?_, h2, h3⟩
  simp only [iT, h1, eTl, k_tit (allFL_mapE Fr.fr xs)]
theorem I.rv (h : EI L q (iL g) L1 X ea) : EI L q (iRv g) L1 (X.map List.reverse) ea := fun xs e s al => by
  obtain ⟨ys, ey, rfl⟩ := map_of e
  obtain ⟨m, s', h1, h2, h3⟩ := h ys ey s al
  refine ⟨m, s', ?_, h2, h3⟩
  rw [k_iRv, h1]; simp only [List.map_reverse]
theorem I.en (h : EI L q (iL g) L1 X ea) : EI L q (iEn g) L1 (X.map enumL) (eT2 false aI ea) := fun xs e s al => by
  obtain ⟨ys, ey, rfl⟩ := map_of e
  obtain ⟨m, s', h1, h2, h3⟩ := h ys ey s al
  refine ⟨m, s', ?_, h2, h3⟩
  rw [k_iEn, h1]
  simp only [enumT_map, enumL, List.map_map]; rfl
theorem I.zip {o o' : Bool} [Fr ea] [Fr eb] {Y : Option (List β)} (ha : EW L q1 none ga L1 X (eL o ea)) (hb : EW L1 q2 none gb L2 Y (eL o' eb)) : EI L (q1 && q2) (iZ (argsG [ga, gb])) L2 (o2 X Y fun x y => some (x.zip y)) (eT2 false ea eb) := fun xs e s al => by
  obtain ⟨x, y, ex, ey, e⟩ := o2_of e
  cases e
  obtain ⟨u, v, m, s', h1, h2, h3, h4, h5⟩ := args2 ha hb (.inl rfl) ex ey al
  rw [show u = .v (eL o ea x) from h4, show v = .v (eL o' eb y) from h5] at h1
  refine ⟨m, s', ?_, h2, h3⟩
  rw [k_iZ, h1, k_iZK]
  simp only [k_tvs, k_tvs0, k_vcons, k_iZT, eL, k_it_l (allFL_mapE Fr.fr _), k_iZO, zipT_map]
  rfl
theorem I.r1 {N : Option Int} (h : EW L q none g L1 N aI) : EI L q (iR1 (argsG [g])) L1 (N.bind rangeO) aI := fun xs e s al => by
  obtain ⟨n, en, e⟩ := bind_of e
  obtain ⟨v, m, s', h1, h2, h3, h4⟩ := args1 h en al
  rw [show v = .v (aI n) from h4] at h1
  refine ⟨m, s', ?_, h2, h3⟩
  unfold rangeO at e
  split at e
  · rename_i hc
    cases e
    rw [k_iR1, h1, k_iR1K]
    simp only [k_tvs, k_tvs0, k_vcons]
    rw [k_iR1T hc, rngT]
    simp only [List.map_map, Int.zero_add]; rfl
  · cases e
theorem I.r2 {N M : Option Int} (ha : EW L q1 none ga L1 N aI) (hb : EW L1 q2 none gb L2 M aI) : EI L (q1 && q2) (iR2 (argsG [ga, gb])) L2 (o2 N M range2O) aI := fun xs e s al => by
  obtain ⟨x, y, ex, ey, e⟩ := o2_of e
  obtain ⟨u, v, m, s', h1, h2, h3, h4, h5⟩ := args2 ha hb (.inl rfl) ex ey al
  rw [show u = .v (aI x) from h4, show v = .v (aI y) from h5] at h1
  refine ⟨m, s', ?_, h2, h3⟩
  unfold range2O at e
  split at e
  · rename_i hc
    cases e
    rw [k_iR2, h1, k_iR2K]
    simp only [k_tvs, k_tvs0, k_vcons]
    rw [k_iR2T hc, rngT]
    simp only [List.map_map]; rfl
  · cases e
/-- targets -/
def BI (L : Lay) (b : T → S → Option S) (e : α → T) (lay : α → Lay) : Prop := ∀ x s, At L s → ∃ s', b (e x) s = some s' ∧ At (lay x) s'
theorem G.name {lay : α → Lay} (i : Nat) (hi : Nat.blt i L.sl.length = true) (h : ∀ x, L.put i (.is (ea x)) = lay x) : BI L (bN i) ea lay := fun x s al => by
  refine ⟨s.put i (.t (ea x)), ?_, by rw [← h]; exact al.put rfl⟩
  simp only [bN, al.lt hi, if_true]
theorem G.two {o : Bool} {b1 b2 : T → S → Option S} {l1 : α → Lay} {lay : α × β → Lay} (h1 : BI L b1 ea l1) (h2 : ∀ x, BI (l1 x) b2 eb fun y => lay (x, y)) : BI L (bT 2 (bCons b1 (bCons b2 bNil))) (eT2 o ea eb) lay := fun p s al => by
  obtain ⟨x, y⟩ := p
  obtain ⟨s1, e1, a1⟩ := h1 x s al
  obtain ⟨s2, e2, a2⟩ := h2 x y s1 a1
  refine ⟨s2, ?_, a2⟩
  simp only [eT2]
  rw [k_bT (by rfl), k_bCons, e1, k_bO, k_bCons, e2, k_bO, k_bNil]
theorem G.three {o : Bool} {b1 b2 b3 : T → S → Option S} {l1 : α → Lay} {l2 : α → β → Lay} {lay : α × β × γ → Lay} (h1 : BI L b1 ea l1) (h2 : ∀ x, BI (l1 x) b2 eb (l2 x)) (h3 : ∀ x y, BI (l2 x y) b3 ec fun z => lay (x, y, z)) : BI L (bT 3 (bCons b1 (bCons b2 (bCons b3 bNil)))) (eT3 o ea eb ec) lay := fun p s al => by
  obtain ⟨x, y, z⟩ := p
  obtain ⟨s1, e1, a1⟩ := h1 x s al
  obtain ⟨s2, e2, a2⟩ := h2 x y s1 a1
  obtain ⟨s3, e3, a3⟩ := h3 x y z s2 a2
  refine ⟨s3, ?_, a3⟩
  simp only [eT3]
  rw [k_bT (by rfl), k_bCons, e1, k_bO, k_bCons, e2, k_bO, k_bCons, e3, k_bO, k_bNil]
/-! ## Comprehensions -/
def Lay.wipe (L : Lay) : List Nat → Lay
  | [] => L
  | v :: vs => (L.wipe vs).put v .no
theorem At.wipe {s : S} (h : At L s) : ∀ own : List Nat, At (L.wipe own) (wipeS s own)
  | [] => h
  | v :: vs => (At.wipe h vs).put rfl
def noB (L : Lay) (own : List Nat) : Bool := own.all fun v => match nth L.sl v with
  | .no => true
  | _ => false
theorem noB_md {L : Lay} {s : S} (al : At L s) {own : List Nat} (h : noB L own = true) : lcMd own s = .fz := by
  unfold lcMd
  rw [if_pos]
  simp only [noB, List.all_eq_true] at h ⊢
  intro v hv
  have := h v hv
  split at this
  · rename_i e; rw [al.no e]; rfl
  · cases this
theorem E.lc {bt : T → S → Option S} {own : List Nat} {Lw : Lay} {Lb Lt : α → Lay} {c : α → Option Bool} {f : α → Option β} {Lg : α → Lay} (hi : EI L q gi L1 X ea) (w0 : Sub (L1.wipe own) Lw) (hb : BI Lw bt ea Lb) (ht : ∀ x, ET (Lb x) true t (Lt x) (c x)) (wt : ∀ x, Sub ((Lt x).wipe own) Lw)
    (hg : ∀ x, EW (Lt x) true none g (Lg x) (f x) eb) (wg : ∀ x, Sub ((Lg x).wipe own) Lw) : EW L (q && noB L1 own) none (lcE gi bt t g own) Lw (X.bind fun xs => flO c f xs) (eL true eb) := fun ys e s al => by
  obtain ⟨xs, ex, e⟩ := bind_of e
  obtain ⟨m, s1, h1, h2, h3⟩ := hi xs ex s al
  have a1 : At Lw (wipeS s1 own) := w0 _ (h2.wipe own)
  have key : ∀ (xs : List α) (zs : List β) (acc : List β) (m : Md) (s : S), At Lw s → flP c f xs = some zs → acc.length + zs.length ≤ 16777216 → ∃ s', lcL bt t g own m (xs.map ea) (acc.map eb) s = .ok (.v (eL true eb (acc ++ zs))) m s' ∧ At Lw s' := by
    intro xs
    induction xs with
    | nil => intro zs acc m s al e hl; cases e; exact ⟨s, by simp only [List.map_nil, k_lcL0, eL, List.append_nil], al⟩
    | cons x xs ih =>
      intro zs acc m s al e hl
      simp only [flP] at e
      obtain ⟨b, eb', e⟩ := bind_of e
      obtain ⟨s2, g1, g2⟩ := hb x s al
      obtain ⟨m3, s3, f1, f2, f3⟩ := ht x b eb' s2 g2
      rw [List.map_cons, k_lcL1, g1, k_lcO, f1, k_lcT (f3 rfl)]
      cases b with
      | false =>
        simp only [Bool.false_eq_true, if_false] at e ⊢
        exact ih zs acc m _ (wt x _ (f2.wipe own)) e hl
      | true =>
        simp only [if_true] at e ⊢
        obtain ⟨y, ey, e⟩ := bind_of e
        obtain ⟨ys', ey', e⟩ := bind_of e
        cases e
        obtain ⟨v, m4, s4, d1, d2, d3, d4⟩ := hg x y ey s3 f2
        rw [show v = .v (eb y) from d4] at d1
        simp only [List.length_cons] at hl
        have hz : (acc.map eb).length < sizeLine := by rw [List.length_map, sz24]; omega
        rw [d1, k_lcV (f3 rfl) (d3 rfl) hz]
        have := ih ys' (acc ++ [y]) m _ (wg x _ (d2.wipe own)) ey' (by simp; omega)
        simpa using this
  obtain ⟨zs, ez, e⟩ := bind_of e
  unfold capO at e
  split at e
  · rename_i hl
    cases e
    obtain ⟨s', k1, k2⟩ := key xs _ [] (m.seq (lcMd own s1)) _ a1 ez (by simpa using hl)
    refine ⟨_, m.seq (lcMd own s1), s', ?_, k2, fun z => ?_, rfl⟩
    rotate_left
    · simp only [Bool.and_eq_true] at z
      rw [noB_md h2 z.2]
      exact quiet_seq (h3 z.1) rfl
    rw [k_lc, h1, k_lcK]
    exact k1
  · cases e
/-- .. without a test -/
theorem flP_yes (f : α → Option β) (xs : List α) : flP (fun _ => some true) f xs = mpP f xs := by
  induction xs with
  | nil => rfl
  | cons x xs ih => simp only [flP, mpP, Option.bind_some, if_true, ih]
theorem E.lcy {bt : T → S → Option S} {own : List Nat} {Lw : Lay} {Lb : α → Lay} {f : α → Option β} {Lg : α → Lay} (hi : EI L q gi L1 X ea) (w0 : Sub (L1.wipe own) Lw) (hb : BI Lw bt ea Lb)
    (hg : ∀ x, EW (Lb x) true none g (Lg x) (f x) eb) (wg : ∀ x, Sub ((Lg x).wipe own) Lw) (wb : ∀ x, Sub ((Lb x).wipe own) Lw) : EW L (q && noB L1 own) none (lcE gi bt yesT g own) Lw (X.bind fun xs => mpO f xs) (eL true eb) := by
  have := E.lc (c := fun _ => some true) (Lt := Lb) hi w0 hb (fun x => T.yes) wb hg wg
  simp only [flO, flP_yes] at this
  exact this
/-! ## Statements that go on -/
def SN (L : Lay) (a : S → RS) (p : Option σ) (lay : σ → Lay) : Prop := ∀ v, p = some v → ∀ s, At L s → ∃ s', a s = .nx s' ∧ At (lay v) s'
variable {P : Option σ} {lay lay' : σ → Lay} {layt : τ → Lay}
theorem N.asg {o : Option σ} {e : σ → T} (i : Nat) (h : EW L q none g L1 o e) (hi : Nat.blt i L1.sl.length = true) (hl : ∀ v, L1.put i (.is (e v)) = lay v) : SN L (asgS i g) o lay := fun v ev s al => by
  obtain ⟨u, m, s', h1, h2, h3, h4⟩ := h v ev s al
  rw [show u = .v (e v) from h4] at h1
  refine ⟨s'.put i (.t (e v)), ?_, by rw [← hl]; exact h2.put rfl⟩
  simp only [asgS, h1, bindE, h2.lt hi, if_true]
theorem N.aug {o : Option σ} {e : σ → T} {f : List T → Option RV} (i : Nat) (h : EW L q none (opE f (argsG [rdE i, g])) L1 o e) (hi : Nat.blt i L1.sl.length = true) (hl : ∀ v, L1.put i (.is (e v)) = lay v) : SN L (augS i f g) o lay := N.asg i h hi hl
theorem N.expr {e : α → T} (h : EW L q k g L1 A e) : SN L (exprS g) (A.map fun _ => ()) (fun _ => L1) := fun v ev s al => by
  obtain ⟨x, ex, _⟩ := map_of ev
  obtain ⟨u, m, s', h1, h2, h3, h4⟩ := h x ex s al
  exact ⟨s', by simp only [exprS, h1], h2⟩
theorem N.skip {v : σ} (w : Sub L (lay v)) : SN L nxS (some v) lay := fun v' ev s al => by cases ev; exact ⟨s, rfl, w s al⟩
theorem N.map {f : σ → τ} (h : SN L a P lay) (w : ∀ v, Sub (lay v) (layt (f v))) : SN L a (P.map f) layt := fun v ev s al => by
  obtain ⟨x, ex, rfl⟩ := map_of ev
  obtain ⟨s', h1, h2⟩ := h x ex s al
  exact ⟨s', h1, w x _ h2⟩
theorem N.seq {Q : σ → Option τ} (h1 : SN L a P lay) (h2 : ∀ v, SN (lay v) b (Q v) layt) : SN L (seqS a b) (P.bind Q) layt := fun v ev s al => by
  obtain ⟨x, ex, ev⟩ := bind_of ev
  obtain ⟨s1, e1, a1⟩ := h1 x ex s al
  obtain ⟨s2, e2, a2⟩ := h2 x v ev s1 a1
  exact ⟨s2, by rw [k_seq, e1, k_seqK, e2], a2⟩
theorem N.iff {C : Option Bool} {Q : Option σ} (ht : ET L q t L1 C) (ha : SN L1 a P lay) (hb : SN L1 b Q lay) : SN L (ifS t a b) (C.bind fun c => if c = true then P else Q) lay := fun v ev s al => by
  obtain ⟨c, ec, ev⟩ := bind_of ev
  obtain ⟨m, s1, e1, a1, _⟩ := ht c ec s al
  cases c with
  | true =>
    simp only [if_true] at ev
    obtain ⟨s2, e2, a2⟩ := ha v ev s1 a1
    exact ⟨s2, by rw [k_if, e1, k_ifK, if_pos rfl, e2], a2⟩
  | false =>
    simp only [Bool.false_eq_true, if_false] at ev
    obtain ⟨s2, e2, a2⟩ := hb v ev s1 a1
    exact ⟨s2, by rw [k_if, e1, k_ifK, if_neg (by decide), e2], a2⟩
theorem N.forr {bt : T → S → Option S} {f : σ → α → Option σ} {st0 : σ} {Lb : σ → α → Lay} (hi : EI L q gi L1 X ea) (w0 : Sub L1 (lay st0)) (hb : ∀ st, BI (lay st) bt ea (Lb st)) (hf : ∀ st x, SN (Lb st x) a (f st x) lay) : SN L (forS gi bt a) (X.bind fun xs => forO f xs st0) lay := fun v ev s al => by
  obtain ⟨xs, ex, ev⟩ := bind_of ev
  obtain ⟨m, s1, e1, a1, _⟩ := hi xs ex s al
  have : ∀ (xs : List α) (st : σ) (s : S), At (lay st) s → forO f xs st = some v → ∃ s', forV bt a (xs.map ea) s = .nx s' ∧ At (lay v) s' := by
    intro xs
    induction xs with
    | nil => intro st s al e; cases e; exact ⟨s, rfl, al⟩
    | cons x xs ih =>
      intro st s al e
      simp only [forO] at e
      obtain ⟨st1, est, e⟩ := bind_of e
      obtain ⟨s2, g1, g2⟩ := hb st x s al
      obtain ⟨s3, f1, f2⟩ := hf st x st1 est s2 g2
      rw [List.map_cons, k_forV1, g1, k_turnO, f1, k_tK_n]
      exact ih st1 s3 f2 e
  obtain ⟨s', e2, a2⟩ := this xs st0 s1 (w0 _ a1) ev
  exact ⟨s', by rw [k_for, e1, k_forK, e2], a2⟩
theorem whileS_run {c : σ → Option Bool} {f : σ → Option (Lp σ ρ)} {lay : σ → Lay} {L1 : σ → Lay} {D : ρ → RS → Prop} (ht : ∀ st, ET (lay st) q t (L1 st) (c st)) (wx : ∀ st, Sub (L1 st) (lay st))
    (hf : ∀ st w, f st = some w → ∀ s, At (L1 st) s → match w with
      | .nx st' => ∃ s', (a s = .nx s' ∨ a s = .ct s') ∧ At (lay st') s'
      | .bk st' => ∃ s', a s = .bk s' ∧ At (lay st') s'
      | .rt r => D r (a s)) (hD : ∀ r rs, D r rs → (∃ t s, rs = .rt t s) ∨ ∃ C fs s, rs = .ex C fs s) :
    ∀ (n : Nat) (st : σ) (s : S) (w : Ot σ ρ), At (lay st) s → whN c f n st = some w → match w with
      | .nx st' => ∃ s', whileS t a s = .nx s' ∧ At (lay st') s'
      | .rt r => D r (whileS t a s) := by
  intro n
  induction n with
  | zero => intro st s w al e; cases e
  | succ n ih =>
    intro st s w al e
    rw [whN] at e
    obtain ⟨b, eb, e⟩ := bind_of e
    obtain ⟨m, s1, e1, a1, _⟩ := ht st b eb s al
    cases b with
    | false =>
      simp only [Bool.false_eq_true, if_false, Option.some.injEq] at e; subst e
      exact ⟨s1, by rw [k_while, e1, k_ifK, if_neg (by decide)], wx st _ a1⟩
    | true =>
      simp only [if_true] at e
      obtain ⟨l, el, e⟩ := bind_of e
      have h2 := hf st l el s1 a1
      have hw : whileS t a s = turnK (whileS t a) (a s1) := by rw [k_while, e1, k_ifK, if_pos rfl]
      cases l with
      | nx st' =>
        obtain ⟨s2, h3, a2⟩ := h2
        have := ih st' s2 w a2 e
        have hw2 : whileS t a s = whileS t a s2 := by
          rw [hw]
          rcases h3 with h3 | h3
          · rw [h3, k_tK_n]
          · rw [h3, k_tK_c]
        rw [hw2]; exact this
      | bk st' =>
        obtain ⟨s2, h3, a2⟩ := h2
        simp only [Lp.go_b, Option.some.injEq] at e; subst e
        exact ⟨s2, by rw [hw, h3, k_tK_b], a2⟩
      | rt r =>
        simp only [Lp.go_r, Option.some.injEq] at e; subst e
        simp only at h2 ⊢
        rw [hw]
        rcases hD r _ h2 with ⟨u, s2, h3⟩ | ⟨C, fs, s2, h3⟩
        · rw [h3] at h2 ⊢; exact h2
        · rw [h3] at h2 ⊢; exact h2
theorem N.whil {c : σ → Option Bool} {f : σ → Option σ} {st0 : σ} {Lt : σ → Lay} (w0 : Sub L (lay st0)) (ht : ∀ st, ET (lay st) q t (Lt st) (c st)) (wx : ∀ st, Sub (Lt st) (lay st)) (hf : ∀ st, SN (Lt st) a (f st) lay) : SN L (whileS t a) (whO c f st0) lay := fun v ev s al => by
  rw [whO] at ev
  obtain ⟨w, ew, ev⟩ := bind_of ev
  cases w with
  | rt r => exact r.elim
  | nx st' =>
    simp only [Ot.go_n, Option.some.injEq] at ev; subst ev
    obtain ⟨n, en⟩ := whC_ex ew
    exact whileS_run (ρ := Empty) (D := fun _ _ => False) ht wx (fun st w ew s al => by
      obtain ⟨st', es, rfl⟩ := map_of ew
      obtain ⟨s', e1, a1⟩ := hf st st' es s al
      exact ⟨s', .inl e1, a1⟩) (fun r => r.elim) n st0 s _ (w0 _ al) en
def Lay.drops (L : Lay) (is : List Nat) : Lay := is.foldl (fun L i => L.put i .no) L
theorem At.drops {s : S} : ∀ (is : List Nat) {L : Lay} {s : S}, At L s → At (L.drops is) (TL.drops is s)
  | [], _, _, h => h
  | i :: is, L, s, h => At.drops (s := s) is (h.put (i := i) (y := .no) (x := .no) rfl)
theorem N.clr {is : List Nat} (h : SN L a P lay) (hl : ∀ v, (lay v).drops is = lay' v) : SN L (clrS is a) P lay' := fun v ev s al => by
  obtain ⟨s1, e1, a1⟩ := h v ev s al
  refine ⟨TL.drops is s1, by simp only [clrS, e1], ?_⟩
  rw [← hl]; exact At.drops (s := s1) is a1
/-! ## Places -/
/-- the values under a root: how one is read, and put back -/
structure Ln (e0 : α → T) (p : List Nat) (gt : α → Option β) (e : β → T) (up : α → β → α) : Prop where
  get : ∀ M x, gt M = some x → (e0 M).get p = some (e x)
  set : ∀ M x y, gt M = some x → T.md (e y) (e0 M) p = e0 (up M y)
theorem Ln.nil {e : α → T} : Ln e [] some e (fun _ y => y) := ⟨fun M x h => by cases h; exact get_nil _, fun M x y h => by cases e M <;> rfl⟩
theorem Ln.lst {e : α → T} {e' : β → T} {p : List Nat} {gt : α → Option β} {up : α → β → α} (j : Nat) (h : Ln e p gt e' up) : Ln (eL true e) (j :: p) (fun M => M[j]?.bind gt) e' (fun M y => M.modify j fun x => up x y) := ⟨fun M x hx => by
  obtain ⟨z, hz, hx⟩ := bind_of hx
  simp only [eL, T.get, List.getElem?_map, hz, Option.map_some, h.get z x hx], fun M x y hx => by
  obtain ⟨z, hz, hx⟩ := bind_of hx
  simp only [eL, T.md]
  congr 1
  apply List.ext_getElem?
  intro n
  simp only [List.getElem?_modify, List.getElem?_map]
  by_cases hn : j = n
  · subst hn
    simp only [hz, Option.map_some, if_true]
    exact congrArg some (h.set z x y hx)
  · simp only [hn, if_false]; cases M[n]? <;> rfl⟩
/-- a place that an expression tells -/
structure PL (L : Lay) (g : S → RE) (L' : Lay) (r : Rt) (M : α) (e0 : α → T) (o : Option ι) (p : ι → List Nat) (n : Nat) (gt : ι → α → Option β) (e : β → T) (up : ι → α → β → α) : Prop where
  ev : ∀ w, o = some w → ∀ s, At L s → ∃ m s', g s = .ok (.p r (p w)) m s' ∧ At L' s' ∧ m.quiet = true
  root : L'.rt r = some (e0 M)
  ln : ∀ w, Ln e0 (p w) (gt w) e (up w)
  len : ∀ w, (p w).length = n
  ex : ∀ w, o = some w → ∃ x, gt w M = some x
theorem P.rd {M : α} [Ow ea] (i : Nat) (h : nth L.sl i = .is (ea M)) : PL L (rdE i) L (.sl i) M ea (some ()) (fun _ => []) 0 (fun _ => some) ea (fun _ _ y => y) :=
  ⟨fun w _ s al => ⟨.pure, s, by simp only [rdE, al.is h, Ow.ow, Bool.false_eq_true, if_false], al, rfl⟩, by simp only [Lay.rt, h], fun _ => Ln.nil, fun _ => rfl, fun _ _ => ⟨M, rfl⟩⟩
theorem P.al {M : α} [Ow eb] {p : List Nat} {gt : α → Option β} {up : α → β → α} {n : Nat} (i : Nat) (h : nth L.sl i = .al r p) (hr : L.rt r = some (ea M)) (l : Ln ea p gt eb up) (hn : p.length = n) : PL L (rdE i) L r M ea ((gt M).map fun _ => ()) (fun _ => p) n (fun _ => gt) eb (fun _ => up) :=
  ⟨fun w ew s al => by
    obtain ⟨x, ex, _⟩ := map_of ew
    have g1 : s.gt r p = some (eb x) := (al.gt hr).trans (l.get M x ex)
    exact ⟨.pure, s, by simp only [rdE, al.al h, g1, Ow.ow, Bool.false_eq_true, if_false], al, rfl⟩, hr, fun _ => l, fun _ => hn, fun w ew => by
    obtain ⟨x, ex, _⟩ := map_of ew
    exact ⟨x, ex⟩⟩
theorem get_app : ∀ (p q : List Nat) (t : T), t.get (p ++ q) = (t.get p).bind fun u => u.get q
  | [], q, t => by rw [get_nil]; rfl
  | n :: p, q, .atm v => rfl
  | n :: p, q, .box o k xs => by
    simp only [List.cons_append, T.get]
    cases xs[n]? with
    | none => rfl
    | some z => exact get_app p q z
theorem md_app : ∀ (p q : List Nat) (t u v : T), t.get p = some v → T.md u t (p ++ q) = T.md (T.md u v q) t p
  | [], q, t, u, v, h => by
    rw [get_nil] at h; cases h
    have : ∀ w t, T.md w t [] = w := fun w t => by cases t <;> rfl
    rw [this]; rfl
  | n :: p, q, .atm _, u, v, h => by cases h
  | n :: p, q, .box o k xs, u, v, h => by
    simp only [List.cons_append, T.md]
    simp only [T.get] at h
    congr 1
    apply List.ext_getElem?
    intro m
    simp only [List.getElem?_modify]
    by_cases hm : n = m
    · subst hm
      cases hz : xs[n]? with
      | none => rfl
      | some z => rw [hz] at h; simp [md_app p q z u v h]
    · simp only [hm, if_false]
/-- .. one thing of a list there -/
theorem P.ix {M : α} [Ow ec] {o : Option ι} {p : ι → List Nat} {n : Nat} {gt : ι → α → Option (List γ)} {up : ι → α → List γ → α} {B : Option Int} (h : PL L ga L1 r M ea o p n gt (eL true ec) up) (hb : EW L1 true k2 gb L1 B aI) :
    PL L (idxE (argsG [ga, gb])) L1 r M ea (o2 o B fun w i => (gt w M).bind fun xs => (ixN xs.length i).bind fun j => xs[j]?.bind fun _ => some (w, j)) (fun v => p v.1 ++ [v.2]) (n + 1) (fun v N => (gt v.1 N).bind fun xs => xs[v.2]?) ec (fun v N y => match gt v.1 N with
      | some xs => up v.1 N (xs.modify v.2 fun _ => y)
      | none => N) :=
  ⟨fun v ev s al => by
    obtain ⟨w, i, ew, ei, e⟩ := o2_of ev
    obtain ⟨xs, exs, e⟩ := bind_of e
    obtain ⟨j, ej, e⟩ := bind_of e
    obtain ⟨x, ex, e⟩ := bind_of e
    cases e
    obtain ⟨m, s1, h1, h2, h3⟩ := h.ev w ew s al
    obtain ⟨v, m', s2, g1, g2, g3, g4⟩ := hb i ei s1 h2
    have gr : s2.gt r (p w) = some (eL true ec xs) := (g2.gt h.root).trans ((h.ln w).get M xs exs)
    have sv : surv (.p r (p w)) m' = true := by
      have := g3 rfl
      cases m' <;> simp_all [Md.quiet, surv]
    have sv2 : surv v .pure = true := by cases v <;> rfl
    refine ⟨m.seq m', s2, ?_, g2, quiet_seq h3 (g3 rfl)⟩
    have ha : argsG [ga, gb] s = .ok [.p r (p w), v] (m.seq m') s2 := by
      simp only [argsG, h1, g1, sv2, sv, if_true, k_seq_pr]
    rw [k_ix, ha, k_ixK, g4.view g2, k_view_p, gr]
    simp only [eL]
    rw [k_ixV, f_pos_l, List.length_map, ej, k_ixJ, List.getElem?_map, ex, Option.map_some, k_ixO]
    simp only [ixC, Ow.ow, Bool.false_eq_true, if_false], h.root, fun v => ⟨fun N x hx => by
    obtain ⟨xs, exs, hx⟩ := bind_of hx
    rw [get_app, (h.ln v.1).get N xs exs]
    simp only [eL, Option.bind_some, T.get, List.getElem?_map, hx, Option.map_some, get_nil], fun N x y hx => by
    obtain ⟨xs, exs, hx⟩ := bind_of hx
    rw [md_app _ _ _ _ _ ((h.ln v.1).get N xs exs)]
    have : T.md (ec y) (eL true ec xs) [v.2] = eL true ec (xs.modify v.2 fun _ => y) := by
      simp only [eL, T.md]
      congr 1
      apply List.ext_getElem?
      intro m
      simp only [List.getElem?_modify, List.getElem?_map]
      by_cases hm : v.2 = m
      · simp only [hm, if_true]
        cases xs[m]? with
        | none => rfl
        | some z => cases ec z <;> rfl
      · simp only [hm, if_false]; cases xs[m]? <;> rfl
    rw [this, (h.ln v.1).set N xs _ exs]
    simp only [exs]⟩, fun v => by simp [h.len], fun v ev => by
    obtain ⟨w, i, ew, ei, e⟩ := o2_of ev
    obtain ⟨xs, exs, e⟩ := bind_of e
    obtain ⟨j, ej, e⟩ := bind_of e
    obtain ⟨x, ex, e⟩ := bind_of e
    cases e
    exact ⟨x, by simp only [exs, Option.bind_some, ex]⟩⟩
/-- a name that stands for a place -/
theorem N.al {M : α} {e0 : α → T} {o : Option ι} {p : ι → List Nat} {n : Nat} {gt : ι → α → Option β} {e : β → T} {up : ι → α → β → α} {lay : ι → Lay} (i : Nat) (h : PL L g L1 r M e0 o p n gt e up) (hr : r ≠ .sl i) (hi : Nat.blt i L1.sl.length = true) (hl : ∀ w, L1.put i (.al r (p w)) = lay w) : SN L (asgS i g) o lay := fun w ew s al => by
  obtain ⟨m, s', h1, h2, _⟩ := h.ev w ew s al
  obtain ⟨x, ex⟩ := h.ex w ew
  have gr : s'.gt r (p w) = some (e x) := (h2.gt h.root).trans ((h.ln w).get M x ex)
  refine ⟨s'.put i (.al r (p w)), ?_, by rw [← hl]; exact h2.put rfl⟩
  simp only [asgS, h1, bindE, gr, Option.isSome_some, h2.lt hi, and_true, ne_eq, hr, not_false_eq_true, and_self, if_true]
/-! ## Changes in place -/
/-- what a list's method does, by values -/
def Mu (f : List T → List T → Option (Bool × List T × T)) (kl : Bool) (e e' : β → T) (x : β) (ts : List T) (y : β) (ret : T) : Prop := ∃ xs ys, e x = .box true .lst xs ∧ f xs ts = some (kl, ys, ret) ∧ e y = .box true .lst ys
theorem N.mut {M : α} {e0 : α → T} {o : Option ι} {p : ι → List Nat} {n : Nat} {gt : ι → α → Option β} {e : β → T} {up : ι → α → β → α} {lay : α → Lay} {f : List T → List T → Option (Bool × List T × T)} {gs : List (S → RE)} {C : Option γ} {vs : γ → List T} {R : β → γ → Option β} {kl : Bool} {ret : β → γ → T} (h : PL L g L1 r M e0 o p n gt e up) (ha : EVs L1 true gs L2 C vs) (hr2 : L2.rt r = some (e0 M))
    (hf : ∀ x c y, R x c = some y → Mu f kl e e x (vs c) y (ret x c)) (hl : ∀ N, (if kl = true then (L2.setR r (e0 N)).kil r n else L2.setR r (e0 N)) = lay N) :
    SN L (exprS (mutE f g (argsG gs))) (o2 o C fun w c => (gt w M).bind fun x => (R x c).bind fun y => some (up w M y)) lay := fun N eN s al => by
  obtain ⟨w, c, ew, ec', e1⟩ := o2_of eN
  obtain ⟨x, ex, e1⟩ := bind_of e1
  obtain ⟨y, ey, e1⟩ := bind_of e1
  cases e1
  obtain ⟨m, s1, h1, h2, h3⟩ := h.ev w ew s al
  obtain ⟨m', s2, g1, g2, g3⟩ := ha c ec' s1 h2
  obtain ⟨xs, ys, d1, d2, d3⟩ := hf x c y ey
  have gr1 : s1.gt r (p w) = some (e x) := (h2.gt h.root).trans ((h.ln w).get M x ex)
  have gr2 : s2.gt r (p w) = some (e x) := (g2.gt hr2).trans ((h.ln w).get M x ex)
  have sv : surv (.p r (p w)) m' = true := by
    have := g3 rfl
    cases m' <;> simp_all [Md.quiet, surv]
  rw [d1] at gr1 gr2
  have up2 : S.upd kl s2 r (p w) (.box true .lst ys) = if kl = true then (s2.setR r (e0 (up w M y))).kill r (p w) else s2.setR r (e0 (up w M y)) := by
    simp only [S.upd, g2.rt hr2]
    rw [← d3, (h.ln w).set M x y ex]
  refine ⟨S.upd kl s2 r (p w) (.box true .lst ys), ?_, ?_⟩
  · simp only [exprS, mutE, h1, gr1, g1, sv, if_true, gr2, tvs_map, d2]
  · rw [up2, ← hl]
    cases kl with
    | false => simp only [Bool.false_eq_true, if_false]; exact g2.setR
    | true => simp only [if_true]; rw [← h.len w]; exact g2.setR.kil
theorem u_app (x : List α) (c : α × Unit) (y : List α) (h : appO x c.1 = some y) : Mu appF false (eL true ea) (eL true ea) x [ea c.1] y (.atm .non) := by
  unfold appO at h
  split at h
  · rename_i q; cases h
    exact ⟨x.map ea, (x ++ [c.1]).map ea, rfl, by rw [f_app (by rw [List.length_map]; exact q), List.map_append]; rfl, rfl⟩
  · cases h
theorem u_ext {o : Bool} (x : List α) (c : List α × Unit) (y : List α) (h : catO x c.1 = some y) : Mu extF false (eL true ea) (eL true ea) x [eL o ea c.1] y (.atm .non) := by
  unfold catO at h
  split at h
  · rename_i q; cases h
    exact ⟨x.map ea, (x ++ c.1).map ea, rfl, by simp only [eL]; rw [f_ext (by simp only [List.length_map]; exact q), List.map_append], rfl⟩
  · cases h
theorem u_ins (x : List α) (c : Int × α × Unit) (y : List α) (h : insO x c.1 c.2.1 = some y) : Mu insF true (eL true ea) (eL true ea) x [aI c.1, ea c.2.1] y (.atm .non) := by
  unfold insO at h
  split at h
  · rename_i q; cases h
    refine ⟨x.map ea, _, rfl, ?_, rfl⟩
    have q' : (x.map ea).length < sizeLine ∧ 0 ≤ c.1 ∧ c.1 < 2 ^ 63 := by rw [List.length_map]; exact q
    simp only [insF]
    rw [if_pos q', ← List.map_take, ← List.map_drop, ← List.map_singleton (f := ea), ← List.map_append, ← List.map_append]
  · cases h
def popRet (e : α → T) (x : List α) : T := match x[x.length - 1]? with
  | some z => e z
  | none => .atm .non
theorem u_pop (x : List α) (c : Unit) (y : List α) (h : ((popO x).map Prod.snd) = some y) : Mu popF true (eL true ea) (eL true ea) x [] y (popRet ea x) := by
  obtain ⟨p, hp, rfl⟩ := map_of h
  obtain ⟨z, hz, e⟩ := bind_of hp
  cases e
  refine ⟨x.map ea, x.dropLast.map ea, rfl, ?_, rfl⟩
  simp only [popF, popRet, List.length_map, List.getElem?_map, hz, Option.map_some, List.map_dropLast]
theorem u_popAt (x : List α) (c : Int × Unit) (y : List α) (h : ((popAtO x c.1).map Prod.snd) = some y) : ∃ ret, Mu popF true (eL true ea) (eL true ea) x [aI c.1] y ret := by
  obtain ⟨p, hp, rfl⟩ := map_of h
  unfold popAtO at hp
  split at hp
  · rename_i q
    obtain ⟨j, hj, hp⟩ := bind_of hp
    obtain ⟨z, hz, e⟩ := bind_of hp
    cases e
    refine ⟨ea z, x.map ea, (x.eraseIdx j).map ea, rfl, ?_, rfl⟩
    have : seqIndex? c.1 x.length = some j := (ixN_seq hj).1
    simp only [popF]
    rw [if_pos q]
    simp only [List.length_map, this, List.getElem?_map, hz, Option.map_some, map_erase]
  · cases hp
theorem u_rem (x : List Int) (c : Int × Unit) (y : List Int) (h : remO x c.1 = some y) : Mu remF true (eL true aI) (eL true aI) x [aI c.1] y (.atm .non) := by
  unfold remO at h
  split at h
  · rename_i q; cases h
    refine ⟨x.map aI, _, rfl, ?_, rfl⟩
    simp only [remF, b_intL]
    rw [if_pos q]
  · cases h
theorem u_rev (x : List α) (c : Unit) (y : List α) (h : some x.reverse = some y) : Mu revF true (eL true ea) (eL true ea) x [] y (.atm .non) := by
  cases h
  exact ⟨x.map ea, x.reverse.map ea, rfl, by simp only [revF, List.map_reverse], rfl⟩
end
end TL
namespace TL
open PySem PySem.Spec L2
section
variable {α β γ δ σ τ ρ ω ι : Type} {L L1 L2 L3 : Lay} {q q1 q2 : Bool} {k k1 k2 : Option Rt} {g ga gb gi : S → RE} {t : S → RT} {a b c d : S → RS}
variable {A : Option α} {B : Option β} {ea ea' : α → T} {eb : β → T} {ec : γ → T} {i : Nat} {r : Rt} {P : Option σ} {lay : σ → Lay} {D : ω → RS → Prop} {W W1 W2 : Option ω}
/-! ## o[i] = v -/
def St (e : β → T) (x : β) (i v : T) (y : β) : Prop := ∃ kd xs kd' ys, e x = .box true kd xs ∧ setF kd xs i v = some (kd', ys) ∧ e y = .box true kd' ys
theorem s_lst {i : Int} {v : α} (x y : List α) (h : setO x i v = some y) : St (eL true ea) x (aI i) (ea v) y := by
  obtain ⟨j, hj, e⟩ := bind_of h
  cases e
  refine ⟨.lst, x.map ea, .lst, (x.set j v).map ea, rfl, ?_, rfl⟩
  simp only [setF, List.length_map, hj, List.map_set]
theorem s_dctK [DecidableEq γ] [KeyE γ] [Fr ea] {i : γ} {v : α} {ti : T} (hk : ti.key = some (KeyE.key i)) (x y : List (γ × α)) (h : ksetO x i v = some y) : St (eD true ea) x ti (ea v) y := by
  unfold ksetO at h
  split at h
  · rename_i hl
    cases h
    have hl' : (x.map fun p => KeyE.key p.1).length < sizeLine := by rw [List.length_map]; exact hl
    by_cases hh : khas x i = true
    · refine ⟨.dct _, _, .dct _, _, rfl, ?_, rfl⟩
      simp only [setF, hk]
      rw [if_pos hl', hasK_has, if_pos hh, if_pos (Fr.fr v)]
      have e1 : kset x i v = x.map fun p => if p.1 = i then (i, v) else p := if_pos hh
      have k1 : (kset x i v).map (fun p => KeyE.key p.1) = x.map fun p => KeyE.key p.1 := by
        rw [e1, List.map_map]
        refine List.map_congr_left fun p _ => ?_
        simp only [Function.comp]
        split
        · rename_i q; rw [q]
        · rfl
      have k2 : (kset x i v).map (fun p => ea p.2) = putL (x.map fun p => KeyE.key p.1) (KeyE.key i) (ea v) (x.map fun p => ea p.2) := by
        rw [e1, List.map_map]
        clear e1 k1 hh hl' hl
        induction x with
        | nil => rfl
        | cons p x ih =>
          simp only [putL, List.map_cons, List.zip_cons_cons] at ih ⊢
          congr 1
          simp only [Function.comp]
          by_cases q : p.1 = i
          · simp [q]
          · have : KeyE.key p.1 ≠ KeyE.key i := fun z => q (KeyE.inj _ _ z)
            simp [q, this]
      rw [k1, k2]
    · refine ⟨.dct _, _, .dct _, _, rfl, ?_, rfl⟩
      simp only [setF, hk]
      rw [if_pos hl', hasK_has, if_neg hh]
      have e1 : kset x i v = x ++ [(i, v)] := if_neg hh
      rw [e1]; simp only [List.map_append, List.map_cons, List.map_nil]
  · cases h
theorem s_dctI [Fr ea] {i : Int} {v : α} (x y : List (Int × α)) (h : ksetO x i v = some y) : St (eD true ea) x (aI i) (ea v) y := s_dctK rfl x y h
theorem s_dctS [Fr ea] {i : Str} {v : α} (x y : List (Str × α)) (h : ksetO x i v = some y) : St (eD true ea) x (aS i) (ea v) y := s_dctK rfl x y h
/-- the new thing first, then the place, then the index -/
theorem N.st {M : δ} {e0 : δ → T} {o : Option ι} {p : ι → List Nat} {n : Nat} {gt : ι → δ → Option β} {e : β → T} {up : ι → δ → β → δ} {lay : δ → Lay} {C : Option γ} {R : β → γ → α → Option β} {Lv : Lay} (hv : EW L q none ga Lv A ea) (h : PL Lv g L1 r M e0 o p n gt e up) (hi : EW L1 true k2 gb L1 C ec)
    (hf : ∀ x c v y, R x c v = some y → St e x (ec c) (ea v) y) (hl : ∀ N, (L1.setR r (e0 N)).kil r n = lay N) :
    SN L (stS (argsG [ga, g, gb])) (o3 A o C fun v w c => (gt w M).bind fun x => (R x c v).bind fun y => some (up w M y)) lay := fun N eN s al => by
  obtain ⟨v, w, c, ev, ew, ec', e1⟩ := o3_of eN
  obtain ⟨x, ex, e1⟩ := bind_of e1
  obtain ⟨y, ey, e1⟩ := bind_of e1
  cases e1
  obtain ⟨u0, m0, s0, f1, f2, f3, f4⟩ := hv v ev s al
  obtain ⟨m, s1, h1, h2, h3⟩ := h.ev w ew s0 f2
  obtain ⟨u, m', s2, g1, g2, g3, g4⟩ := hi c ec' s1 h2
  obtain ⟨kd, xs, kd', ys, d1, d2, d3⟩ := hf x c v y ey
  rw [show u0 = .v (ea v) from f4] at f1
  have gr2 : s2.gt r (p w) = some (e x) := (g2.gt h.root).trans ((h.ln w).get M x ex)
  have sv : surv (.p r (p w)) m' = true := by
    have := g3 rfl
    cases m' <;> simp_all [Md.quiet, surv]
  have sv2 : surv u .pure = true := by cases u <;> rfl
  have ha : argsG [ga, g, gb] s = .ok [.v (ea v), .p r (p w), u] (m0.seq (m.seq m')) s2 := by
    have h0 : argsG [gb] s1 = .ok [u] m' s2 := by simp only [argsG, g1, sv2, if_true, k_seq_pr]
    have hA : argsG [g, gb] s0 = .ok [.p r (p w), u] (m.seq m') s2 := by
      simp only [argsG] at h0 ⊢
      rw [h1]; simp only []; rw [h0]; simp only [sv, if_true]
    simp only [argsG] at hA ⊢
    rw [f1]; simp only []; rw [hA]; rfl
  rw [d1] at gr2
  have up2 : S.upd true s2 r (p w) (.box true kd' ys) = (s2.setR r (e0 (up w M y))).kill r (p w) := by
    simp only [S.upd, g2.rt h.root, if_true]
    rw [← d3, (h.ln w).set M x y ex]
  refine ⟨S.upd true s2 r (p w) (.box true kd' ys), ?_, ?_⟩
  · have gv := g4.view g2
    simp only [stS, ha, gr2, gv, d2]
  · rw [up2, ← hl, ← h.len w]; exact g2.setR.kil
/-! ## What pops -/
theorem pop_run {M : δ} {e0 : δ → T} {o : Option ι} {p : ι → List Nat} {n : Nat} {gt : ι → δ → Option (List β)} {up : ι → δ → List β → δ} (h : PL L g L1 r M e0 o p n gt (eL true eb) up) {w : ι} (ew : o = some w) {x : List β} (ex : gt w M = some x) {gs : List (S → RE)} {C : Option γ} {vs : γ → List T} {c : γ} (ha : EVs L1 true gs L1 C vs) (hc : C = some c) {ys : List β} {z : β} (hf : popF (x.map eb) (vs c) = some (true, ys.map eb, eb z)) {s : S} (al : At L s) :
    ∃ (m : Md) (s' : S), mutE popF g (argsG gs) s = .ok (.v (eb z)) (m.seq (.pop r)) s' ∧ m.quiet = true ∧ At ((L1.setR r (e0 (up w M ys))).kil r n) s' := by
  obtain ⟨m, s1, h1, h2, h3⟩ := h.ev w ew s al
  obtain ⟨m', s2, g1, g2, g3⟩ := ha c hc s1 h2
  have gr1 : s1.gt r (p w) = some (eL true eb x) := (h2.gt h.root).trans ((h.ln w).get M x ex)
  have gr2 : s2.gt r (p w) = some (eL true eb x) := (g2.gt h.root).trans ((h.ln w).get M x ex)
  have sv : surv (.p r (p w)) m' = true := by
    have := g3 rfl
    cases m' <;> simp_all [Md.quiet, surv]
  have up2 : S.upd true s2 r (p w) (eL true eb ys) = (s2.setR r (e0 (up w M ys))).kill r (p w) := by
    simp only [S.upd, g2.rt h.root, if_true]
    rw [(h.ln w).set M x ys ex]
  refine ⟨m.seq m', S.upd true s2 r (p w) (eL true eb ys), ?_, quiet_seq h3 (g3 rfl), ?_⟩
  · simp only [eL] at gr1 gr2
    simp only [mutE, h1, gr1, g1, sv, if_true, gr2, tvs_map, hf, eL, updMd]
  · rw [up2, ← h.len w]; exact g2.setR.kil
/-- a value, and the tree behind -/
def EX (L : Lay) (g : S → RE) (o : Option α) (e : α → T) (lay : α → Lay) : Prop := ∀ a, o = some a → ∀ s, At L s → ∃ m s', g s = .ok (.v (e a)) m s' ∧ At (lay a) s'
theorem X.pop {M : δ} {e0 : δ → T} {o : Option ι} {p : ι → List Nat} {n : Nat} {gt : ι → δ → Option (List β)} {up : ι → δ → List β → δ} {lay : β × δ → Lay} (h : PL L g L1 r M e0 o p n gt (eL true eb) up) (hl : ∀ N, (L1.setR r (e0 N.2)).kil r n = lay N) :
    EX L (mutE popF g (argsG [])) (o.bind fun w => (gt w M).bind fun x => (popO x).bind fun z => some (z.1, up w M z.2)) (fun p => eb p.1) lay := fun v ev s al => by
  obtain ⟨w, ew, ev⟩ := bind_of ev
  obtain ⟨x, ex, ev⟩ := bind_of ev
  obtain ⟨z, ez, ev⟩ := bind_of ev
  cases ev
  have hf : popF (x.map eb) [] = some (true, z.2.map eb, eb z.1) := by
    obtain ⟨y, hy, e⟩ := bind_of ez
    cases e
    simp only [popF, List.length_map, List.getElem?_map, hy, Option.map_some, List.map_dropLast]
  obtain ⟨m, s', h1, _, h2⟩ := pop_run (vs := fun _ : Unit => []) h ew ex V.nil rfl hf al
  exact ⟨_, s', h1, by rw [← hl]; exact h2⟩
theorem X.popAt {M : δ} {e0 : δ → T} {o : Option ι} {p : ι → List Nat} {n : Nat} {gt : ι → δ → Option (List β)} {up : ι → δ → List β → δ} {lay : β × δ → Lay} {C : Option Int} (h : PL L g L1 r M e0 o p n gt (eL true eb) up) (hc : EW L1 true none ga L1 C aI) (hl : ∀ N, (L1.setR r (e0 N.2)).kil r n = lay N) :
    EX L (mutE popF g (argsG [ga])) (o2 o C fun w c => (gt w M).bind fun x => (popAtO x c).bind fun z => some (z.1, up w M z.2)) (fun p => eb p.1) lay := fun v ev s al => by
  obtain ⟨w, c, ew, ec, ev⟩ := o2_of ev
  obtain ⟨x, ex, ev⟩ := bind_of ev
  obtain ⟨z, ez, ev⟩ := bind_of ev
  cases ev
  have hf : popF (x.map eb) [aI c] = some (true, z.2.map eb, eb z.1) := by
    unfold popAtO at ez
    split at ez
    · rename_i q
      obtain ⟨j, hj, e⟩ := bind_of ez
      obtain ⟨y, hy, e⟩ := bind_of e
      cases e
      have : seqIndex? c x.length = some j := (ixN_seq hj).1
      simp only [popF]
      rw [if_pos q]
      simp only [List.length_map, this, List.getElem?_map, hy, Option.map_some, map_erase]
    · cases ez
  obtain ⟨m, s', h1, _, h2⟩ := pop_run (vs := fun p : Int × Unit => [aI p.1]) (c := (c, ())) h ew ex (V.cons hc V.nil) (by rw [ec]; rfl) hf al
  exact ⟨_, s', h1, by rw [← hl]; exact h2⟩
theorem X.of (h : EW L q none g L1 A ea) : EX L g A ea (fun _ => L1) := fun a e s al => by
  obtain ⟨v, m, s', h1, h2, h3, h4⟩ := h a e s al
  rw [show v = .v (ea a) from h4] at h1
  exact ⟨m, s', h1, h2⟩
theorem X.fz {f : β → α} {lay : β → Lay} {e : β → T} (h : EX L g B e lay) (hz : ∀ a, (e a).fz = ea' (f a)) : EX L (fzE g) B (fun b => ea' (f b)) lay := fun a e s al => by
  obtain ⟨m, s', h1, h2⟩ := h a e s al
  exact ⟨m, s', by simp only [fzE, h1, hz], h2⟩
theorem N.asgX {o : Option σ} {e : σ → T} {lay0 : σ → Lay} (i : Nat) (h : EX L g o e lay0) (hi : ∀ v, Nat.blt i (lay0 v).sl.length = true) (hl : ∀ v, (lay0 v).put i (.is (e v)) = lay v) : SN L (asgS i g) o lay := fun v ev s al => by
  obtain ⟨m, s', h1, h2⟩ := h v ev s al
  refine ⟨s'.put i (.t (e v)), ?_, by rw [← hl]; exact h2.put rfl⟩
  simp only [asgS, h1, bindE, h2.lt (hi v), if_true]
theorem N.exprX {o : Option σ} {e : σ → T} (h : EX L g o e lay) : SN L (exprS g) o lay := fun v ev s al => by
  obtain ⟨m, s', h1, h2⟩ := h v ev s al
  exact ⟨s', by simp only [exprS, h1], h2⟩
/-! ## Blocks that end -/
def TB (D : ω → RS → Prop) (L : Lay) (a : S → RS) (p : Option ω) : Prop := ∀ w, p = some w → ∀ s, At L s → D w (a s)
theorem B.seq {Q : σ → Option ω} (h1 : SN L a P lay) (h2 : ∀ v, TB D (lay v) b (Q v)) : TB D L (seqS a b) (P.bind Q) := fun w e s al => by
  obtain ⟨v, ev, e⟩ := bind_of e
  obtain ⟨s1, e1, a1⟩ := h1 v ev s al
  rw [k_seq, e1, k_seqK]
  exact h2 v w e s1 a1
theorem B.assoc (h : TB D L (seqS a (seqS b c)) W) : TB D L (seqS (seqS a b) c) W := fun w e s al => by
  have := h w e s al
  rw [k_seq] at this ⊢
  rw [k_seq]
  cases e1 : a s with
  | nx s1 => rw [e1] at this; rw [k_seqK] at this ⊢; rw [k_seq] at this; exact this
  | _ => rw [e1] at this; exact this
theorem B.skip (h : TB D L b W) : TB D L (seqS nxS b) W := fun w e s al => by rw [k_seq, k_nx, k_seqK]; exact h w e s al
theorem B.sub (h : TB D L1 a W) (w : Sub L L1) : TB D L a W := fun x e s al => h x e s (w s al)
theorem B.iff {C : Option Bool} (ht : ET L q t L1 C) (ha : TB D L1 a W1) (hb : TB D L1 b W2) : TB D L (ifS t a b) (C.bind fun c => if c = true then W1 else W2) := fun w e s al => by
  obtain ⟨c, ec, e⟩ := bind_of e
  obtain ⟨m, s1, e1, a1, _⟩ := ht c ec s al
  rw [k_if, e1, k_ifK]
  cases c with
  | true => simp only [if_true] at e ⊢; exact ha w e s1 a1
  | false => simp only [Bool.false_eq_true, if_false] at e ⊢; exact hb w e s1 a1
/-- what comes behind goes into both ways -/
theorem B.ifs {C : Option Bool} (ht : ET L q t L1 C) (ha : TB D L1 (seqS a c) W1) (hb : TB D L1 (seqS b c) W2) : TB D L (seqS (ifS t a b) c) (C.bind fun c => if c = true then W1 else W2) := fun w e s al => by
  obtain ⟨c', ec, e⟩ := bind_of e
  obtain ⟨m, s1, e1, a1, _⟩ := ht c' ec s al
  rw [k_seq, k_if, e1, k_ifK]
  cases c' with
  | true => simp only [if_true] at e ⊢; have := ha w e s1 a1; rwa [k_seq] at this
  | false => simp only [Bool.false_eq_true, if_false] at e ⊢; have := hb w e s1 a1; rwa [k_seq] at this
/-- .. to where the ways meet -/
theorem B.ret {e : ρ → T} {o : Option ρ} {f : ρ → ω} (h : EW L q none g L1 o e) (hD : ∀ v s, At L1 s → D (f v) (.rt (e v) s)) : TB D L (retS g) (o.map f) := fun w ew s al => by
  obtain ⟨v, ev, rfl⟩ := map_of ew
  obtain ⟨u, m, s', h1, h2, h3, h4⟩ := h v ev s al
  rw [show u = .v (e v) from h4] at h1
  rw [k_ret, h1, k_retK]; exact hD v s' h2
theorem B.retX {e : τ → T} {o : Option τ} {f : τ → ω} {lay : τ → Lay} (h : EX L g o e lay) (hD : ∀ v s, At (lay v) s → D (f v) (.rt (e v) s)) : TB D L (retS g) (o.map f) := fun w ew s al => by
  obtain ⟨v, ev, rfl⟩ := map_of ew
  obtain ⟨m, s', h1, h2⟩ := h v ev s al
  rw [k_ret, h1, k_retK]; exact hD v s' h2
theorem B.retN {w : ω} (hD : ∀ s, At L s → D w (.rt (.atm .non) s)) : TB D L retNS (some w) := fun w' ew s al => by cases ew; exact hD s al
/-- nothing of what stands behind is reached -/
theorem B.cut (h : TB D L a W) (hD : ∀ w rs, D w rs → ∀ s, rs ≠ .nx s) : TB D L (seqS a c) W := fun w e s al => by
  have := h w e s al
  rw [k_seq]
  cases e1 : a s with
  | nx s1 => exact absurd e1 (hD w _ this s1)
  | _ => rw [e1] at this; exact this
theorem B.last (h : SN L a P lay) {f : σ → ω} (hD : ∀ v s, At (lay v) s → D (f v) (.nx s)) : TB D L a (P.map f) := fun w ew s al => by
  obtain ⟨v, ev, rfl⟩ := map_of ew
  obtain ⟨s1, e1, a1⟩ := h v ev s al
  rw [e1]; exact hD v s1 a1
theorem B.fin {w : ω} (hD : ∀ s, At L s → D w (.nx s)) : TB D L nxS (some w) := fun w' ew s al => by cases ew; exact hD s al
theorem B.bk {w : ω} (hD : ∀ s, At L s → D w (.bk s)) : TB D L bkS (some w) := fun w' ew s al => by cases ew; exact hD s al
theorem B.ct {w : ω} (hD : ∀ s, At L s → D w (.ct s)) : TB D L ctS (some w) := fun w' ew s al => by cases ew; exact hD s al
/-! a turn of a loop -/
def Dl (lay : σ → Lay) (D0 : ρ → RS → Prop) : Lp σ ρ → RS → Prop
  | .nx v, rs => ∃ s, (rs = .nx s ∨ rs = .ct s) ∧ At (lay v) s
  | .bk v, rs => ∃ s, rs = .bk s ∧ At (lay v) s
  | .rt r, rs => D0 r rs
/-- what leaves -/
def Out1 (D0 : ρ → RS → Prop) : Prop := ∀ r rs, D0 r rs → (∃ t s, rs = .rt t s) ∨ ∃ C fs s, rs = .ex C fs s
theorem B.forX {gi : S → RI} {X : Option (List α)} {bt : T → S → Option S} {f : σ → α → Option (Lp σ ρ)} {st0 : σ} {Lb : σ → α → Lay} {D0 : ρ → RS → Prop} {Q : σ → Option ω} {j : ρ → ω} (hi : EI L q gi L1 X ea) (w0 : Sub L1 (lay st0)) (hb : ∀ st, BI (lay st) bt ea (Lb st)) (hf : ∀ st x, TB (Dl lay D0) (Lb st x) a (f st x))
    (hQ : ∀ st, TB D (lay st) b (Q st)) (ho : Out1 D0) (hj : ∀ r rs, D0 r rs → D (j r) rs) : TB D L (seqS (forS gi bt a) b) (X.bind fun xs => (forC f xs st0).bind (Ot.go Q fun r => some (j r))) := fun w e s al => by
  obtain ⟨xs, ex, e⟩ := bind_of e
  obtain ⟨m, s1, e1, a1, _⟩ := hi xs ex s al
  have : ∀ (xs : List α) (st : σ) (s : S) (o : Ot σ ρ), At (lay st) s → forC f xs st = some o → match o with
      | .nx st' => ∃ s', forV bt a (xs.map ea) s = .nx s' ∧ At (lay st') s'
      | .rt r => D0 r (forV bt a (xs.map ea) s) := by
    intro xs
    induction xs with
    | nil => intro st s o al e; cases e; exact ⟨s, rfl, al⟩
    | cons x xs ih =>
      intro st s o al e
      simp only [forC] at e
      obtain ⟨l, el, e⟩ := bind_of e
      obtain ⟨s2, g1, g2⟩ := hb st x s al
      have h2 := hf st x l el s2 g2
      rw [List.map_cons, k_forV1, g1, k_turnO]
      cases l with
      | nx st' =>
        obtain ⟨s3, h3, a3⟩ := h2
        have := ih st' s3 o a3 e
        rcases h3 with h3 | h3
        · rw [h3, k_tK_n]; exact this
        · rw [h3, k_tK_c]; exact this
      | bk st' =>
        obtain ⟨s3, h3, a3⟩ := h2
        simp only [Lp.go_b, Option.some.injEq] at e; subst e
        exact ⟨s3, by rw [h3, k_tK_b], a3⟩
      | rt r =>
        simp only [Lp.go_r, Option.some.injEq] at e; subst e
        simp only [Dl] at h2 ⊢
        rcases ho r _ h2 with ⟨u, s3, h3⟩ | ⟨C, fs, s3, h3⟩
        · rw [h3] at h2 ⊢; exact h2
        · rw [h3] at h2 ⊢; exact h2
  obtain ⟨o, eo, e⟩ := bind_of e
  have h2 := this xs st0 s1 o (w0 _ a1) eo
  rw [k_seq, k_for, e1, k_forK]
  cases o with
  | nx st' =>
    obtain ⟨s', e2, a2⟩ := h2
    rw [e2, k_seqK]
    exact hQ st' w e s' a2
  | rt r =>
    simp only [Ot.go_r, Option.some.injEq] at e; subst e
    simp only at h2
    rcases ho r _ h2 with ⟨u, s3, h3⟩ | ⟨C, fs, s3, h3⟩
    · rw [h3] at h2 ⊢; exact hj r _ h2
    · rw [h3] at h2 ⊢; exact hj r _ h2
theorem B.whlX {c : σ → Option Bool} {f : σ → Option (Lp σ ρ)} {st0 : σ} {Lt : σ → Lay} {D0 : ρ → RS → Prop} {Q : σ → Option ω} {j : ρ → ω} (w0 : Sub L (lay st0)) (ht : ∀ st, ET (lay st) q t (Lt st) (c st)) (wx : ∀ st, Sub (Lt st) (lay st)) (hf : ∀ st, TB (Dl lay D0) (Lt st) a (f st))
    (hQ : ∀ st, TB D (lay st) b (Q st)) (ho : Out1 D0) (hj : ∀ r rs, D0 r rs → D (j r) rs) : TB D L (seqS (whileS t a) b) ((whC c f st0).bind (Ot.go Q fun r => some (j r))) := fun w e s al => by
  obtain ⟨o, eo, e⟩ := bind_of e
  obtain ⟨n, en⟩ := whC_ex eo
  have h2 := whileS_run (D := D0) ht wx (fun st w ew s al => by
    have := hf st w ew s al
    cases w <;> exact this) ho n st0 s o (w0 _ al) en
  rw [k_seq]
  cases o with
  | nx st' =>
    obtain ⟨s', e2, a2⟩ := h2
    rw [e2, k_seqK]
    exact hQ st' w e s' a2
  | rt r =>
    simp only [Ot.go_r, Option.some.injEq] at e; subst e
    simp only at h2
    rcases ho r _ h2 with ⟨u, s3, h3⟩ | ⟨C, fs, s3, h3⟩
    · rw [h3] at h2 ⊢; exact hj r _ h2
    · rw [h3] at h2 ⊢; exact hj r _ h2
/-! ## Defs -/
def Ly.of : Sl T → Ly
  | .no => .no
  | .t x => .is x
  | .al r p => .al r p
def Lay.of (s : S) : Lay := ⟨s.sl.map Ly.of, s.hd⟩
theorem at_of (s : S) : At (Lay.of s) s := by
  refine ⟨?_, rfl⟩
  show oks (s.sl.map Ly.of) s.sl
  induction s.sl with
  | nil => rfl
  | cons x xs ih => exact ⟨x, xs, rfl, by cases x <;> rfl, ih⟩
/-- what a def hands back; nothing lent -/
def Dr (e : ρ → T) (r : ρ) (rs : RS) : Prop := ∃ s, rs = .rt (e r) s ∧ s.hd = []
/-- .. it may end without a word -/
def DrN (e : ρ → T) (r : ρ) (rs : RS) : Prop := ∃ s, (rs = .rt (e r) s ∨ (rs = .nx s ∧ e r = .atm .non)) ∧ s.hd = []
theorem Dr.out {e : ρ → T} : Out1 (Dr e) := fun r rs h => by obtain ⟨s, rfl, _⟩ := h; exact .inl ⟨_, s, rfl⟩
theorem Dr.go {e : ρ → T} {sl : List Ly} : ∀ (v : ρ) (s : S), At ⟨sl, []⟩ s → Dr e (id v) (.rt (e v) s) := fun v s al => ⟨s, rfl, al.hd⟩
theorem Dr.rt {e : ρ → T} {sl : List Ly} : ∀ (v : ρ) (s : S), At ⟨sl, []⟩ s → Dl lay (Dr e) (.rt v) (.rt (e v) s) := fun v s al => ⟨s, rfl, al.hd⟩
theorem Dr.cut {e : ρ → T} : ∀ w rs, Dr e w rs → ∀ s, rs ≠ .nx s := fun w rs h s => by obtain ⟨s', rfl, _⟩ := h; intro h; cases h
theorem def_of {lm : List Bool} {n : Nat} {args : List T} {p : Option ρ} {e : ρ → T} {L : Lay} (h : args.length = lm.length ∧ lm.length ≤ n) (hL : Lay.of (startT lm n args) = L) (hb : TB (Dr e) L a p) (r : ρ) (hr : p = some r) : runF lm n a args = .ok (e r) [] := by
  rw [runF_k h.1 h.2]
  subst hL
  obtain ⟨s, e1, e2⟩ := hb r hr _ (at_of _)
  rw [e1, k_runK_r, e2]
theorem def_ofN {lm : List Bool} {n : Nat} {args : List T} {p : Option ρ} {e : ρ → T} {L : Lay} (h : args.length = lm.length ∧ lm.length ≤ n) (hL : Lay.of (startT lm n args) = L) (hb : TB (DrN e) L a p) (r : ρ) (hr : p = some r) : runF lm n a args = .ok (e r) [] := by
  rw [runF_k h.1 h.2]
  subst hL
  obtain ⟨s, e1, e2⟩ := hb r hr _ (at_of _)
  rcases e1 with e1 | ⟨e1, e3⟩
  · rw [e1, k_runK_r, e2]
  · rw [e1, k_runK_n, e2, e3]
end
end TL
namespace TL
open PySem PySem.Spec L2
section
variable {α β γ δ ε σ τ ρ ω ι κ : Type} {L L1 L2 L3 : Lay} {q q1 q2 : Bool} {k k1 k2 : Option Rt} {g ga gb gi : S → RE} {t : S → RT} {a b c d : S → RS}
variable {A : Option α} {B : Option β} {ea ea' : α → T} {eb : β → T} {ec : γ → T} {i : Nat} {r : Rt} {P : Option σ} {D : ω → RS → Prop} {W W1 W2 : Option ω}
variable {M : δ} {e0 : δ → T} {o : Option ι} {p : ι → List Nat} {n : Nat} {gt : ι → δ → Option β} {up : ι → δ → β → δ}
/-! ## Places, told plainly -/
theorem Ln.one {e : α → T} (j : Nat) : Ln (eL true e) [j] (fun M => M[j]?) e (fun M y => M.set j y) := by
  have h := Ln.lst (e := e) j (Ln.nil (e := e))
  refine ⟨fun M x hx => h.get M x (by rw [hx]; rfl), fun M x y hx => ?_⟩
  rw [h.set M x y (by rw [hx]; rfl), md_const]
theorem Ln.two {e : α → T} (i j : Nat) : Ln (eL true (eL true e)) [i, j] (fun M => M[i]?.bind fun x => x[j]?) e (fun M y => M.modify i fun x => x.set j y) := by
  have h := Ln.lst (e := eL true e) i (Ln.one (e := e) j)
  exact ⟨fun M x hx => h.get M x hx, fun M x y hx => h.set M x y hx⟩
theorem PL.cv {e : β → T} {o' : Option κ} {p' : κ → List Nat} {gt' : κ → δ → Option β} {up' : κ → δ → β → δ} (h : PL L g L1 r M e0 o p n gt e up) (f : κ → ι) (ho : ∀ w, o' = some w → o = some (f w)) (hp : ∀ w, p (f w) = p' w) (hg : ∀ w N, gt (f w) N = gt' w N) (hu : ∀ w N x y, gt' w N = some x → up (f w) N y = up' w N y) : PL L g L1 r M e0 o' p' n gt' e up' :=
  ⟨fun w ew s al => by obtain ⟨m, s', h1, h2⟩ := h.ev (f w) (ho w ew) s al; exact ⟨m, s', by rw [← hp]; exact h1, h2⟩, h.root, fun w => ⟨fun N x hx => by rw [← hp]; exact (h.ln (f w)).get N x (by rw [hg]; exact hx), fun N x y hx => by rw [← hp, ← hu w N x y hx]; exact (h.ln (f w)).set N x y (by rw [hg]; exact hx)⟩, fun w => by rw [← hp]; exact h.len _, fun w ew => by
    obtain ⟨x, hx⟩ := h.ex (f w) (ho w ew)
    exact ⟨x, by rw [← hg]; exact hx⟩⟩
theorem P.ix1 {M : List γ} {B : Option Int} {lo : Option Unit} [Ow ec] (h : PL L ga L1 r M (eL true ec) lo (fun _ : Unit => []) 0 (fun _ => some) (eL true ec) (fun _ _ y => y)) (hlo : lo = some ()) (hb : EW L1 true k2 gb L1 B aI) :
    PL L (idxE (argsG [ga, gb])) L1 r M (eL true ec) (B.bind fun b => ixN M.length b) (fun j => [j]) 1 (fun j M => M[j]?) ec (fun j M y => M.set j y) := by
  refine PL.cv (P.ix h hb) (fun j => ((), j)) (fun j ej => ?_) (fun _ => rfl) (fun _ _ => rfl) (fun j N x y hx => ?_)
  · obtain ⟨b, eb, ej⟩ := bind_of ej
    have hj := (ixN_seq ej).2.1
    rw [hlo, eb]
    simp [ej, hj]
  · simp only [md_const]
theorem P.ix2 {M : List (List γ)} {B C : Option Int} {lo : Option Unit} [Ow ec] (h : PL L ga L1 r M (eL true (eL true ec)) lo (fun _ : Unit => []) 0 (fun _ => some) (eL true (eL true ec)) (fun _ _ y => y)) (hlo : lo = some ()) (hb : EW L1 true k1 gb L1 B aI) (hc : EW L1 true k2 gi L1 C aI) :
    PL L (idxE (argsG [idxE (argsG [ga, gb]), gi])) L1 r M (eL true (eL true ec)) (o2 B C fun b c => (ixN M.length b).bind fun j => M[j]?.bind fun x => (ixN x.length c).bind fun k => some (j, k)) (fun w => [w.1, w.2]) 2 (fun w M => M[w.1]?.bind fun x => x[w.2]?) ec (fun w M y => M.modify w.1 fun x => x.set w.2 y) := by
  refine PL.cv (P.ix (P.ix h hb) hc) (fun w : Nat × Nat => (((), w.1), w.2)) (fun w ew => ?_) (fun _ => rfl) (fun _ _ => rfl) (fun w N x y hx => ?_)
  · obtain ⟨b, c, eb, ec', ew⟩ := o2_of ew
    obtain ⟨j, ej, ew⟩ := bind_of ew
    obtain ⟨z, ez, ew⟩ := bind_of ew
    obtain ⟨k, ek, ew⟩ := bind_of ew
    cases ew
    have hj := (ixN_seq ej).2.1
    have hk := (ixN_seq ek).2.1
    rw [hlo, eb, ec']
    simp only [o2, Option.bind_some, ej, ez, ek, List.getElem?_eq_getElem hj, List.getElem?_eq_getElem hk]
  · obtain ⟨z, ez, hx⟩ := bind_of hx
    simp only [Option.bind_some, ez]
    apply List.ext_getElem?
    intro m
    simp only [List.getElem?_modify]
    by_cases hm : w.1 = m
    · subst hm; simp [ez, md_const]
    · simp [hm]
/-! ## A list's methods -/
/-- R: what comes of it; the list itself stands under a name -/
theorem N.m0R {R : δ → Option δ} {f : List T → List T → Option (Bool × List T × T)} {kl : Bool} {ret : δ → Unit → T} {lo : Option Unit} {lay : δ → Lay} (h : PL L g L1 r M e0 lo (fun _ : Unit => []) 0 (fun _ => some) e0 (fun _ _ y => y)) (hlo : lo = some ()) (hf : ∀ x (c : Unit) y, R x = some y → Mu f kl e0 e0 x [] y (ret x c)) (hl : ∀ N, (if kl = true then (L1.setR r (e0 N)).kil r 0 else L1.setR r (e0 N)) = lay N) :
    SN L (exprS (mutE f g (argsG []))) (R M) lay := fun v ev s al => by
  refine N.mut (vs := fun _ : Unit => []) (R := fun x _ => R x) h V.nil h.root (fun x c y hy => hf x c y hy) hl v ?_ s al
  rw [hlo]; simp [o2, ev]
theorem N.m1R {R : δ → α → Option δ} {f : List T → List T → Option (Bool × List T × T)} {kl : Bool} {ret : δ → α × Unit → T} {lo : Option Unit} {lay : δ → Lay} (h : PL L g L1 r M e0 lo (fun _ : Unit => []) 0 (fun _ => some) e0 (fun _ _ y => y)) (hlo : lo = some ()) (ha : EW L1 true none ga L2 A ea) (hr2 : L2.rt r = some (e0 M)) (hf : ∀ x (c : α × Unit) y, R x c.1 = some y → Mu f kl e0 e0 x [ea c.1] y (ret x c)) (hl : ∀ N, (if kl = true then (L2.setR r (e0 N)).kil r 0 else L2.setR r (e0 N)) = lay N) :
    SN L (exprS (mutE f g (argsG [ga]))) (A.bind fun a => R M a) lay := fun v ev s al => by
  obtain ⟨a, ea', ev⟩ := bind_of ev
  refine N.mut (vs := fun p : α × Unit => [ea p.1]) (R := fun x p => R x p.1) h (V.cons ha V.nil) hr2 (fun x c y hy => hf x c y hy) hl v ?_ s al
  rw [hlo, ea']; simp [o2, pr, ev]
theorem N.m2R {R : δ → α → β → Option δ} {f : List T → List T → Option (Bool × List T × T)} {kl : Bool} {ret : δ → α × β × Unit → T} {lo : Option Unit} {lay : δ → Lay} (h : PL L g L1 r M e0 lo (fun _ : Unit => []) 0 (fun _ => some) e0 (fun _ _ y => y)) (hlo : lo = some ()) (ha : EW L1 true none ga L2 A ea) (hb : EW L2 true none gb L3 B eb) (hr2 : L3.rt r = some (e0 M)) (hf : ∀ x (c : α × β × Unit) y, R x c.1 c.2.1 = some y → Mu f kl e0 e0 x [ea c.1, eb c.2.1] y (ret x c)) (hl : ∀ N, (if kl = true then (L3.setR r (e0 N)).kil r 0 else L3.setR r (e0 N)) = lay N) :
    SN L (exprS (mutE f g (argsG [ga, gb]))) (o2 A B fun a b => R M a b) lay := fun v ev s al => by
  obtain ⟨a, b, ea', eb', ev⟩ := o2_of ev
  refine N.mut (vs := fun p : α × β × Unit => [ea p.1, eb p.2.1]) (R := fun x p => R x p.1 p.2.1) h (V.cons ha (V.cons hb V.nil)) hr2 (fun x c y hy => hf x c y hy) hl v ?_ s al
  rw [hlo, ea', eb']; simp [o2, pr, ev]
/-- .. at a place -/
theorem N.m0 {e : β → T} {R : β → Option β} {f : List T → List T → Option (Bool × List T × T)} {kl : Bool} {ret : β → Unit → T} {lay : δ → Lay} (h : PL L g L1 r M e0 o p n gt e up) (hf : ∀ x (c : Unit) y, R x = some y → Mu f kl e e x [] y (ret x c)) (hl : ∀ N, (if kl = true then (L1.setR r (e0 N)).kil r n else L1.setR r (e0 N)) = lay N) :
    SN L (exprS (mutE f g (argsG []))) (o.bind fun w => (gt w M).bind fun x => (R x).map fun y => up w M y) lay := fun v ev s al => by
  obtain ⟨w, ew, ev⟩ := bind_of ev
  obtain ⟨x, ex, ev⟩ := bind_of ev
  obtain ⟨y, ey, rfl⟩ := map_of ev
  refine N.mut (vs := fun _ : Unit => []) (R := fun x _ => R x) h V.nil h.root (fun x c y hy => hf x c y hy) hl _ ?_ s al
  simp [o2, ew, ex, ey]
theorem N.m1 {e : β → T} {R : β → α → Option β} {f : List T → List T → Option (Bool × List T × T)} {kl : Bool} {ret : β → α × Unit → T} {lay : δ → Lay} (h : PL L g L1 r M e0 o p n gt e up) (ha : EW L1 true none ga L2 A ea) (hr2 : L2.rt r = some (e0 M)) (hf : ∀ x (c : α × Unit) y, R x c.1 = some y → Mu f kl e e x [ea c.1] y (ret x c)) (hl : ∀ N, (if kl = true then (L2.setR r (e0 N)).kil r n else L2.setR r (e0 N)) = lay N) :
    SN L (exprS (mutE f g (argsG [ga]))) (o2 o A fun w a => (gt w M).bind fun x => (R x a).map fun y => up w M y) lay := fun v ev s al => by
  obtain ⟨w, a, ew, ea', ev⟩ := o2_of ev
  obtain ⟨x, ex, ev⟩ := bind_of ev
  obtain ⟨y, ey, rfl⟩ := map_of ev
  refine N.mut (vs := fun p : α × Unit => [ea p.1]) (R := fun x p => R x p.1) h (V.cons ha V.nil) hr2 (fun x c y hy => hf x c y hy) hl _ ?_ s al
  simp [o2, pr, ew, ea', ex, ey]
theorem N.m2 {e : β → T} {B : Option γ} {eb : γ → T} {R : β → α → γ → Option β} {f : List T → List T → Option (Bool × List T × T)} {kl : Bool} {ret : β → α × γ × Unit → T} {lay : δ → Lay} (h : PL L g L1 r M e0 o p n gt e up) (ha : EW L1 true none ga L2 A ea) (hb : EW L2 true none gb L3 B eb) (hr2 : L3.rt r = some (e0 M)) (hf : ∀ x (c : α × γ × Unit) y, R x c.1 c.2.1 = some y → Mu f kl e e x [ea c.1, eb c.2.1] y (ret x c)) (hl : ∀ N, (if kl = true then (L3.setR r (e0 N)).kil r n else L3.setR r (e0 N)) = lay N) :
    SN L (exprS (mutE f g (argsG [ga, gb]))) (o3 o A B fun w a b => (gt w M).bind fun x => (R x a b).map fun y => up w M y) lay := fun v ev s al => by
  obtain ⟨w, a, b, ew, ea', eb', ev⟩ := o3_of ev
  obtain ⟨x, ex, ev⟩ := bind_of ev
  obtain ⟨y, ey, rfl⟩ := map_of ev
  refine N.mut (vs := fun p : α × γ × Unit => [ea p.1, eb p.2.1]) (R := fun x p => R x p.1 p.2.1) h (V.cons ha (V.cons hb V.nil)) hr2 (fun x c y hy => hf x c y hy) hl _ ?_ s al
  simp [o2, pr, ew, ea', eb', ex, ey]
/-- o[i] = v, o under a name -/
theorem N.stR {lay : δ → Lay} {C : Option γ} {R : δ → γ → α → Option δ} {Lv : Lay} {lo : Option Unit} (hv : EW L q none ga Lv A ea) (h : PL Lv g L1 r M e0 lo (fun _ : Unit => []) 0 (fun _ => some) e0 (fun _ _ y => y)) (hlo : lo = some ()) (hi : EW L1 true k2 gb L1 C ec)
    (hf : ∀ x c v y, R x c v = some y → St e0 x (ec c) (ea v) y) (hl : ∀ N, (L1.setR r (e0 N)).kil r 0 = lay N) :
    SN L (stS (argsG [ga, g, gb])) (o2 A C fun v c => R M c v) lay := fun v ev s al => by
  obtain ⟨x, c, ex, ec', ev⟩ := o2_of ev
  refine N.st hv h hi hf hl v ?_ s al
  rw [hlo, ex, ec']; simp [o3, ev]
/-! ## A list's method that is handed what was popped -/
def EP (L : Lay) (g : S → RE) (r2 : Rt) (o : Option α) (e : α → T) (lay : α → Lay) : Prop := ∀ a, o = some a → ∀ s, At L s → ∃ m s', g s = .ok (.v (e a)) m s' ∧ At (lay a) s' ∧ ∀ r q, r ≠ r2 → surv (.p r q) m = true
theorem surv_pop {m : Md} (h : m.quiet = true) {r r2 : Rt} {q : List Nat} (hr : r ≠ r2) : surv (.p r q) (m.seq (.pop r2)) = true := by
  cases m <;> simp_all [Md.quiet, Md.seq, surv]
theorem Y.pop {gt : ι → δ → Option (List β)} {up : ι → δ → List β → δ} {lay : β × δ → Lay} (h : PL L g L1 r M e0 o p n gt (eL true eb) up) (hl : ∀ N : β × δ, (L1.setR r (e0 N.2)).kil r n = lay N) :
    EP L (mutE popF g (argsG [])) r (o.bind fun w => (gt w M).bind fun x => (popO x).bind fun z => some (z.1, up w M z.2)) (fun p => eb p.1) lay := fun v ev s al => by
  obtain ⟨w, ew, ev⟩ := bind_of ev
  obtain ⟨x, ex, ev⟩ := bind_of ev
  obtain ⟨z, ez, ev⟩ := bind_of ev
  cases ev
  have hf : popF (x.map eb) [] = some (true, z.2.map eb, eb z.1) := by
    obtain ⟨y, hy, e⟩ := bind_of ez
    cases e
    simp only [popF, List.length_map, List.getElem?_map, hy, Option.map_some, List.map_dropLast]
  obtain ⟨m, s', h1, h3, h2⟩ := pop_run (vs := fun _ : Unit => []) h ew ex V.nil rfl hf al
  exact ⟨_, s', h1, by rw [← hl]; exact h2, fun r q hr => surv_pop h3 hr⟩
theorem Y.popAt {gt : ι → δ → Option (List β)} {up : ι → δ → List β → δ} {lay : β × δ → Lay} {C : Option Int} (h : PL L g L1 r M e0 o p n gt (eL true eb) up) (hc : EW L1 true none ga L1 C aI) (hl : ∀ N : β × δ, (L1.setR r (e0 N.2)).kil r n = lay N) :
    EP L (mutE popF g (argsG [ga])) r (o2 o C fun w c => (gt w M).bind fun x => (popAtO x c).bind fun z => some (z.1, up w M z.2)) (fun p => eb p.1) lay := fun v ev s al => by
  obtain ⟨w, c, ew, ec, ev⟩ := o2_of ev
  obtain ⟨x, ex, ev⟩ := bind_of ev
  obtain ⟨z, ez, ev⟩ := bind_of ev
  cases ev
  have hf : popF (x.map eb) [aI c] = some (true, z.2.map eb, eb z.1) := by
    unfold popAtO at ez
    split at ez
    · rename_i q
      obtain ⟨j, hj, e⟩ := bind_of ez
      obtain ⟨y, hy, e⟩ := bind_of e
      cases e
      have : seqIndex? c x.length = some j := (ixN_seq hj).1
      simp only [popF]
      rw [if_pos q]
      simp only [List.length_map, this, List.getElem?_map, hy, Option.map_some, map_erase]
    · cases ez
  obtain ⟨m, s', h1, h3, h2⟩ := pop_run (vs := fun p : Int × Unit => [aI p.1]) (c := (c, ())) h ew ex (V.cons hc V.nil) (by rw [ec]; rfl) hf al
  exact ⟨_, s', h1, by rw [← hl]; exact h2, fun r q hr => surv_pop h3 hr⟩
/-- the popped one's list under a name -/
theorem Y.popR {N : List β} {lo : Option Unit} {lay : β × List β → Lay} (h : PL L g L1 r N (eL true eb) lo (fun _ : Unit => []) 0 (fun _ => some) (eL true eb) (fun _ _ y => y)) (hlo : lo = some ()) (hl : ∀ N : β × List β, (L1.setR r (eL true eb N.2)).kil r 0 = lay N) :
    EP L (mutE popF g (argsG [])) r (popO N) (fun p => eb p.1) lay := fun v ev s al => Y.pop h hl v (by rw [hlo]; simp [ev]) s al
theorem Y.popAtR {N : List β} {lo : Option Unit} {lay : β × List β → Lay} {C : Option Int} (h : PL L g L1 r N (eL true eb) lo (fun _ : Unit => []) 0 (fun _ => some) (eL true eb) (fun _ _ y => y)) (hlo : lo = some ()) (hc : EW L1 true none ga L1 C aI) (hl : ∀ N : β × List β, (L1.setR r (eL true eb N.2)).kil r 0 = lay N) :
    EP L (mutE popF g (argsG [ga])) r (C.bind fun c => popAtO N c) (fun p => eb p.1) lay := fun v ev s al => by
  obtain ⟨c, ec', ev⟩ := bind_of ev
  exact Y.popAt h hc hl v (by rw [hlo, ec']; simp [ev]) s al
theorem X.ofY {lay : α → Lay} {r2 : Rt} (h : EP L g r2 A ea lay) : EX L g A ea lay := fun a e s al => by
  obtain ⟨m, s', h1, h2, _⟩ := h a e s al
  exact ⟨m, s', h1, h2⟩
theorem N.m1Y {ν : Type} {e : β → T} {Cv : Option ν} {vf : ν → T} {layx : ν → Lay} {R : β → ν → Option β} {f : List T → List T → Option (Bool × List T × T)} {kl : Bool} {ret : β → ν → T} {lay : δ × ν → Lay} {r2 : Rt} (h : PL L g L1 r M e0 o p n gt e up) (hx : EP L1 ga r2 Cv vf layx) (hne : r ≠ r2) (hr2 : ∀ c, (layx c).rt r = some (e0 M)) (hf : ∀ x c y, R x c = some y → Mu f kl e e x [vf c] y (ret x c)) (hl : ∀ N, (if kl = true then ((layx N.2).setR r (e0 N.1)).kil r n else (layx N.2).setR r (e0 N.1)) = lay N) :
    SN L (exprS (mutE f g (argsG [ga]))) (o2 o Cv fun w c => (gt w M).bind fun x => (R x c).map fun y => (up w M y, c)) lay := fun v ev s al => by
  obtain ⟨w, c, ew, ec', ev⟩ := o2_of ev
  obtain ⟨x, ex, ev⟩ := bind_of ev
  obtain ⟨y, ey, rfl⟩ := map_of ev
  obtain ⟨m, s1, h1, h2, h3⟩ := h.ev w ew s al
  obtain ⟨m', s2, g1, g2, g3⟩ := hx c ec' s1 h2
  obtain ⟨xs, ys, d1, d2, d3⟩ := hf x c y ey
  have gr1 : s1.gt r (p w) = some (e x) := (h2.gt h.root).trans ((h.ln w).get M x ex)
  have gr2 : s2.gt r (p w) = some (e x) := (g2.gt (hr2 c)).trans ((h.ln w).get M x ex)
  have sv := g3 r (p w) hne
  rw [d1] at gr1 gr2
  have up2 : S.upd kl s2 r (p w) (.box true .lst ys) = if kl = true then (s2.setR r (e0 (up w M y))).kill r (p w) else s2.setR r (e0 (up w M y)) := by
    simp only [S.upd, g2.rt (hr2 c)]
    rw [← d3, (h.ln w).set M x y ex]
  have ha : argsG [ga] s1 = .ok [.v (vf c)] m' s2 := by simp only [argsG, g1, surv, if_true, k_seq_pr]
  refine ⟨S.upd kl s2 r (p w) (.box true .lst ys), ?_, ?_⟩
  · simp only [exprS, mutE, h1, gr1, ha, sv, if_true, gr2, k_tvs, k_tvs0, k_vcons, d2]
  · rw [up2, ← hl]
    cases kl with
    | false => simp only [Bool.false_eq_true, if_false]; exact g2.setR
    | true => simp only [if_true]; rw [← h.len w]; exact g2.setR.kil
/-- a subscript by what was popped -/
theorem X.ix {ν : Type} {Cv : Option ν} {vf : ν → T} {layx : ν → Lay} {R : α → ν → Option γ} (ha : EW L q none ga L1 A ea) (hx : EX L1 gb Cv vf layx) (hf : ∀ x y c, R x y = some c → ∃ o kd xs j, ea x = .box o kd xs ∧ posT kd xs.length (vf y) = some j ∧ xs[j]? = some (ec c)) : EX L (idxE (argsG [ga, gb])) (o2 A Cv fun a c => (R a c).map fun y => (y, c)) (fun p => ec p.1) (fun p => layx p.2) := fun v ev s al => by
  obtain ⟨x, y, ex, ey, ev⟩ := o2_of ev
  obtain ⟨c, e, rfl⟩ := map_of ev
  obtain ⟨u, m, s1, h1, h2, h3, h4⟩ := ha x ex s al
  obtain ⟨m', s2, g1, g2⟩ := hx y ey s1 h2
  obtain ⟨o, kd, xs, j, e1, e2, e3⟩ := hf x y c e
  rw [show u = .v (ea x) from h4] at h1
  refine ⟨m.seq m', s2, ?_, g2⟩
  have hg : argsG [ga, gb] s = .ok [.v (ea x), .v (vf y)] (m.seq m') s2 := by simp only [argsG, h1, g1, surv, if_true, k_seq_pr]
  rw [k_ix, hg, k_ixK, k_view_v, k_view_v, e1, k_ixV, e2, k_ixJ, e3, k_ixO]
  simp only [ixC]
  split <;> rfl
theorem I.listX {ν : Type} {Cv : Option (List α × ν)} {o : Bool} {layx : List α × ν → Lay} [Fr ea] {gi : S → RE} (h : EX L gi Cv (fun p => eL o ea p.1) layx) : ∀ v, Cv = some v → ∀ s, At L s → ∃ m s', iL gi s = .ok (v.1.map ea) m s' ∧ At (layx v) s' := fun v ev s al => by
  obtain ⟨m, s', h1, h2⟩ := h v ev s al
  refine ⟨m, s', ?_, h2⟩
  simp only [iL, h1, eL, k_it_l (allFL_mapE Fr.fr _)]
end
end TL
namespace TL
open PySem PySem.Spec L2
section
variable {α β γ δ ε σ τ ρ ω ι κ : Type} {L L1 L2 L3 : Lay} {q q1 q2 : Bool} {k k1 k2 : Option Rt} {g ga gb gi : S → RE} {t : S → RT} {a b c d : S → RS}
variable {A : Option α} {B : Option β} {ea ea' : α → T} {eb : β → T} {ec : γ → T} {i : Nat} {r : Rt} {P : Option σ} {lay : σ → Lay} {D : ω → RS → Prop} {W W1 W2 : Option ω} {o : Bool}
theorem E.nil : EW L true none (dspE .lst (argsG [])) L (some ([] : List α)) (eL true ea) := fun a e s al => by
  cases e
  exact ⟨.v (eL true ea []), .pure, s, rfl, al, fun _ => rfl, rfl⟩
theorem E.lst1 (h : EW L q none g L1 A ea) : EW L q none (dspE .lst (argsG [g])) L1 (A.map fun x => [x]) (eL true ea) := fun b e s al => by
  obtain ⟨x, ex, rfl⟩ := map_of e
  obtain ⟨v, m, s', h1, h2, h3, h4⟩ := args1 h ex al
  rw [show v = .v (ea x) from h4] at h1
  refine ⟨.v (eL true ea [x]), m, s', ?_, h2, h3, rfl⟩
  simp only [dspE, h1, k_tvs, k_tvs0, k_vcons, List.length_singleton, eL, List.map_cons, List.map_nil]
  rw [if_pos (by decide)]
theorem T.tb {A : Option Bool} (h : EW L q none g L1 A aB) : ET L q (truE g) L1 A := fun b e s al => by
  obtain ⟨v, m, s', h1, h2, h3, h4⟩ := h b e s al
  rw [show v = .v (aB b) from h4] at h1
  exact ⟨m, s', by rw [k_tru, h1, k_truK, k_view_v, k_truV, t_B, k_truB], h2, h3⟩
theorem ix_t {n y : Int} {j : Nat} {x : γ} {c : γ} {t : T} {ts : List T} {e : γ → T} (h : ixT n y x = some c) (ht : t = .box o .tup ts) (hp : ixN ts.length n = some j) (hj : ts[j]? = some (e x)) : ∃ o' kd zs j, t = .box o' kd zs ∧ posT kd zs.length (aI y) = some j ∧ zs[j]? = some (e c) := by
  unfold ixT at h
  split at h
  · rename_i q; subst q; cases h
    exact ⟨o, .tup, ts, j, ht, by rw [f_pos_t]; exact hp, hj⟩
  · cases h
theorem v_isiOT {e : α → T} {n : String} (hf : ∀ a, isiF [e a, .atm (.ty n)] = some (.a (.bl true))) (hn : isiF [.atm .non, .atm (.ty n)] = some (.a (.bl false))) (x : Option α) (y : Unit) (c : Bool) (h : some x.isSome = some c) : Op (aB c) (isiF [eO e x, (fun _ => T.atm (.ty n)) y]) := by
  cases h
  cases x with
  | none => simp only [eO, hn]; rfl
  | some a => simp only [eO, hf]; rfl
theorem v_isiOF {e : α → T} {n : String} (hf : ∀ a, isiF [e a, .atm (.ty n)] = some (.a (.bl false))) (hn : isiF [.atm .non, .atm (.ty n)] = some (.a (.bl false))) (x : Option α) (y : Unit) (c : Bool) (h : some false = some c) : Op (aB c) (isiF [eO e x, (fun _ => T.atm (.ty n)) y]) := by
  cases h
  cases x with
  | none => simp only [eO, hn]; rfl
  | some a => simp only [eO, hf]; rfl
theorem N.assoc (h : SN L (seqS a (seqS b c)) P lay) : SN L (seqS (seqS a b) c) P lay := fun v ev s al => by
  obtain ⟨s', e1, a1⟩ := h v ev s al
  refine ⟨s', ?_, a1⟩
  rw [k_seq] at e1 ⊢
  rw [k_seq]
  cases e2 : a s with
  | nx s1 => rw [e2, k_seqK, k_seq] at e1; exact e1
  | _ => rw [e2] at e1; exact e1
theorem B.retI {e : ω → T} {o : Option ω} (h : EW L q none g L1 o e) (hD : ∀ v s, At L1 s → D v (.rt (e v) s)) : TB D L (retS g) o := fun v ev s al => by
  obtain ⟨u, m, s', h1, h2, h3, h4⟩ := h v ev s al
  rw [show u = .v (e v) from h4] at h1
  rw [k_ret, h1, k_retK]; exact hD v s' h2
theorem B.cutR (h : TB D L (retS g) W) : TB D L (seqS (retS g) c) W := fun w e s al => by
  have := h w e s al
  rw [k_seq]
  rw [k_ret] at this ⊢
  cases e1 : g s with
  | ok ev m s1 =>
    rw [e1] at this
    cases ev with
    | v t => exact this
    | p r q => exact this
  | ex C fs s1 => rw [e1] at this; exact this
  | fail => rw [e1] at this; exact this
theorem B.cutN (h : TB D L retNS W) : TB D L (seqS retNS c) W := fun w e s al => by
  have := h w e s al
  rw [k_seq, k_retN] at *; exact this
theorem B.cutB (h : TB D L bkS W) : TB D L (seqS bkS c) W := fun w e s al => by
  have := h w e s al
  rw [k_seq, k_bk] at *; exact this
theorem B.cutC (h : TB D L ctS W) : TB D L (seqS ctS c) W := fun w e s al => by
  have := h w e s al
  rw [k_seq, k_ct] at *; exact this
theorem B.unnx (h : TB D L (seqS a nxS) W) : TB D L a W := fun w e s al => by
  have := h w e s al
  rw [k_seq] at this
  cases e1 : a s <;> rw [e1] at this <;> exact this
theorem Dr.goI {e : ρ → T} {sl : List Ly} : ∀ (v : ρ) (s : S), At ⟨sl, []⟩ s → Dr e v (.rt (e v) s) := fun v s al => ⟨s, rfl, al.hd⟩
/-- equal, as the laws ask it -/
def okAb : Nat → T → Bool
  | 0, _ => false
  | _ + 1, .atm v => match v with
    | .non => true
    | .int _ => true
    | .str z => (T.atm (.str z)).fit
    | _ => false
  | n + 1, .box o k xs => !o && (decide (k = .lst) || decide (k = .tup)) && decide (xs.length < 16777216) && xs.all (okAb n)
def okA : Nat → T → Prop
  | 0, _ => False
  | _ + 1, .atm v => v = .non ∨ (∃ i, v = .int i) ∨ ∃ z, v = .str z ∧ (T.atm (.str z)).fit = true
  | n + 1, .box o k xs => o = false ∧ (k = .lst ∨ k = .tup) ∧ xs.length < sizeLine ∧ ∀ x ∈ xs, okA n x
theorem okA_F : ∀ (n : Nat) (t : T), okA n t → t.allF = true
  | 0, _, h => h.elim
  | n + 1, .atm v, _ => rfl
  | n + 1, .box o k xs, h => by
    obtain ⟨rfl, _, _, h⟩ := h
    have : T.allFL xs = true := allFL_iff.mpr fun x hx => okA_F n x (h x hx)
    simp [this]
theorem okA_of : ∀ (n : Nat) (t : T), okAb n t = true → okA n t
  | 0, _, h => by simp [okAb] at h
  | n + 1, .atm v, h => by
    cases v <;> simp only [okAb, Bool.false_eq_true] at h
    · exact .inl rfl
    · exact .inr (.inl ⟨_, rfl⟩)
    · exact .inr (.inr ⟨_, rfl, h⟩)
  | n + 1, .box o k xs, h => by
    simp only [okAb, Bool.and_eq_true, Bool.or_eq_true, decide_eq_true_eq, List.all_eq_true, Bool.not_eq_true'] at h
    exact ⟨h.1.1.1, h.1.1.2, h.1.2, fun x hx => okA_of n x (h.2 x hx)⟩
open Classical in
noncomputable def alikeO (e : α → T) (x y : α) : Option Bool := if x = y ∧ okAb 6 (e x) = true then some true else none
end
end TL
namespace TL
open PySem PySem.Spec L2
section
variable {α β γ δ ε σ τ ρ ω ι κ : Type} {L L1 L2 L3 : Lay} {q q1 q2 : Bool} {k k1 k2 : Option Rt} {g ga gb gi : S → RE} {t : S → RT} {a b c d : S → RS}
variable {A : Option α} {B : Option β} {ea ea' : α → T} {eb : β → T} {ec : γ → T} {i : Nat} {r : Rt} {P : Option σ} {D : ω → RS → Prop} {W W1 W2 : Option ω} {o : Bool}
theorem N.never : SN L nevS (none : Option σ) (fun _ => L) := fun v ev => nomatch ev
theorem B.never : TB D L nevS none := fun v ev => nomatch ev
theorem N.neverI {lay : σ → Lay} : SN L nevS none lay := fun v ev => nomatch ev
/-! ## for over an own list whose things change -/
def Lay.hide (L : Lay) (j : Nat) (t : T) : Lay := (Lay.mk (L.put j .no).sl (L.hd ++ [t])).put j (.al (.hd L.hd.length) [])
def Ly.killH (k : Nat) : Ly → Ly
  | .al (.hd j) p => if j = k then .no else .al (.hd j) p
  | y => y
def Lay.unhide (L : Lay) (j k : Nat) (t : T) : Lay := (Lay.mk (L.sl.map (Ly.killH k)) (L.hd.take k)).put j (.is t)
theorem killH_ok {k : Nat} {y : Ly} {x : Sl T} (h : y.ok x) : (y.killH k).ok (Sl.killH k x) := by
  cases y with
  | any => trivial
  | no => cases h; rfl
  | is t => cases h; rfl
  | al r p =>
    cases h
    cases r with
    | sl j => rfl
    | hd j =>
      by_cases q : j = k
      · simp [Ly.killH, Sl.killH, q, Ly.ok]
      · simp [Ly.killH, Sl.killH, q, Ly.ok]
theorem N.forQ {M : List γ} {st0 : σ} {lay layo : List γ × σ → Lay} {Lb : List γ × σ → Nat → Lay} {f : List γ × σ → Nat → Option (List γ × σ)} {hd0 : List T} [Ow ec] (j i : Nat) (hj : nth L.sl j = .is (eL true ec M)) (h0 : Sub (L.hide j (eL true ec M)) (lay (M, st0))) (hL : L.hd = hd0) (hh : ∀ st, (lay st).hd = hd0 ++ [eL true ec st.1]) (hs : ∀ st, nth (lay st).sl j = .al (.hd hd0.length) [])
    (hi : ∀ st, Nat.blt i (lay st).sl.length = true) (hb : ∀ st m, (lay st).put i (.al (.hd hd0.length) [m]) = Lb st m) (hf : ∀ st m, SN (Lb st m) a (f st m) lay) (ho : ∀ st, (lay st).unhide j hd0.length (eL true ec st.1) = layo st) :
    SN L (forP j i a) ((forO (capN M.length f) (List.range M.length) (M, st0)).bind fun st => if st.1.length = M.length then some st else none) layo := fun v ev s al => by
  have hsl := al.is hj
  have hk : hd0.length = s.hd.length := by rw [al.hd, hL]
  have e1 : hideS j s = some (SS.put ⟨(s.put j .no).sl, s.hd ++ [eL true ec M]⟩ j (.al (.hd s.hd.length) [])) := by
    rw [k_hide, hsl]; rfl
  have a1 : At (L.hide j (eL true ec M)) (SS.put ⟨(s.put j .no).sl, s.hd ++ [eL true ec M]⟩ j (.al (.hd s.hd.length) [])) := by
    have a0 : At (Lay.mk (L.put j .no).sl (L.hd ++ [eL true ec M])) ⟨(s.put j .no).sl, s.hd ++ [eL true ec M]⟩ := ⟨(al.put (i := j) (y := .no) (x := .no) rfl).sl, by rw [al.hd]⟩
    exact a0.put (by rw [al.hd]; rfl)
  have hn : lenJ j s = M.length := by rw [k_lenJ, hsl]; simp only [eL, k_lenK, List.length_map]
  obtain ⟨w, ew, ev⟩ := bind_of ev
  have loop : ∀ (n m : Nat) (st : List γ × σ) (s' : S), n + m = M.length → At (lay st) s' → forO (capN M.length f) (List.range' n m) st = some w → ∃ s2, forPV i s.hd.length M.length a m s' = .nx s2 ∧ At (lay w) s2 := by
    intro n m
    induction m generalizing n with
    | zero =>
      intro st s' _ al' e
      simp only [List.range'_zero, forO, Option.some.injEq] at e
      subst e
      refine ⟨s', ?_, al'⟩
      split at ev
      · rename_i hl
        have : lenH s.hd.length M.length s' = true := by
          rw [k_lenH, al'.hd, hh, ← hk]
          simp [eL, hl]
        simp only [forPV, this, if_true]
      · cases ev
    | succ m ih =>
      intro st s' hnm al' e
      simp only [List.range'_succ, forO] at e
      obtain ⟨st1, e1, e⟩ := bind_of e
      unfold capN at e1
      split at e1
      · rename_i hl
        have hn2 : n < st.1.length := by omega
        have hbd : bindP i s.hd.length M.length n s' = some (s'.put i (.al (.hd hd0.length) [n])) := by
          rw [k_bindP, al'.hd, hh, ← hk]
          have hil := al'.lt (hi st)
          rw [List.getElem?_append_right (Nat.le_refl _)]
          simp only [Nat.sub_self, List.getElem?_cons_zero, bindK, eL, List.length_map, hl, hil, and_self, if_true, List.getElem?_map, List.getElem?_eq_getElem hn2, Option.map_some, bindX, bindC, Ow.ow, Bool.false_eq_true, if_false]
        obtain ⟨s2, e2, a2⟩ := hf st n st1 e1 (s'.put i (.al (.hd hd0.length) [n])) (by rw [← hb]; exact al'.put rfl)
        obtain ⟨s3, e3, a3⟩ := ih (n + 1) st1 s2 (by omega) a2 e
        refine ⟨s3, ?_, a3⟩
        have : M.length - (m + 1) = n := by omega
        simp only [forPV, this, hbd, e2]
        exact e3
      · cases e1
  rw [List.range_eq_range'] at ew
  obtain ⟨s2, e2, a2⟩ := loop 0 M.length (M, st0) _ (by omega) (h0 _ a1) ew
  split at ev
  · cases ev
    have hsj := a2.al (hs v)
    have hd2 : s2.hd = hd0 ++ [eL true ec v.1] := by rw [a2.hd, hh]
    refine ⟨(dropH s.hd.length s2).put j (.t (eL true ec v.1)), ?_, ?_⟩
    · simp only [forP, e1, hn, e2, endP]
      rw [k_show, hsj, hd2, ← hk, List.getElem?_append_right (Nat.le_refl _)]
      simp only [Nat.sub_self, List.getElem?_cons_zero]
      rw [k_showK (by rw [hd2]; simp)]
    · rw [← ho]
      have : At (Lay.mk ((lay v).sl.map (Ly.killH hd0.length)) ((lay v).hd.take hd0.length)) (dropH s.hd.length s2) := by
        rw [← hk]
        exact ⟨oks_map (fun _ _ => killH_ok) a2.sl, by rw [hh, k_drop]; simp only [hd2]⟩
      exact this.put rfl
  · cases ev
theorem P.alx {δ : Type} {M : δ} {e0 : δ → T} {lo : Option Unit} {p : List Nat} {n : Nat} {gt : δ → Option (List γ)} {up : δ → List γ → δ} {B : Option Int} [Ow ec] (h : PL L ga L1 r M e0 lo (fun _ : Unit => p) n (fun _ => gt) (eL true ec) (fun _ => up)) (hb : EW L1 true k2 gb L1 B aI) :
    PL L (idxE (argsG [ga, gb])) L1 r M e0 (o2 lo B fun _ b => (gt M).bind fun xs => ixN xs.length b) (fun j => p ++ [j]) (n + 1) (fun j N => (gt N).bind fun xs => xs[j]?) ec (fun j N y => upX (gt N) N fun xs => up N (xs.set j y)) := by
  refine PL.cv (P.ix h hb) (fun j => ((), j)) (fun j ej => ?_) (fun _ => rfl) (fun _ _ => rfl) (fun j N x y hx => ?_)
  · obtain ⟨_, b, eu, eb, ej⟩ := o2_of ej
    obtain ⟨xs, exs, ej⟩ := bind_of ej
    have hj := (ixN_seq ej).2.1
    rw [eu, eb]
    simp only [o2, Option.bind_some, exs, ej, List.getElem?_eq_getElem hj]
  · obtain ⟨xs, exs, hx⟩ := bind_of hx
    simp only [exs, upX, md_const]
/-- what the law hands back -/
theorem law_of {F : List T → RF} {p : List Int → Option Bool} (h : ∀ ns r, p ns = some r → F [eSc ns] = .ok (aB r) []) (hp : ∀ ns : List Int, ns.length ≤ 63 → p ns = some true) : ∀ ns : List Int, ns.length ≤ 63 → ∃ rs, F [scrT ns] = .ok (.atm (.bl true)) rs := fun ns hl => ⟨[], h ns true (hp ns hl)⟩
end
end TL
namespace TL
open PySem PySem.Spec L2
noncomputable section
def q_turns_places_at (m_1 : (List (List Int))) : Option (List (Int × Int)) :=
  ((some ([] : (List (Int × Int)))).bind fun (places_1 : (List (Int × Int))) => ((((some m_1).map enumL).bind fun xs => forO (fun (places_2 : (List (Int × Int))) t_1 => (((some t_1.2).bind fun xs => forO (fun (places_3 : (List (Int × Int))) end_1 => ((o2 (some t_1.1) (some end_1) fun v c => ksetO places_3 c v).map fun (places_4 : (List (Int × Int))) => places_4)) xs places_2).map fun (places_5 : (List (Int × Int))) => places_5)) xs places_1).bind fun (places_6 : (List (Int × Int))) => (some places_6)))
def q_pieces_reached (m_1 : (List (List Int))) (at_1 : (List (Int × Int))) (place_1 : Int) : Option (List Int) :=
  ((o2 (some place_1) (some true) fun b a => some [(b, a)]).bind fun (have_1 : (List (Int × Bool))) => (((some place_1).map fun x => [x]).bind fun (wave_1 : (List Int)) => ((some (0 : Int)).bind fun (k_1 : Int) => ((whO (fun (s_1 : (List (Int × Bool)) × (List Int) × Int) => (o2 (some s_1.2.2) ((some s_1.2.1).bind fun x => some (x.length : Int)) fun x y => some (decide (x < y)))) (fun (s_1 : (List (Int × Bool)) × (List Int) × Int) => (((o2 (some m_1) (o2 (some s_1.2.1) (some s_1.2.2) pyIx) pyIx).bind fun xs => forO (fun (s_2 : (List (Int × Bool)) × (List Int)) end_1 => ((o2 (some at_1) ((some end_1).bind fun x => some (-x)) kget).bind fun (far_1 : Int) => (((o2 (some far_1) (some s_2.1) fun x y => some (!khas y x)).bind fun c => if c = true then ((o2 (some true) (some far_1) fun v c => ksetO s_2.1 c v).bind fun (have_2 : (List (Int × Bool))) => (((some far_1).bind fun a => appO s_2.2 a).map fun (wave_2 : (List Int)) => (have_2, wave_2))) else (some (s_2.1, s_2.2))).map fun (s_3 : (List (Int × Bool)) × (List Int)) => (s_3.1, s_3.2)))) xs (s_1.1, s_1.2.1)).bind fun (s_4 : (List (Int × Bool)) × (List Int)) => ((o2 (some s_1.2.2) (some (1 : Int)) fun x y => some (x + y)).map fun (k_2 : Int) => (s_4.1, s_4.2, k_2)))) (have_1, wave_1, k_1)).bind fun (s_5 : (List (Int × Bool)) × (List Int) × Int) => ((some s_5.2.1).bind (sortO leI))))))
def q_pieces_pieces (m_1 : (List (List Int))) : Option (List (List (List Int))) :=
  (((some m_1).bind q_turns_places_at).bind fun (at_1 : (List (Int × Int))) => ((some ([] : (List (Int × Bool)))).bind fun (have_1 : (List (Int × Bool))) => ((some ([] : (List (List (List Int))))).bind fun (found_1 : (List (List (List Int)))) => (((((some m_1).bind fun x => some (x.length : Int)).bind rangeO).bind fun xs => forO (fun (s_1 : (List (Int × Bool)) × (List (List (List Int)))) place_1 => (((o2 (some place_1) (some s_1.1) fun x y => some (!khas y x)).bind fun c => if c = true then ((o3 (some m_1) (some at_1) (some place_1) q_pieces_reached).bind fun (group_1 : (List Int)) => (((some group_1).bind fun xs => forO (fun (have_2 : (List (Int × Bool))) one_1 => ((o2 (some true) (some one_1) fun v c => ksetO have_2 c v).map fun (have_3 : (List (Int × Bool))) => have_3)) xs s_1.1).bind fun (have_4 : (List (Int × Bool))) => ((((some group_1).bind fun xs => mpO (fun e_1 => ((o2 (some m_1) (some e_1) pyIx).bind (fun x => some x))) xs).bind fun a => appO s_1.2 a).map fun (found_2 : (List (List (List Int)))) => (have_4, found_2)))) else (some (s_1.1, s_1.2))).map fun (s_2 : (List (Int × Bool)) × (List (List (List Int)))) => (s_2.1, s_2.2))) xs (have_1, found_1)).bind fun (s_3 : (List (Int × Bool)) × (List (List (List Int)))) => (some s_3.2)))))
def q_w_cell (script_1 : (List Int)) (k_1 : Int) : Option Int :=
  ((o2 (some k_1) ((some script_1).bind fun x => some (x.length : Int)) fun x y => some (decide (x < y))).bind fun c => if c = true then (o2 (some script_1) (some k_1) pyIx) else (some (0 : Int)))
def q_w_names (script_1 : (List Int)) : Option (List Int) :=
  ((some (1 : Int)).bind fun (step_1 : Int) => ((some (0 : Int)).bind fun (shift_1 : Int) => (((o2 (o2 (o2 (some script_1) (some (0 : Int)) q_w_cell) (some (3 : Int)) fun x y => modO x y) (some (0 : Int)) fun x y => some (decide (y < x))).bind fun c => if c = true then ((o2 (some (1 : Int)) (o2 (o2 (some script_1) (some (1 : Int)) q_w_cell) (o2 (some (10 : Int)) (some (58 : Int)) fun x y => powO x y) fun x y => modO x y) fun x y => some (x + y)).bind fun (step_2 : Int) => ((o2 (o2 (some script_1) (some (2 : Int)) q_w_cell) (o2 (some (10 : Int)) (some (58 : Int)) fun x y => powO x y) fun x y => modO x y).map fun (shift_2 : Int) => (step_2, shift_2))) else (some (step_1, shift_1))).bind fun (s_1 : Int × Int) => ((o2 (some (1 : Int)) (o2 (o2 (o2 (some script_1) (some (0 : Int)) q_w_cell) (some (3 : Int)) fun x y => fdivO x y) (some (66 : Int)) fun x y => modO x y) fun x y => some (x + y)).bind fun (stride_1 : Int) => ((o2 (o2 (o2 (some script_1) (some (0 : Int)) q_w_cell) (some (198 : Int)) fun x y => fdivO x y) (some (67 : Int)) fun x y => modO x y).bind fun (off_1 : Int) => (((some (66 : Int)).bind rangeO).bind fun xs => mpO (fun e_1 => (o2 (o2 (some s_1.1) (o2 (o2 (o2 (o2 (some stride_1) (some e_1) fun x y => mulO x y) (some off_1) fun x y => some (x + y)) (some (67 : Int)) fun x y => modO x y) (some (1 : Int)) fun x y => some (x + y)) fun x y => mulO x y) (some s_1.2) fun x y => some (x + y))) xs))))))
def q_w_parts (cells_1 : (List Int)) (names_here_1 : (List Int)) : Option (List (List (List Int))) :=
  ((((some ([] : (List Int))).map fun x => [x]).map fun x => [x]).bind fun (parts_here_1 : (List (List (List Int)))) => (((some (0 : Int)).map fun x => [x]).bind fun (trail_1 : (List Int)) => ((some ([] : (List Int))).bind fun (left_1 : (List Int)) => ((some (0 : Int)).bind fun (used_1 : Int) => (((some cells_1).bind fun xs => forO (fun (s_1 : (List (List (List Int))) × (List Int) × (List Int) × Int) cell_here_1 => ((o2 (some cell_here_1) (some (8 : Int)) fun x y => modO x y).bind fun (way_1 : Int) => ((o2 ((some (1 : Int)).bind fun x => some (-x)) (o2 (some s_1.2.1) ((some (1 : Int)).bind fun x => some (-x)) pyIx) fun b c => (ixN s_1.1.length b).bind fun j => s_1.1[j]?.bind fun x => (ixN x.length c).bind fun k => some (j, k)).bind fun (here_1 : Nat × Nat) => ((o2 (some names_here_1) (some s_1.2.2.2) pyIx).bind fun (end_1 : Int) => (((o2 (o2 (o2 (some cell_here_1) (some (8 : Int)) fun x y => fdivO x y) (some (2 : Int)) fun x y => modO x y) (some (1 : Int)) fun x y => some (decide (x = y))).bind fun c => if c = true then ((some end_1).bind fun x => some (-x)) else (some end_1)).bind fun (end_3 : Int) => (((o2 (some way_1) (some (4 : Int)) fun x y => some (decide (x < y))).bind fun c => if c = true then ((o2 ((s_1.1[here_1.1]?.bind fun x => x[here_1.2]?).map fun _ => ()) (some end_3) fun w a => (s_1.1[here_1.1]?.bind fun x => x[here_1.2]?).bind fun x => (appO x a).map fun y => (s_1.1.modify here_1.1 fun x => x.set here_1.2 y)).bind fun (parts_here_2 : (List (List (List Int)))) => ((o2 (some s_1.2.2.2) (some (1 : Int)) fun x y => some (x + y)).bind fun (used_2 : Int) => (((o2 (some way_1) (some (2 : Int)) fun x y => some (decide (x < y))).bind fun c => if c = true then ((((some end_3).bind fun x => some (-x)).bind fun a => appO s_1.2.2.1 a).map fun (left_2 : (List Int)) => (parts_here_2, s_1.2.1, left_2)) else ((((o2 (some parts_here_2) ((some (1 : Int)).bind fun x => some (-x)) pyIx).bind fun x => some (x.length : Int)).bind fun a => appO s_1.2.1 a).bind fun (trail_2 : (List Int)) => ((o2 (((some (1 : Int)).bind fun x => some (-x)).bind fun b => ixN parts_here_2.length b) (((some end_3).bind fun x => some (-x)).map fun x => [x]) fun w a => parts_here_2[w]?.bind fun x => (appO x a).map fun y => (parts_here_2.set w y)).map fun (parts_here_3 : (List (List (List Int)))) => (parts_here_3, trail_2, s_1.2.2.1)))).map fun (s_2 : (List (List (List Int))) × (List Int) × (List Int)) => (s_2.1, s_2.2.1, s_2.2.2, used_2)))) else (((o2 (some way_1) (some (6 : Int)) fun x y => some (decide (x < y))).bind fun c => if c = true then ((((some s_1.2.2.1).map fun x => !x.isEmpty).bind fun c => if c = true then ((o2 ((s_1.1[here_1.1]?.bind fun x => x[here_1.2]?).map fun _ => ()) ((o2 (o2 (some cell_here_1) (some (16 : Int)) fun x y => fdivO x y) ((some s_1.2.2.1).bind fun x => some (x.length : Int)) fun x y => modO x y).bind fun c => popAtO s_1.2.2.1 c) fun w c => (s_1.1[here_1.1]?.bind fun x => x[here_1.2]?).bind fun x => (appO x c.1).map fun y => ((s_1.1.modify here_1.1 fun x => x.set here_1.2 y), c)).map fun (p_1 : (List (List (List Int))) × Int × (List Int)) => (p_1.1, p_1.2.2)) else (some (s_1.1, s_1.2.2.1))).map fun (s_3 : (List (List (List Int))) × (List Int)) => (s_3.1, s_1.2.1, s_3.2)) else (((o2 (some way_1) (some (6 : Int)) fun x y => some (decide (x = y))).bind fun c => if c = true then (((o2 ((some s_1.2.1).bind fun x => some (x.length : Int)) (some (1 : Int)) fun x y => some (decide (y < x))).bind fun c => if c = true then ((popO s_1.2.1).map Prod.snd) else (some s_1.2.1)).map fun (trail_4 : (List Int)) => (s_1.1, trail_4, s_1.2.2.1)) else ((o2 ((s_1.1[here_1.1]?.bind fun x => x[here_1.2]?).map fun _ => ()) (some s_1.2.2.1) fun w a => (s_1.1[here_1.1]?.bind fun x => x[here_1.2]?).bind fun x => (catO x a).map fun y => (s_1.1.modify here_1.1 fun x => x.set here_1.2 y)).bind fun (parts_here_4 : (List (List (List Int)))) => ((some ([] : (List Int))).bind fun (left_3 : (List Int)) => ((((some ([] : (List Int))).map fun x => [x]).bind fun a => appO parts_here_4 a).bind fun (parts_here_5 : (List (List (List Int)))) => (((some (0 : Int)).map fun x => [x]).map fun (trail_5 : (List Int)) => (parts_here_5, trail_5, left_3)))))).map fun (s_4 : (List (List (List Int))) × (List Int) × (List Int)) => (s_4.1, s_4.2.1, s_4.2.2))).map fun (s_5 : (List (List (List Int))) × (List Int) × (List Int)) => (s_5.1, s_5.2.1, s_5.2.2, s_1.2.2.2))).map fun (s_6 : (List (List (List Int))) × (List Int) × (List Int) × Int) => (s_6.1, s_6.2.1, s_6.2.2.1, s_6.2.2.2))))))) xs (parts_here_1, trail_1, left_1, used_1)).bind fun (s_7 : (List (List (List Int))) × (List Int) × (List Int) × Int) => ((o2 (o2 ((some (1 : Int)).bind fun x => some (-x)) (o2 (some s_7.2.1) ((some (1 : Int)).bind fun x => some (-x)) pyIx) fun b c => (ixN s_7.1.length b).bind fun j => s_7.1[j]?.bind fun x => (ixN x.length c).bind fun k => some (j, k)) (some s_7.2.2.1) fun w a => (s_7.1[w.1]?.bind fun x => x[w.2]?).bind fun x => (catO x a).map fun y => (s_7.1.modify w.1 fun x => x.set w.2 y)).bind fun (parts_here_6 : (List (List (List Int)))) => (some parts_here_6)))))))
def q_w_turn (turn_here_1 : (List Int)) : Option (List Int) :=
  ((((some turn_here_1).map fun x => !x.isEmpty).map (!·)).bind fun c => if c = true then (some ([] : (List Int))) else ((o2 (some turn_here_1) ((some turn_here_1).bind fun x => x.min?) fun x y => indexO x y).bind fun (k_1 : Int) => (o2 (o2 (some turn_here_1) (some k_1) fun x y => some (cutT x (some y) none)) (o2 (some turn_here_1) (some k_1) fun x y => some (cutT x none (some y))) fun x y => catO x y)))
def q_w_map (turns_1 : (List (List Int))) : Option (List (List Int)) :=
  (((some turns_1).bind fun xs => mpO (fun e_1 => ((some e_1).bind q_w_turn)) xs).bind (sortO leR))
def q_w_all (parts_here_1 : (List (List (List Int)))) : Option (List (List Int)) :=
  ((some ([] : (List (List Int)))).bind fun (turns_1 : (List (List Int))) => (((some parts_here_1).bind fun xs => forO (fun (turns_2 : (List (List Int))) part_1 => (((some part_1).bind fun a => catO turns_2 a).map fun (turns_3 : (List (List Int))) => turns_3)) xs turns_1).bind fun (turns_4 : (List (List Int))) => (some turns_4)))
def q_k11_law (script_1 : (List Int)) : Option Bool :=
  ((o2 (o3 (some script_1) (some (3 : Int)) (some (66 : Int)) fun x y z => some (cutT x (some y) (some z))) ((some script_1).bind q_w_names) q_w_parts).bind fun (parts_here_1 : (List (List (List Int)))) => (((o2 (o2 (o2 (o2 (some script_1) (some (0 : Int)) q_w_cell) (some (13266 : Int)) fun x y => fdivO x y) (some (3 : Int)) fun x y => modO x y) (some (1 : Int)) fun x y => some (decide (x = y))).bind fun c => if c = true then ((some parts_here_1).bind fun xs => flO (fun e_1 => (o2 (some e_1) ((some ([] : (List Int))).map fun x => [x]) fun x y => some (!decide (x = y)))) (fun e_1 => (some e_1)) xs) else (some parts_here_1)).bind fun (parts_here_3 : (List (List (List Int)))) => ((((some parts_here_3).bind fun xs => mpO (fun e_2 => ((some e_2).bind q_w_map)) xs).bind (sortO leM)).bind fun (due_1 : (List (List (List Int)))) => ((((some parts_here_3).bind q_w_all).bind q_w_map).bind fun (m_1 : (List (List Int))) => (((some m_1).bind fun xs => mpO (fun e_3 => ((some e_3).bind (fun x => some x))) xs).bind fun (handed_1 : (List (List Int))) => (((some handed_1).bind q_pieces_pieces).bind fun (found_1 : (List (List (List Int)))) => ((((o2 (some found_1) (some due_1) (alikeO (eL false (eL false (eL false aI))))).map (!·)).bind fun c => if c = true then some true else ((o2 (some handed_1) (some m_1) (alikeO (eL false (eL false aI)))).map (!·))).bind fun c => if c = true then (some false) else (((forO (capN found_1.length fun (s_1 : (List (List (List Int))) × (Unit)) (m_2 : Nat) => ((o2 (o2 (s_1.1[m_2]?.map fun _ => ()) (some (0 : Int)) fun _ b => (s_1.1[m_2]?).bind fun xs => ixN xs.length b) (some (7 : Int)) fun w a => ((s_1.1[m_2]?).bind fun xs => xs[w]?).bind fun x => (appO x a).map fun y => (upX (s_1.1[m_2]?) s_1.1 fun xs => (s_1.1.set m_2 (xs.set w y)))).bind fun (h0_1 : (List (List (List Int)))) => ((o2 (h0_1[m_2]?.map fun _ => ()) ((some (8 : Int)).map fun x => [x]) fun w a => h0_1[m_2]?.bind fun x => (appO x a).map fun y => (h0_1.set m_2 y)).map fun (h0_2 : (List (List (List Int)))) => (h0_2, ())))) (List.range found_1.length) (found_1, ())).bind fun st => if st.1.length = found_1.length then some st else none).bind fun (s_2 : (List (List (List Int))) × (Unit)) => (((some ([] : (List (List Int)))).bind fun a => appO s_2.1 a).bind fun (found_2 : (List (List (List Int)))) => ((o2 (some handed_1) (some m_1) (alikeO (eL false (eL false aI)))).bind fun c => if c = true then (o2 ((some handed_1).bind q_pieces_pieces) (some due_1) (alikeO (eL false (eL false (eL false aI))))) else some false))))))))))
end
end TL
namespace TL
open PySem PySem.Spec L2
theorem p_k11_alike : ∀ (n : Nat) (t : T), okA n t → F_k11_law_alike n [t, t] = .ok (.atm (.bl true)) []
  | 0, _, h => h.elim
  | n + 1, .atm v, h => by
    rcases h with rfl | ⟨i, rfl⟩ | ⟨z, rfl, hz⟩
    · simp [F_k11_law_alike, runF_k, startT, slotsOf, lentOf, f_k11_law_alike, i_nl, i_nt]
    · simp [F_k11_law_alike, runF_k, startT, slotsOf, lentOf, f_k11_law_alike, i_il, i_it, i_is]
    · simp [F_k11_law_alike, runF_k, startT, slotsOf, lentOf, f_k11_law_alike, i_sl, i_st, hz, e_strS]
  | n + 1, .box o k xs, h => by
    have hall := okA_F (n + 1) _ h
    obtain ⟨rfl, hk, hl, hx⟩ := h
    have hxs : T.allFL xs = true := by simpa using hall
    have hz : xs.length < sizeLine := hl
    have ih := fun t ht => p_k11_alike n t ht
    refine run_of rfl (by decide) fun Q hQ => ?_
    have st : startT [false, false] 3 [T.box false k xs, T.box false k xs] = ⟨[.t (.box false k xs), .t (.box false k xs), .no], []⟩ := by simp [startT, slotsOf, lentOf]
    rw [st]
    refine Runs.any ?_
    refine Runs.iff_ ⟨true, .pure, ⟨[.t (.box false k xs), .t (.box false k xs), .no], []⟩, ?_, fun _ => ?_, fun h => nomatch h⟩
    · rcases hk with rfl | rfl <;> simp [hxs, i_lt, i_tl, i_tt]
    refine Runs.step ⟨⟨[.t (.box false k xs), .t (.box false k xs), .no], []⟩, ?_, ?_⟩
    · rcases hk with rfl | rfl <;> simp [hxs, i_lt, i_tl, i_tt]
    refine Runs.step ⟨⟨[.t (.box false k xs), .t (.box false k xs), .no], []⟩, ?_, ?_⟩
    · rcases hk with rfl | rfl <;> simp [hxs]
    refine Runs.loop (fun i : Nat => aI (i : Nat)) (List.range xs.length) (fun _ s => ∃ c : Option T, s = ⟨[.t (.box false k xs), .t (.box false k xs), oS c], []⟩) ?_ ?_ ?_
    · exact ⟨.pure, ⟨[.t (.box false k xs), .t (.box false k xs), .no], []⟩, by rcases hk with rfl | rfl <;> simp [hxs, hz], none, rfl⟩
    · rintro pre j post s e ⟨c, rfl⟩
      have hj : j < xs.length := by
        have : j ∈ List.range xs.length := by rw [e]; simp
        simpa using this
      have hxj := hx xs[j] (List.getElem_mem hj)
      have haj := okA_F n _ hxj
      have hfj := fz_of_allF _ haj
      have hij := ih _ hxj
      refine ⟨⟨[.t (.box false k xs), .t (.box false k xs), .t (aI j)], []⟩, by simp, ?_⟩
      refine Runs.nxI (s1 := ⟨[.t (.box false k xs), .t (.box false k xs), .t (aI j)], []⟩) ?_ ⟨some (aI j), rfl⟩
      rcases hk with rfl | rfl <;> simp [hxs, hj, haj, hfj, hij]
    · rintro s ⟨c, rfl⟩
      exact hQ _ rfl
theorem t_k11_alike {α : Type} {e : α → T} (x y : α) (b : Bool) (h : alikeO e x y = some b) : F_k11_law_alike 6 [e x, e y] = .ok (aB b) [] := by
  unfold alikeO at h
  split at h
  · rename_i q
    cases h
    rw [← q.1]
    exact p_k11_alike 6 _ (okA_of 6 _ q.2)
  · cases h
theorem t_turns_places_at (m_1 : (List (List Int))) (r : (List (Int × Int))) (h : q_turns_places_at m_1 = some r) : F_turns_places_at [(eL false (eL false aI)) m_1] = .ok ((eD true aI) r) [] := by
  refine def_of (L := ⟨[.is ((eL false (eL false aI)) m_1), .no, .no, .no, .no], []⟩) ⟨rfl, by decide⟩ rfl ?_ r h
  unfold f_turns_places_at q_turns_places_at
  refine B.seq (lay := fun (places_1 : (List (Int × Int))) => ⟨[.is ((eL false (eL false aI)) m_1), .is ((eD true aI) places_1), .no, .no, .no], []⟩) ?_ ?_
  · exact (N.asg (lay := fun (v : (List (Int × Int))) => ⟨[.is ((eL false (eL false aI)) m_1), .is ((eD true aI) v), .no, .no, .no], []⟩) 1 (E.dn (β := Int) (ea := aI)) (by rfl) (fun _ => by rfl))
  · intro places_1
    refine B.seq (lay := fun (places_6 : (List (Int × Int))) => ⟨[.is ((eL false (eL false aI)) m_1), .is ((eD true aI) places_6), .any, .any, .any], []⟩) ?_ ?_
    · refine N.forr (ea := (eT2 false aI (eL false aI))) (lay := fun (places_2 : (List (Int × Int))) => ⟨[.is ((eL false (eL false aI)) m_1), .is ((eD true aI) places_2), .any, .any, .any], []⟩) (Lb := fun places_2 t_1 => ⟨[.is ((eL false (eL false aI)) m_1), .is ((eD true aI) places_2), .is (aI t_1.1), .is ((eL false aI) t_1.2), .any], []⟩) (st0 := places_1) (I.en (ea := (eL false aI)) (I.list (ea := (eL false aI)) (E.fz (E.rdF (ea := (eL false (eL false aI))) (a := m_1) 0 (by rfl))))) (Sub.mask [false, false, true, true, true]) (fun places_2 => (G.two (l1 := fun x_1 => ⟨[.is ((eL false (eL false aI)) m_1), .is ((eD true aI) places_2), .is (aI x_1), .any, .any], []⟩) (G.name (ea := aI) 2 rfl (fun _ => rfl)) (fun x_1 => (G.name (ea := (eL false aI)) 3 rfl (fun _ => rfl))))) ?_
      · intro places_2 t_1
        refine N.map (lay := fun (places_5 : (List (Int × Int))) => ⟨[.is ((eL false (eL false aI)) m_1), .is ((eD true aI) places_5), .is (aI t_1.1), .is ((eL false aI) t_1.2), .any], []⟩) (f := fun (places_5 : (List (Int × Int))) => places_5) ?_ (fun (places_5 : (List (Int × Int))) => (Sub.mask [false, false, true, true, false]))
        · refine N.forr (ea := aI) (lay := fun (places_3 : (List (Int × Int))) => ⟨[.is ((eL false (eL false aI)) m_1), .is ((eD true aI) places_3), .is (aI t_1.1), .is ((eL false aI) t_1.2), .any], []⟩) (Lb := fun places_3 end_1 => ⟨[.is ((eL false (eL false aI)) m_1), .is ((eD true aI) places_3), .is (aI t_1.1), .is ((eL false aI) t_1.2), .is (aI end_1)], []⟩) (st0 := places_2) (I.list (ea := aI) (E.fz (E.rdF (ea := (eL false aI)) (a := t_1.2) 3 (by rfl)))) Sub.rfl (fun places_3 => (G.name (ea := aI) 4 rfl (fun _ => rfl))) ?_
          · intro places_3 end_1
            refine N.map (lay := fun (places_4 : (List (Int × Int))) => ⟨[.is ((eL false (eL false aI)) m_1), .is ((eD true aI) places_4), .is (aI t_1.1), .is ((eL false aI) t_1.2), .is (aI end_1)], []⟩) (f := fun (places_4 : (List (Int × Int))) => places_4) ?_ (fun (places_4 : (List (Int × Int))) => (Sub.mask [false, false, false, false, true]))
            · exact (N.stR (R := fun x c v => ksetO x c v) (lay := fun (v : (List (Int × Int))) => ⟨[.is ((eL false (eL false aI)) m_1), .is ((eD true aI) v), .is (aI t_1.1), .is ((eL false aI) t_1.2), .is (aI end_1)], []⟩) (E.fz (E.rdF (ea := aI) (a := t_1.1) 2 (by rfl))) (P.rd (ea := (eD true aI)) (M := places_3) 1 (by rfl)) (by rfl) (E.rdF (ea := aI) (a := end_1) 4 (by rfl)) (fun x c v y h => s_dctI x y h) (fun _ => by rfl))
    · intro places_6
      exact (B.retI (e := (eD true aI)) (E.mv (ea := (eD true aI)) (a := places_6) 1 (by rfl)) Dr.goI)
theorem t_pieces_reached (m_1 : (List (List Int))) (at_1 : (List (Int × Int))) (place_1 : Int) (r : (List Int)) (h : q_pieces_reached m_1 at_1 place_1 = some r) : F_pieces_reached [(eL false (eL false aI)) m_1, (eD false aI) at_1, aI place_1] = .ok ((eL true aI) r) [] := by
  refine def_of (L := ⟨[.is ((eL false (eL false aI)) m_1), .is ((eD false aI) at_1), .is (aI place_1), .no, .no, .no, .no, .no], []⟩) ⟨rfl, by decide⟩ rfl ?_ r h
  unfold f_pieces_reached q_pieces_reached
  refine B.seq (lay := fun (have_1 : (List (Int × Bool))) => ⟨[.is ((eL false (eL false aI)) m_1), .is ((eD false aI) at_1), .is (aI place_1), .is ((eD true aB) have_1), .no, .no, .no, .no], []⟩) ?_ ?_
  · exact (N.asg (lay := fun (v : (List (Int × Bool))) => ⟨[.is ((eL false (eL false aI)) m_1), .is ((eD false aI) at_1), .is (aI place_1), .is ((eD true aB) v), .no, .no, .no, .no], []⟩) 3 (E.disp1 (E.rdF (ea := aI) (a := place_1) 2 (by rfl)) (fun _ => rfl) (E.con (ea := aB) (a := true) rfl)) (by rfl) (fun _ => by rfl))
  · intro have_1
    refine B.seq (lay := fun (wave_1 : (List Int)) => ⟨[.is ((eL false (eL false aI)) m_1), .is ((eD false aI) at_1), .is (aI place_1), .is ((eD true aB) have_1), .is ((eL true aI) wave_1), .no, .no, .no], []⟩) ?_ ?_
    · exact (N.asg (lay := fun (v : (List Int)) => ⟨[.is ((eL false (eL false aI)) m_1), .is ((eD false aI) at_1), .is (aI place_1), .is ((eD true aB) have_1), .is ((eL true aI) v), .no, .no, .no], []⟩) 4 (E.lst1 (E.fz (E.rdF (ea := aI) (a := place_1) 2 (by rfl)))) (by rfl) (fun _ => by rfl))
    · intro wave_1
      refine B.seq (lay := fun (k_1 : Int) => ⟨[.is ((eL false (eL false aI)) m_1), .is ((eD false aI) at_1), .is (aI place_1), .is ((eD true aB) have_1), .is ((eL true aI) wave_1), .is (aI k_1), .no, .no], []⟩) ?_ ?_
      · exact (N.asg (lay := fun (v : Int) => ⟨[.is ((eL false (eL false aI)) m_1), .is ((eD false aI) at_1), .is (aI place_1), .is ((eD true aB) have_1), .is ((eL true aI) wave_1), .is (aI v), .no, .no], []⟩) 5 (E.con (ea := aI) (a := 0) rfl) (by rfl) (fun _ => by rfl))
      · intro k_1
        refine B.seq (lay := fun (s_5 : (List (Int × Bool)) × (List Int) × Int) => ⟨[.is ((eL false (eL false aI)) m_1), .is ((eD false aI) at_1), .is (aI place_1), .is ((eD true aB) s_5.1), .is ((eL true aI) s_5.2.1), .is (aI s_5.2.2), .any, .any], []⟩) ?_ ?_
        · refine N.whil (lay := fun (s_1 : (List (Int × Bool)) × (List Int) × Int) => ⟨[.is ((eL false (eL false aI)) m_1), .is ((eD false aI) at_1), .is (aI place_1), .is ((eD true aB) s_1.1), .is ((eL true aI) s_1.2.1), .is (aI s_1.2.2), .any, .any], []⟩) (Lt := fun s_1 => ⟨[.is ((eL false (eL false aI)) m_1), .is ((eD false aI) at_1), .is (aI place_1), .is ((eD true aB) s_1.1), .is ((eL true aI) s_1.2.1), .is (aI s_1.2.2), .any, .any], []⟩) (st0 := (have_1, wave_1, k_1)) (Sub.mask [false, false, false, false, false, false, true, true]) (fun s_1 => (T.tst (E.op2 (ec := aB) (E.rdF (ea := aI) (a := s_1.2.2) 5 (by rfl)) (E.op1 (eb := aI) (E.rdO (ea := (eL true aI)) (a := s_1.2.1) 4 (by rfl)) v_lenL) Two.v v_lt))) (fun s_1 => Sub.rfl) ?_
          · intro s_1
            refine N.seq (lay := fun (s_4 : (List (Int × Bool)) × (List Int)) => ⟨[.is ((eL false (eL false aI)) m_1), .is ((eD false aI) at_1), .is (aI place_1), .is ((eD true aB) s_4.1), .is ((eL true aI) s_4.2), .is (aI s_1.2.2), .any, .any], []⟩) ?_ ?_
            · refine N.forr (ea := aI) (lay := fun (s_2 : (List (Int × Bool)) × (List Int)) => ⟨[.is ((eL false (eL false aI)) m_1), .is ((eD false aI) at_1), .is (aI place_1), .is ((eD true aB) s_2.1), .is ((eL true aI) s_2.2), .is (aI s_1.2.2), .any, .any], []⟩) (Lb := fun s_2 end_1 => ⟨[.is ((eL false (eL false aI)) m_1), .is ((eD false aI) at_1), .is (aI place_1), .is ((eD true aB) s_2.1), .is ((eL true aI) s_2.2), .is (aI s_1.2.2), .is (aI end_1), .any], []⟩) (st0 := (s_1.1, s_1.2.1)) (I.list (ea := aI) (E.fz (E.ixF (ec := (eL false aI)) (E.rdF (ea := (eL false (eL false aI))) (a := m_1) 0 (by rfl)) (E.ixF (ec := aI) (E.rdO (ea := (eL true aI)) (a := s_1.2.1) 4 (by rfl)) (E.rdF (ea := aI) (a := s_1.2.2) 5 (by rfl)) Two.s ix_l) Two.v ix_l))) Sub.rfl (fun s_2 => (G.name (ea := aI) 6 rfl (fun _ => rfl))) ?_
              · intro s_2 end_1
                refine N.seq (lay := fun (far_1 : Int) => ⟨[.is ((eL false (eL false aI)) m_1), .is ((eD false aI) at_1), .is (aI place_1), .is ((eD true aB) s_2.1), .is ((eL true aI) s_2.2), .is (aI s_1.2.2), .is (aI end_1), .is (aI far_1)], []⟩) ?_ ?_
                · exact (N.asg (lay := fun (v : Int) => ⟨[.is ((eL false (eL false aI)) m_1), .is ((eD false aI) at_1), .is (aI place_1), .is ((eD true aB) s_2.1), .is ((eL true aI) s_2.2), .is (aI s_1.2.2), .is (aI end_1), .is (aI v)], []⟩) 7 (E.ixF (ec := aI) (E.rdF (ea := (eD false aI)) (a := at_1) 1 (by rfl)) (E.op1 (eb := aI) (E.rdF (ea := aI) (a := end_1) 6 (by rfl)) v_neg) Two.v ix_dI) (by rfl) (fun _ => by rfl))
                · intro far_1
                  refine N.map (lay := fun (s_3 : (List (Int × Bool)) × (List Int)) => ⟨[.is ((eL false (eL false aI)) m_1), .is ((eD false aI) at_1), .is (aI place_1), .is ((eD true aB) s_3.1), .is ((eL true aI) s_3.2), .is (aI s_1.2.2), .is (aI end_1), .is (aI far_1)], []⟩) (f := fun (s_3 : (List (Int × Bool)) × (List Int)) => (s_3.1, s_3.2)) ?_ (fun (s_3 : (List (Int × Bool)) × (List Int)) => (Sub.mask [false, false, false, false, false, false, true, true]))
                  · refine N.iff (lay := fun (v : (List (Int × Bool)) × (List Int)) => ⟨[.is ((eL false (eL false aI)) m_1), .is ((eD false aI) at_1), .is (aI place_1), .is ((eD true aB) v.1), .is ((eL true aI) v.2), .is (aI s_1.2.2), .is (aI end_1), .is (aI far_1)], []⟩) (T.tst (E.op2 (E.rdF (ea := aI) (a := far_1) 7 (by rfl)) (E.rdO (ea := (eD true aB)) (a := s_2.1) 3 (by rfl)) Two.v v_ninD)) ?_ ?_
                    · refine N.seq (lay := fun (have_2 : (List (Int × Bool))) => ⟨[.is ((eL false (eL false aI)) m_1), .is ((eD false aI) at_1), .is (aI place_1), .is ((eD true aB) have_2), .is ((eL true aI) s_2.2), .is (aI s_1.2.2), .is (aI end_1), .is (aI far_1)], []⟩) ?_ ?_
                      · exact (N.stR (R := fun x c v => ksetO x c v) (lay := fun (v : (List (Int × Bool))) => ⟨[.is ((eL false (eL false aI)) m_1), .is ((eD false aI) at_1), .is (aI place_1), .is ((eD true aB) v), .is ((eL true aI) s_2.2), .is (aI s_1.2.2), .is (aI end_1), .is (aI far_1)], []⟩) (E.con (ea := aB) (a := true) rfl) (P.rd (ea := (eD true aB)) (M := s_2.1) 3 (by rfl)) (by rfl) (E.rdF (ea := aI) (a := far_1) 7 (by rfl)) (fun x c v y h => s_dctI x y h) (fun _ => by rfl))
                      · intro have_2
                        refine N.map (lay := fun (wave_2 : (List Int)) => ⟨[.is ((eL false (eL false aI)) m_1), .is ((eD false aI) at_1), .is (aI place_1), .is ((eD true aB) have_2), .is ((eL true aI) wave_2), .is (aI s_1.2.2), .is (aI end_1), .is (aI far_1)], []⟩) (f := fun (wave_2 : (List Int)) => (have_2, wave_2)) ?_ (fun (wave_2 : (List Int)) => Sub.rfl)
                        · exact (N.m1R (kl := false) (R := appO) (lay := fun (v : (List Int)) => ⟨[.is ((eL false (eL false aI)) m_1), .is ((eD false aI) at_1), .is (aI place_1), .is ((eD true aB) have_2), .is ((eL true aI) v), .is (aI s_1.2.2), .is (aI end_1), .is (aI far_1)], []⟩) (P.rd (ea := (eL true aI)) (M := s_2.2) 4 (by rfl)) (by rfl) (E.fz (E.rdF (ea := aI) (a := far_1) 7 (by rfl))) (by rfl) (fun x c y h => u_app x c y h) (fun _ => by rfl))
                    · exact (N.skip (v := (s_2.1, s_2.2)) Sub.rfl)
            · intro s_4
              refine N.map (lay := fun (k_2 : Int) => ⟨[.is ((eL false (eL false aI)) m_1), .is ((eD false aI) at_1), .is (aI place_1), .is ((eD true aB) s_4.1), .is ((eL true aI) s_4.2), .is (aI k_2), .any, .any], []⟩) (f := fun (k_2 : Int) => (s_4.1, s_4.2, k_2)) ?_ (fun (k_2 : Int) => Sub.rfl)
              · exact (N.asg (lay := fun (v : Int) => ⟨[.is ((eL false (eL false aI)) m_1), .is ((eD false aI) at_1), .is (aI place_1), .is ((eD true aB) s_4.1), .is ((eL true aI) s_4.2), .is (aI v), .any, .any], []⟩) 5 (E.op2 (ec := aI) (E.rdF (ea := aI) (a := s_1.2.2) 5 (by rfl)) (E.con (ea := aI) (a := 1) rfl) Two.v v_add) (by rfl) (fun _ => by rfl))
        · intro s_5
          exact (B.retI (e := (eL true aI)) (E.tkV (eb := (eL true aI)) (E.mv (ea := (eL true aI)) (a := s_5.2.1) 4 (by rfl)) k_sort) Dr.goI)
theorem t_pieces_pieces (m_1 : (List (List Int))) (r : (List (List (List Int)))) (h : q_pieces_pieces m_1 = some r) : F_pieces_pieces [(eL false (eL false aI)) m_1] = .ok ((eL true (eL true (eL true aI))) r) [] := by
  refine def_of (L := ⟨[.is ((eL false (eL false aI)) m_1), .no, .no, .no, .no, .no, .no], []⟩) ⟨rfl, by decide⟩ rfl ?_ r h
  unfold f_pieces_pieces q_pieces_pieces
  refine B.seq (lay := fun (at_1 : (List (Int × Int))) => ⟨[.is ((eL false (eL false aI)) m_1), .is ((eD false aI) at_1), .no, .no, .no, .no, .no], []⟩) ?_ ?_
  · exact (N.asg (lay := fun (v : (List (Int × Int))) => ⟨[.is ((eL false (eL false aI)) m_1), .is ((eD false aI) v), .no, .no, .no, .no, .no], []⟩) 1 (E.fz (E.call1 t_turns_places_at (E.rdF (ea := (eL false (eL false aI))) (a := m_1) 0 (by rfl)) Arg.v Bo.v)) (by rfl) (fun _ => by rfl))
  · intro at_1
    refine B.seq (lay := fun (have_1 : (List (Int × Bool))) => ⟨[.is ((eL false (eL false aI)) m_1), .is ((eD false aI) at_1), .is ((eD true aB) have_1), .no, .no, .no, .no], []⟩) ?_ ?_
    · exact (N.asg (lay := fun (v : (List (Int × Bool))) => ⟨[.is ((eL false (eL false aI)) m_1), .is ((eD false aI) at_1), .is ((eD true aB) v), .no, .no, .no, .no], []⟩) 2 (E.dn (β := Int) (ea := aB)) (by rfl) (fun _ => by rfl))
    · intro have_1
      refine B.seq (lay := fun (found_1 : (List (List (List Int)))) => ⟨[.is ((eL false (eL false aI)) m_1), .is ((eD false aI) at_1), .is ((eD true aB) have_1), .is ((eL true (eL true (eL true aI))) found_1), .no, .no, .no], []⟩) ?_ ?_
      · exact (N.asg (lay := fun (v : (List (List (List Int)))) => ⟨[.is ((eL false (eL false aI)) m_1), .is ((eD false aI) at_1), .is ((eD true aB) have_1), .is ((eL true (eL true (eL true aI))) v), .no, .no, .no], []⟩) 3 (E.nil (ea := (eL true (eL true aI)))) (by rfl) (fun _ => by rfl))
      · intro found_1
        refine B.seq (lay := fun (s_3 : (List (Int × Bool)) × (List (List (List Int)))) => ⟨[.is ((eL false (eL false aI)) m_1), .is ((eD false aI) at_1), .is ((eD true aB) s_3.1), .is ((eL true (eL true (eL true aI))) s_3.2), .any, .any, .any], []⟩) ?_ ?_
        · refine N.forr (ea := aI) (lay := fun (s_1 : (List (Int × Bool)) × (List (List (List Int)))) => ⟨[.is ((eL false (eL false aI)) m_1), .is ((eD false aI) at_1), .is ((eD true aB) s_1.1), .is ((eL true (eL true (eL true aI))) s_1.2), .any, .any, .any], []⟩) (Lb := fun s_1 place_1 => ⟨[.is ((eL false (eL false aI)) m_1), .is ((eD false aI) at_1), .is ((eD true aB) s_1.1), .is ((eL true (eL true (eL true aI))) s_1.2), .is (aI place_1), .any, .any], []⟩) (st0 := (have_1, found_1)) (I.r1 (E.op1 (eb := aI) (E.rdF (ea := (eL false (eL false aI))) (a := m_1) 0 (by rfl)) v_lenL)) (Sub.mask [false, false, false, false, true, true, true]) (fun s_1 => (G.name (ea := aI) 4 rfl (fun _ => rfl))) ?_
          · intro s_1 place_1
            refine N.map (lay := fun (s_2 : (List (Int × Bool)) × (List (List (List Int)))) => ⟨[.is ((eL false (eL false aI)) m_1), .is ((eD false aI) at_1), .is ((eD true aB) s_2.1), .is ((eL true (eL true (eL true aI))) s_2.2), .is (aI place_1), .any, .any], []⟩) (f := fun (s_2 : (List (Int × Bool)) × (List (List (List Int)))) => (s_2.1, s_2.2)) ?_ (fun (s_2 : (List (Int × Bool)) × (List (List (List Int)))) => (Sub.mask [false, false, false, false, true, false, false]))
            · refine N.iff (lay := fun (v : (List (Int × Bool)) × (List (List (List Int)))) => ⟨[.is ((eL false (eL false aI)) m_1), .is ((eD false aI) at_1), .is ((eD true aB) v.1), .is ((eL true (eL true (eL true aI))) v.2), .is (aI place_1), .any, .any], []⟩) (T.tst (E.op2 (E.rdF (ea := aI) (a := place_1) 4 (by rfl)) (E.rdO (ea := (eD true aB)) (a := s_1.1) 2 (by rfl)) Two.v v_ninD)) ?_ ?_
              · refine N.seq (lay := fun (group_1 : (List Int)) => ⟨[.is ((eL false (eL false aI)) m_1), .is ((eD false aI) at_1), .is ((eD true aB) s_1.1), .is ((eL true (eL true (eL true aI))) s_1.2), .is (aI place_1), .is ((eL false aI) group_1), .any], []⟩) ?_ ?_
                · exact (N.asg (lay := fun (v : (List Int)) => ⟨[.is ((eL false (eL false aI)) m_1), .is ((eD false aI) at_1), .is ((eD true aB) s_1.1), .is ((eL true (eL true (eL true aI))) s_1.2), .is (aI place_1), .is ((eL false aI) v), .any], []⟩) 5 (E.fz (E.call3 t_pieces_reached (E.rdF (ea := (eL false (eL false aI))) (a := m_1) 0 (by rfl)) Arg.v (E.rdF (ea := (eD false aI)) (a := at_1) 1 (by rfl)) Arg.v (E.rdF (ea := aI) (a := place_1) 4 (by rfl)) Arg.v Two.v Two.v Bo.v)) (by rfl) (fun _ => by rfl))
                · intro group_1
                  refine N.seq (lay := fun (have_4 : (List (Int × Bool))) => ⟨[.is ((eL false (eL false aI)) m_1), .is ((eD false aI) at_1), .is ((eD true aB) have_4), .is ((eL true (eL true (eL true aI))) s_1.2), .is (aI place_1), .is ((eL false aI) group_1), .no], []⟩) ?_ ?_
                  · refine N.clr (lay := fun (v : (List (Int × Bool))) => ⟨[.is ((eL false (eL false aI)) m_1), .is ((eD false aI) at_1), .is ((eD true aB) v), .is ((eL true (eL true (eL true aI))) s_1.2), .is (aI place_1), .is ((eL false aI) group_1), .any], []⟩) ?_ (fun _ => by rfl)
                    · refine N.forr (ea := aI) (lay := fun (have_2 : (List (Int × Bool))) => ⟨[.is ((eL false (eL false aI)) m_1), .is ((eD false aI) at_1), .is ((eD true aB) have_2), .is ((eL true (eL true (eL true aI))) s_1.2), .is (aI place_1), .is ((eL false aI) group_1), .any], []⟩) (Lb := fun have_2 one_1 => ⟨[.is ((eL false (eL false aI)) m_1), .is ((eD false aI) at_1), .is ((eD true aB) have_2), .is ((eL true (eL true (eL true aI))) s_1.2), .is (aI place_1), .is ((eL false aI) group_1), .is (aI one_1)], []⟩) (st0 := s_1.1) (I.list (ea := aI) (E.fz (E.rdF (ea := (eL false aI)) (a := group_1) 5 (by rfl)))) Sub.rfl (fun have_2 => (G.name (ea := aI) 6 rfl (fun _ => rfl))) ?_
                      · intro have_2 one_1
                        refine N.map (lay := fun (have_3 : (List (Int × Bool))) => ⟨[.is ((eL false (eL false aI)) m_1), .is ((eD false aI) at_1), .is ((eD true aB) have_3), .is ((eL true (eL true (eL true aI))) s_1.2), .is (aI place_1), .is ((eL false aI) group_1), .is (aI one_1)], []⟩) (f := fun (have_3 : (List (Int × Bool))) => have_3) ?_ (fun (have_3 : (List (Int × Bool))) => (Sub.mask [false, false, false, false, false, false, true]))
                        · exact (N.stR (R := fun x c v => ksetO x c v) (lay := fun (v : (List (Int × Bool))) => ⟨[.is ((eL false (eL false aI)) m_1), .is ((eD false aI) at_1), .is ((eD true aB) v), .is ((eL true (eL true (eL true aI))) s_1.2), .is (aI place_1), .is ((eL false aI) group_1), .is (aI one_1)], []⟩) (E.con (ea := aB) (a := true) rfl) (P.rd (ea := (eD true aB)) (M := have_2) 2 (by rfl)) (by rfl) (E.rdF (ea := aI) (a := one_1) 6 (by rfl)) (fun x c v y h => s_dctI x y h) (fun _ => by rfl))
                  · intro have_4
                    refine N.map (lay := fun (found_2 : (List (List (List Int)))) => ⟨[.is ((eL false (eL false aI)) m_1), .is ((eD false aI) at_1), .is ((eD true aB) have_4), .is ((eL true (eL true (eL true aI))) found_2), .is (aI place_1), .is ((eL false aI) group_1), .no], []⟩) (f := fun (found_2 : (List (List (List Int)))) => (have_4, found_2)) ?_ (fun (found_2 : (List (List (List Int)))) => (Sub.mask [false, false, false, false, false, true, true]))
                    · exact (N.m1R (kl := false) (R := appO) (lay := fun (v : (List (List (List Int)))) => ⟨[.is ((eL false (eL false aI)) m_1), .is ((eD false aI) at_1), .is ((eD true aB) have_4), .is ((eL true (eL true (eL true aI))) v), .is (aI place_1), .is ((eL false aI) group_1), .no], []⟩) (P.rd (ea := (eL true (eL true (eL true aI)))) (M := s_1.2) 3 (by rfl)) (by rfl) (E.lcy (eb := (eL true aI)) (Lw := ⟨[.is ((eL false (eL false aI)) m_1), .is ((eD false aI) at_1), .is ((eD true aB) have_4), .is ((eL true (eL true (eL true aI))) s_1.2), .is (aI place_1), .is ((eL false aI) group_1), .no], []⟩) (Lb := fun e_1 => ⟨[.is ((eL false (eL false aI)) m_1), .is ((eD false aI) at_1), .is ((eD true aB) have_4), .is ((eL true (eL true (eL true aI))) s_1.2), .is (aI place_1), .is ((eL false aI) group_1), .is (aI e_1)], []⟩) (Lg := fun e_1 => ⟨[.is ((eL false (eL false aI)) m_1), .is ((eD false aI) at_1), .is ((eD true aB) have_4), .is ((eL true (eL true (eL true aI))) s_1.2), .is (aI place_1), .is ((eL false aI) group_1), .is (aI e_1)], []⟩) (f := fun e_1 => ((o2 (some m_1) (some e_1) pyIx).bind (fun x => some x))) (I.list (ea := aI) (E.fz (E.rdF (ea := (eL false aI)) (a := group_1) 5 (by rfl)))) Sub.rfl (G.name (ea := aI) 6 rfl (fun _ => rfl)) (fun e_1 => (E.tkV (eb := (eL true aI)) (E.ixF (ec := (eL false aI)) (E.rdF (ea := (eL false (eL false aI))) (a := m_1) 0 (by rfl)) (E.rdF (ea := aI) (a := e_1) 6 (by rfl)) Two.v ix_l) k_list)) (fun _ => Sub.rfl) (fun _ => Sub.rfl)) (by rfl) (fun x c y h => u_app x c y h) (fun _ => by rfl))
              · exact (N.skip (v := (s_1.1, s_1.2)) Sub.rfl)
        · intro s_3
          exact (B.retI (e := (eL true (eL true (eL true aI)))) (E.mv (ea := (eL true (eL true (eL true aI)))) (a := s_3.2) 3 (by rfl)) Dr.goI)
theorem t_k11_law_cell (script_1 : (List Int)) (k_1 : Int) (r : Int) (h : q_w_cell script_1 k_1 = some r) : F_k11_law_cell [eSc script_1, aI k_1] = .ok (aI r) [] := by
  refine def_of (L := ⟨[.is (eSc script_1), .is (aI k_1)], []⟩) ⟨rfl, by decide⟩ rfl ?_ r h
  unfold f_k11_law_cell q_w_cell
  refine B.ifs (T.tst (E.op2 (ec := aB) (E.rdF (ea := aI) (a := k_1) 1 (by rfl)) (E.op1 (eb := aI) (E.rdF (ea := eSc) (a := script_1) 0 (by rfl)) v_lenS) Two.v v_lt)) ?_ ?_
  · refine B.cutR ?_
    · exact (B.retI (e := aI) (E.fz (E.ixF (ec := aI) (E.rdF (ea := eSc) (a := script_1) 0 (by rfl)) (E.rdF (ea := aI) (a := k_1) 1 (by rfl)) Two.v ix_s)) Dr.goI)
  · refine B.skip ?_
    · exact (B.retI (e := aI) (E.con (ea := aI) (a := 0) rfl) Dr.goI)
theorem t_k11_law_names (script_1 : (List Int)) (r : (List Int)) (h : q_w_names script_1 = some r) : F_k11_law_names [eSc script_1] = .ok ((eL true aI) r) [] := by
  refine def_of (L := ⟨[.is (eSc script_1), .no, .no, .no, .no, .no], []⟩) ⟨rfl, by decide⟩ rfl ?_ r h
  unfold f_k11_law_names q_w_names
  refine B.seq (lay := fun (step_1 : Int) => ⟨[.is (eSc script_1), .is (aI step_1), .no, .no, .no, .no], []⟩) ?_ ?_
  · exact (N.asg (lay := fun (v : Int) => ⟨[.is (eSc script_1), .is (aI v), .no, .no, .no, .no], []⟩) 1 (E.con (ea := aI) (a := 1) rfl) (by rfl) (fun _ => by rfl))
  · intro step_1
    refine B.seq (lay := fun (shift_1 : Int) => ⟨[.is (eSc script_1), .is (aI step_1), .is (aI shift_1), .no, .no, .no], []⟩) ?_ ?_
    · exact (N.asg (lay := fun (v : Int) => ⟨[.is (eSc script_1), .is (aI step_1), .is (aI v), .no, .no, .no], []⟩) 2 (E.con (ea := aI) (a := 0) rfl) (by rfl) (fun _ => by rfl))
    · intro shift_1
      refine B.seq (lay := fun (s_1 : Int × Int) => ⟨[.is (eSc script_1), .is (aI s_1.1), .is (aI s_1.2), .no, .no, .no], []⟩) ?_ ?_
      · refine N.iff (lay := fun (v : Int × Int) => ⟨[.is (eSc script_1), .is (aI v.1), .is (aI v.2), .no, .no, .no], []⟩) (T.tst (E.op2 (ec := aB) (E.op2 (ec := aI) (E.call2 t_k11_law_cell (E.rdF (ea := eSc) (a := script_1) 0 (by rfl)) Arg.v (E.con (ea := aI) (a := 0) rfl) Arg.v Two.v Bo.v) (E.con (ea := aI) (a := 3) rfl) Two.v v_mod) (E.con (ea := aI) (a := 0) rfl) Two.v v_gt)) ?_ ?_
        · refine N.seq (lay := fun (step_2 : Int) => ⟨[.is (eSc script_1), .is (aI step_2), .is (aI shift_1), .no, .no, .no], []⟩) ?_ ?_
          · exact (N.asg (lay := fun (v : Int) => ⟨[.is (eSc script_1), .is (aI v), .is (aI shift_1), .no, .no, .no], []⟩) 1 (E.op2 (ec := aI) (E.con (ea := aI) (a := 1) rfl) (E.op2 (ec := aI) (E.call2 t_k11_law_cell (E.rdF (ea := eSc) (a := script_1) 0 (by rfl)) Arg.v (E.con (ea := aI) (a := 1) rfl) Arg.v Two.v Bo.v) (E.op2 (ec := aI) (E.con (ea := aI) (a := 10) rfl) (E.con (ea := aI) (a := 58) rfl) Two.v v_pow) Two.v v_mod) Two.v v_add) (by rfl) (fun _ => by rfl))
          · intro step_2
            refine N.map (lay := fun (shift_2 : Int) => ⟨[.is (eSc script_1), .is (aI step_2), .is (aI shift_2), .no, .no, .no], []⟩) (f := fun (shift_2 : Int) => (step_2, shift_2)) ?_ (fun (shift_2 : Int) => Sub.rfl)
            · exact (N.asg (lay := fun (v : Int) => ⟨[.is (eSc script_1), .is (aI step_2), .is (aI v), .no, .no, .no], []⟩) 2 (E.op2 (ec := aI) (E.call2 t_k11_law_cell (E.rdF (ea := eSc) (a := script_1) 0 (by rfl)) Arg.v (E.con (ea := aI) (a := 2) rfl) Arg.v Two.v Bo.v) (E.op2 (ec := aI) (E.con (ea := aI) (a := 10) rfl) (E.con (ea := aI) (a := 58) rfl) Two.v v_pow) Two.v v_mod) (by rfl) (fun _ => by rfl))
        · exact (N.skip (v := (step_1, shift_1)) Sub.rfl)
      · intro s_1
        refine B.seq (lay := fun (stride_1 : Int) => ⟨[.is (eSc script_1), .is (aI s_1.1), .is (aI s_1.2), .is (aI stride_1), .no, .no], []⟩) ?_ ?_
        · exact (N.asg (lay := fun (v : Int) => ⟨[.is (eSc script_1), .is (aI s_1.1), .is (aI s_1.2), .is (aI v), .no, .no], []⟩) 3 (E.op2 (ec := aI) (E.con (ea := aI) (a := 1) rfl) (E.op2 (ec := aI) (E.op2 (ec := aI) (E.call2 t_k11_law_cell (E.rdF (ea := eSc) (a := script_1) 0 (by rfl)) Arg.v (E.con (ea := aI) (a := 0) rfl) Arg.v Two.v Bo.v) (E.con (ea := aI) (a := 3) rfl) Two.v v_fdiv) (E.con (ea := aI) (a := 66) rfl) Two.v v_mod) Two.v v_add) (by rfl) (fun _ => by rfl))
        · intro stride_1
          refine B.seq (lay := fun (off_1 : Int) => ⟨[.is (eSc script_1), .is (aI s_1.1), .is (aI s_1.2), .is (aI stride_1), .is (aI off_1), .no], []⟩) ?_ ?_
          · exact (N.asg (lay := fun (v : Int) => ⟨[.is (eSc script_1), .is (aI s_1.1), .is (aI s_1.2), .is (aI stride_1), .is (aI v), .no], []⟩) 4 (E.op2 (ec := aI) (E.op2 (ec := aI) (E.call2 t_k11_law_cell (E.rdF (ea := eSc) (a := script_1) 0 (by rfl)) Arg.v (E.con (ea := aI) (a := 0) rfl) Arg.v Two.v Bo.v) (E.con (ea := aI) (a := 198) rfl) Two.v v_fdiv) (E.con (ea := aI) (a := 67) rfl) Two.v v_mod) (by rfl) (fun _ => by rfl))
          · intro off_1
            exact (B.retI (e := (eL true aI)) (E.lcy (eb := aI) (Lw := ⟨[.is (eSc script_1), .is (aI s_1.1), .is (aI s_1.2), .is (aI stride_1), .is (aI off_1), .no], []⟩) (Lb := fun e_1 => ⟨[.is (eSc script_1), .is (aI s_1.1), .is (aI s_1.2), .is (aI stride_1), .is (aI off_1), .is (aI e_1)], []⟩) (Lg := fun e_1 => ⟨[.is (eSc script_1), .is (aI s_1.1), .is (aI s_1.2), .is (aI stride_1), .is (aI off_1), .is (aI e_1)], []⟩) (f := fun e_1 => (o2 (o2 (some s_1.1) (o2 (o2 (o2 (o2 (some stride_1) (some e_1) fun x y => mulO x y) (some off_1) fun x y => some (x + y)) (some (67 : Int)) fun x y => modO x y) (some (1 : Int)) fun x y => some (x + y)) fun x y => mulO x y) (some s_1.2) fun x y => some (x + y))) (I.r1 (E.con (ea := aI) (a := 66) rfl)) Sub.rfl (G.name (ea := aI) 5 rfl (fun _ => rfl)) (fun e_1 => (E.op2 (ec := aI) (E.op2 (ec := aI) (E.rdF (ea := aI) (a := s_1.1) 1 (by rfl)) (E.op2 (ec := aI) (E.op2 (ec := aI) (E.op2 (ec := aI) (E.op2 (ec := aI) (E.rdF (ea := aI) (a := stride_1) 3 (by rfl)) (E.rdF (ea := aI) (a := e_1) 5 (by rfl)) Two.v v_mul) (E.rdF (ea := aI) (a := off_1) 4 (by rfl)) Two.v v_add) (E.con (ea := aI) (a := 67) rfl) Two.v v_mod) (E.con (ea := aI) (a := 1) rfl) Two.v v_add) Two.v v_mul) (E.rdF (ea := aI) (a := s_1.2) 2 (by rfl)) Two.v v_add)) (fun _ => Sub.rfl) (fun _ => Sub.rfl)) Dr.goI)
theorem t_k11_law_parts (cells_1 : (List Int)) (names_here_1 : (List Int)) (r : (List (List (List Int)))) (h : q_w_parts cells_1 names_here_1 = some r) : F_k11_law_parts [(eL false aI) cells_1, (eL false aI) names_here_1] = .ok ((eL true (eL true (eL true aI))) r) [] := by
  refine def_of (L := ⟨[.is ((eL false aI) cells_1), .is ((eL false aI) names_here_1), .no, .no, .no, .no, .no, .no, .no, .no], []⟩) ⟨rfl, by decide⟩ rfl ?_ r h
  unfold f_k11_law_parts q_w_parts
  refine B.seq (lay := fun (parts_here_1 : (List (List (List Int)))) => ⟨[.is ((eL false aI) cells_1), .is ((eL false aI) names_here_1), .is ((eL true (eL true (eL true aI))) parts_here_1), .no, .no, .no, .no, .no, .no, .no], []⟩) ?_ ?_
  · exact (N.asg (lay := fun (v : (List (List (List Int)))) => ⟨[.is ((eL false aI) cells_1), .is ((eL false aI) names_here_1), .is ((eL true (eL true (eL true aI))) v), .no, .no, .no, .no, .no, .no, .no], []⟩) 2 (E.lst1 (E.lst1 (E.nil (ea := aI)))) (by rfl) (fun _ => by rfl))
  · intro parts_here_1
    refine B.seq (lay := fun (trail_1 : (List Int)) => ⟨[.is ((eL false aI) cells_1), .is ((eL false aI) names_here_1), .is ((eL true (eL true (eL true aI))) parts_here_1), .is ((eL true aI) trail_1), .no, .no, .no, .no, .no, .no], []⟩) ?_ ?_
    · exact (N.asg (lay := fun (v : (List Int)) => ⟨[.is ((eL false aI) cells_1), .is ((eL false aI) names_here_1), .is ((eL true (eL true (eL true aI))) parts_here_1), .is ((eL true aI) v), .no, .no, .no, .no, .no, .no], []⟩) 3 (E.lst1 (E.con (ea := aI) (a := 0) rfl)) (by rfl) (fun _ => by rfl))
    · intro trail_1
      refine B.seq (lay := fun (left_1 : (List Int)) => ⟨[.is ((eL false aI) cells_1), .is ((eL false aI) names_here_1), .is ((eL true (eL true (eL true aI))) parts_here_1), .is ((eL true aI) trail_1), .is ((eL true aI) left_1), .no, .no, .no, .no, .no], []⟩) ?_ ?_
      · exact (N.asg (lay := fun (v : (List Int)) => ⟨[.is ((eL false aI) cells_1), .is ((eL false aI) names_here_1), .is ((eL true (eL true (eL true aI))) parts_here_1), .is ((eL true aI) trail_1), .is ((eL true aI) v), .no, .no, .no, .no, .no], []⟩) 4 (E.nil (ea := aI)) (by rfl) (fun _ => by rfl))
      · intro left_1
        refine B.seq (lay := fun (used_1 : Int) => ⟨[.is ((eL false aI) cells_1), .is ((eL false aI) names_here_1), .is ((eL true (eL true (eL true aI))) parts_here_1), .is ((eL true aI) trail_1), .is ((eL true aI) left_1), .is (aI used_1), .no, .no, .no, .no], []⟩) ?_ ?_
        · exact (N.asg (lay := fun (v : Int) => ⟨[.is ((eL false aI) cells_1), .is ((eL false aI) names_here_1), .is ((eL true (eL true (eL true aI))) parts_here_1), .is ((eL true aI) trail_1), .is ((eL true aI) left_1), .is (aI v), .no, .no, .no, .no], []⟩) 5 (E.con (ea := aI) (a := 0) rfl) (by rfl) (fun _ => by rfl))
        · intro used_1
          refine B.seq (lay := fun (s_7 : (List (List (List Int))) × (List Int) × (List Int) × Int) => ⟨[.is ((eL false aI) cells_1), .is ((eL false aI) names_here_1), .is ((eL true (eL true (eL true aI))) s_7.1), .is ((eL true aI) s_7.2.1), .is ((eL true aI) s_7.2.2.1), .is (aI s_7.2.2.2), .any, .any, .any, .any], []⟩) ?_ ?_
          · refine N.forr (ea := aI) (lay := fun (s_1 : (List (List (List Int))) × (List Int) × (List Int) × Int) => ⟨[.is ((eL false aI) cells_1), .is ((eL false aI) names_here_1), .is ((eL true (eL true (eL true aI))) s_1.1), .is ((eL true aI) s_1.2.1), .is ((eL true aI) s_1.2.2.1), .is (aI s_1.2.2.2), .any, .any, .any, .any], []⟩) (Lb := fun s_1 cell_here_1 => ⟨[.is ((eL false aI) cells_1), .is ((eL false aI) names_here_1), .is ((eL true (eL true (eL true aI))) s_1.1), .is ((eL true aI) s_1.2.1), .is ((eL true aI) s_1.2.2.1), .is (aI s_1.2.2.2), .is (aI cell_here_1), .any, .any, .any], []⟩) (st0 := (parts_here_1, trail_1, left_1, used_1)) (I.list (ea := aI) (E.fz (E.rdF (ea := (eL false aI)) (a := cells_1) 0 (by rfl)))) (Sub.mask [false, false, false, false, false, false, true, true, true, true]) (fun s_1 => (G.name (ea := aI) 6 rfl (fun _ => rfl))) ?_
            · intro s_1 cell_here_1
              refine N.seq (lay := fun (way_1 : Int) => ⟨[.is ((eL false aI) cells_1), .is ((eL false aI) names_here_1), .is ((eL true (eL true (eL true aI))) s_1.1), .is ((eL true aI) s_1.2.1), .is ((eL true aI) s_1.2.2.1), .is (aI s_1.2.2.2), .is (aI cell_here_1), .is (aI way_1), .any, .any], []⟩) ?_ ?_
              · exact (N.asg (lay := fun (v : Int) => ⟨[.is ((eL false aI) cells_1), .is ((eL false aI) names_here_1), .is ((eL true (eL true (eL true aI))) s_1.1), .is ((eL true aI) s_1.2.1), .is ((eL true aI) s_1.2.2.1), .is (aI s_1.2.2.2), .is (aI cell_here_1), .is (aI v), .any, .any], []⟩) 7 (E.op2 (ec := aI) (E.rdF (ea := aI) (a := cell_here_1) 6 (by rfl)) (E.con (ea := aI) (a := 8) rfl) Two.v v_mod) (by rfl) (fun _ => by rfl))
              · intro way_1
                refine N.seq (lay := fun (here_1 : Nat × Nat) => ⟨[.is ((eL false aI) cells_1), .is ((eL false aI) names_here_1), .is ((eL true (eL true (eL true aI))) s_1.1), .is ((eL true aI) s_1.2.1), .is ((eL true aI) s_1.2.2.1), .is (aI s_1.2.2.2), .is (aI cell_here_1), .is (aI way_1), .al (.sl 2) [here_1.1, here_1.2], .any], []⟩) ?_ ?_
                · exact (N.al (lay := fun (w : Nat × Nat) => ⟨[.is ((eL false aI) cells_1), .is ((eL false aI) names_here_1), .is ((eL true (eL true (eL true aI))) s_1.1), .is ((eL true aI) s_1.2.1), .is ((eL true aI) s_1.2.2.1), .is (aI s_1.2.2.2), .is (aI cell_here_1), .is (aI way_1), .al (.sl 2) [w.1, w.2], .any], []⟩) 8 (P.ix2 (ec := (eL true aI)) (P.rd (ea := (eL true (eL true (eL true aI)))) (M := s_1.1) 2 (by rfl)) (by rfl) (E.op1 (eb := aI) (E.con (ea := aI) (a := 1) rfl) v_neg) (E.ixF (ec := aI) (E.rdO (ea := (eL true aI)) (a := s_1.2.1) 3 (by rfl)) (E.op1 (eb := aI) (E.con (ea := aI) (a := 1) rfl) v_neg) Two.s ix_l)) (by decide) (by rfl) (fun _ => by rfl))
                · intro here_1
                  refine N.seq (lay := fun (end_1 : Int) => ⟨[.is ((eL false aI) cells_1), .is ((eL false aI) names_here_1), .is ((eL true (eL true (eL true aI))) s_1.1), .is ((eL true aI) s_1.2.1), .is ((eL true aI) s_1.2.2.1), .is (aI s_1.2.2.2), .is (aI cell_here_1), .is (aI way_1), .al (.sl 2) [here_1.1, here_1.2], .is (aI end_1)], []⟩) ?_ ?_
                  · exact (N.asg (lay := fun (v : Int) => ⟨[.is ((eL false aI) cells_1), .is ((eL false aI) names_here_1), .is ((eL true (eL true (eL true aI))) s_1.1), .is ((eL true aI) s_1.2.1), .is ((eL true aI) s_1.2.2.1), .is (aI s_1.2.2.2), .is (aI cell_here_1), .is (aI way_1), .al (.sl 2) [here_1.1, here_1.2], .is (aI v)], []⟩) 9 (E.ixF (ec := aI) (E.rdF (ea := (eL false aI)) (a := names_here_1) 1 (by rfl)) (E.rdF (ea := aI) (a := s_1.2.2.2) 5 (by rfl)) Two.v ix_l) (by rfl) (fun _ => by rfl))
                  · intro end_1
                    refine N.seq (lay := fun (end_3 : Int) => ⟨[.is ((eL false aI) cells_1), .is ((eL false aI) names_here_1), .is ((eL true (eL true (eL true aI))) s_1.1), .is ((eL true aI) s_1.2.1), .is ((eL true aI) s_1.2.2.1), .is (aI s_1.2.2.2), .is (aI cell_here_1), .is (aI way_1), .al (.sl 2) [here_1.1, here_1.2], .is (aI end_3)], []⟩) ?_ ?_
                    · refine N.iff (lay := fun (v : Int) => ⟨[.is ((eL false aI) cells_1), .is ((eL false aI) names_here_1), .is ((eL true (eL true (eL true aI))) s_1.1), .is ((eL true aI) s_1.2.1), .is ((eL true aI) s_1.2.2.1), .is (aI s_1.2.2.2), .is (aI cell_here_1), .is (aI way_1), .al (.sl 2) [here_1.1, here_1.2], .is (aI v)], []⟩) (T.tst (E.op2 (E.op2 (ec := aI) (E.op2 (ec := aI) (E.rdF (ea := aI) (a := cell_here_1) 6 (by rfl)) (E.con (ea := aI) (a := 8) rfl) Two.v v_fdiv) (E.con (ea := aI) (a := 2) rfl) Two.v v_mod) (E.con (ea := aI) (a := 1) rfl) Two.v (fun x y c h => v_eq (e := aI) (e' := aI) (x := x) (y := y) (c := c) (h := h)))) ?_ ?_
                      · exact (N.asg (lay := fun (v : Int) => ⟨[.is ((eL false aI) cells_1), .is ((eL false aI) names_here_1), .is ((eL true (eL true (eL true aI))) s_1.1), .is ((eL true aI) s_1.2.1), .is ((eL true aI) s_1.2.2.1), .is (aI s_1.2.2.2), .is (aI cell_here_1), .is (aI way_1), .al (.sl 2) [here_1.1, here_1.2], .is (aI v)], []⟩) 9 (E.op1 (eb := aI) (E.rdF (ea := aI) (a := end_1) 9 (by rfl)) v_neg) (by rfl) (fun _ => by rfl))
                      · exact (N.skip (v := end_1) Sub.rfl)
                    · intro end_3
                      refine N.map (lay := fun (s_6 : (List (List (List Int))) × (List Int) × (List Int) × Int) => ⟨[.is ((eL false aI) cells_1), .is ((eL false aI) names_here_1), .is ((eL true (eL true (eL true aI))) s_6.1), .is ((eL true aI) s_6.2.1), .is ((eL true aI) s_6.2.2.1), .is (aI s_6.2.2.2), .is (aI cell_here_1), .is (aI way_1), .al (.sl 2) [here_1.1, here_1.2], .is (aI end_3)], []⟩) (f := fun (s_6 : (List (List (List Int))) × (List Int) × (List Int) × Int) => (s_6.1, s_6.2.1, s_6.2.2.1, s_6.2.2.2)) ?_ (fun (s_6 : (List (List (List Int))) × (List Int) × (List Int) × Int) => (Sub.mask [false, false, false, false, false, false, true, true, true, true]))
                      · refine N.iff (lay := fun (v : (List (List (List Int))) × (List Int) × (List Int) × Int) => ⟨[.is ((eL false aI) cells_1), .is ((eL false aI) names_here_1), .is ((eL true (eL true (eL true aI))) v.1), .is ((eL true aI) v.2.1), .is ((eL true aI) v.2.2.1), .is (aI v.2.2.2), .is (aI cell_here_1), .is (aI way_1), .al (.sl 2) [here_1.1, here_1.2], .is (aI end_3)], []⟩) (T.tst (E.op2 (ec := aB) (E.rdF (ea := aI) (a := way_1) 7 (by rfl)) (E.con (ea := aI) (a := 4) rfl) Two.v v_lt)) ?_ ?_
                        · refine N.seq (lay := fun (parts_here_2 : (List (List (List Int)))) => ⟨[.is ((eL false aI) cells_1), .is ((eL false aI) names_here_1), .is ((eL true (eL true (eL true aI))) parts_here_2), .is ((eL true aI) s_1.2.1), .is ((eL true aI) s_1.2.2.1), .is (aI s_1.2.2.2), .is (aI cell_here_1), .is (aI way_1), .al (.sl 2) [here_1.1, here_1.2], .is (aI end_3)], []⟩) ?_ ?_
                          · exact (N.m1 (M := s_1.1) (e0 := (eL true (eL true (eL true aI)))) (o := ((s_1.1[here_1.1]?.bind fun x => x[here_1.2]?).map fun _ => ())) (p := fun (w : Unit) => [here_1.1, here_1.2]) (gt := fun (w : Unit) N => (N[here_1.1]?.bind fun x => x[here_1.2]?)) (up := fun (w : Unit) N y => (N.modify here_1.1 fun x => x.set here_1.2 y)) (n := 2) (kl := false) (R := appO) (lay := fun (v : (List (List (List Int)))) => ⟨[.is ((eL false aI) cells_1), .is ((eL false aI) names_here_1), .is ((eL true (eL true (eL true aI))) v), .is ((eL true aI) s_1.2.1), .is ((eL true aI) s_1.2.2.1), .is (aI s_1.2.2.2), .is (aI cell_here_1), .is (aI way_1), .al (.sl 2) [here_1.1, here_1.2], .is (aI end_3)], []⟩) (P.al (ea := (eL true (eL true (eL true aI)))) (M := s_1.1) 8 (by rfl) (by rfl) (Ln.two (e := (eL true aI)) here_1.1 here_1.2) (by rfl)) (E.fz (E.rdF (ea := aI) (a := end_3) 9 (by rfl))) (by rfl) (fun x c y h => u_app x c y h) (fun _ => by rfl))
                          · intro parts_here_2
                            refine N.seq (lay := fun (used_2 : Int) => ⟨[.is ((eL false aI) cells_1), .is ((eL false aI) names_here_1), .is ((eL true (eL true (eL true aI))) parts_here_2), .is ((eL true aI) s_1.2.1), .is ((eL true aI) s_1.2.2.1), .is (aI used_2), .is (aI cell_here_1), .is (aI way_1), .al (.sl 2) [here_1.1, here_1.2], .is (aI end_3)], []⟩) ?_ ?_
                            · exact (N.asg (lay := fun (v : Int) => ⟨[.is ((eL false aI) cells_1), .is ((eL false aI) names_here_1), .is ((eL true (eL true (eL true aI))) parts_here_2), .is ((eL true aI) s_1.2.1), .is ((eL true aI) s_1.2.2.1), .is (aI v), .is (aI cell_here_1), .is (aI way_1), .al (.sl 2) [here_1.1, here_1.2], .is (aI end_3)], []⟩) 5 (E.op2 (ec := aI) (E.rdF (ea := aI) (a := s_1.2.2.2) 5 (by rfl)) (E.con (ea := aI) (a := 1) rfl) Two.v v_add) (by rfl) (fun _ => by rfl))
                            · intro used_2
                              refine N.map (lay := fun (s_2 : (List (List (List Int))) × (List Int) × (List Int)) => ⟨[.is ((eL false aI) cells_1), .is ((eL false aI) names_here_1), .is ((eL true (eL true (eL true aI))) s_2.1), .is ((eL true aI) s_2.2.1), .is ((eL true aI) s_2.2.2), .is (aI used_2), .is (aI cell_here_1), .is (aI way_1), .al (.sl 2) [here_1.1, here_1.2], .is (aI end_3)], []⟩) (f := fun (s_2 : (List (List (List Int))) × (List Int) × (List Int)) => (s_2.1, s_2.2.1, s_2.2.2, used_2)) ?_ (fun (s_2 : (List (List (List Int))) × (List Int) × (List Int)) => Sub.rfl)
                              · refine N.iff (lay := fun (v : (List (List (List Int))) × (List Int) × (List Int)) => ⟨[.is ((eL false aI) cells_1), .is ((eL false aI) names_here_1), .is ((eL true (eL true (eL true aI))) v.1), .is ((eL true aI) v.2.1), .is ((eL true aI) v.2.2), .is (aI used_2), .is (aI cell_here_1), .is (aI way_1), .al (.sl 2) [here_1.1, here_1.2], .is (aI end_3)], []⟩) (T.tst (E.op2 (ec := aB) (E.rdF (ea := aI) (a := way_1) 7 (by rfl)) (E.con (ea := aI) (a := 2) rfl) Two.v v_lt)) ?_ ?_
                                · refine N.map (lay := fun (left_2 : (List Int)) => ⟨[.is ((eL false aI) cells_1), .is ((eL false aI) names_here_1), .is ((eL true (eL true (eL true aI))) parts_here_2), .is ((eL true aI) s_1.2.1), .is ((eL true aI) left_2), .is (aI used_2), .is (aI cell_here_1), .is (aI way_1), .al (.sl 2) [here_1.1, here_1.2], .is (aI end_3)], []⟩) (f := fun (left_2 : (List Int)) => (parts_here_2, s_1.2.1, left_2)) ?_ (fun (left_2 : (List Int)) => Sub.rfl)
                                  · exact (N.m1R (kl := false) (R := appO) (lay := fun (v : (List Int)) => ⟨[.is ((eL false aI) cells_1), .is ((eL false aI) names_here_1), .is ((eL true (eL true (eL true aI))) parts_here_2), .is ((eL true aI) s_1.2.1), .is ((eL true aI) v), .is (aI used_2), .is (aI cell_here_1), .is (aI way_1), .al (.sl 2) [here_1.1, here_1.2], .is (aI end_3)], []⟩) (P.rd (ea := (eL true aI)) (M := s_1.2.2.1) 4 (by rfl)) (by rfl) (E.op1 (eb := aI) (E.rdF (ea := aI) (a := end_3) 9 (by rfl)) v_neg) (by rfl) (fun x c y h => u_app x c y h) (fun _ => by rfl))
                                · refine N.seq (lay := fun (trail_2 : (List Int)) => ⟨[.is ((eL false aI) cells_1), .is ((eL false aI) names_here_1), .is ((eL true (eL true (eL true aI))) parts_here_2), .is ((eL true aI) trail_2), .is ((eL true aI) s_1.2.2.1), .is (aI used_2), .is (aI cell_here_1), .is (aI way_1), .al (.sl 2) [here_1.1, here_1.2], .is (aI end_3)], []⟩) ?_ ?_
                                  · exact (N.m1R (kl := false) (R := appO) (lay := fun (v : (List Int)) => ⟨[.is ((eL false aI) cells_1), .is ((eL false aI) names_here_1), .is ((eL true (eL true (eL true aI))) parts_here_2), .is ((eL true aI) v), .is ((eL true aI) s_1.2.2.1), .is (aI used_2), .is (aI cell_here_1), .is (aI way_1), .al (.sl 2) [here_1.1, here_1.2], .is (aI end_3)], []⟩) (P.rd (ea := (eL true aI)) (M := s_1.2.1) 3 (by rfl)) (by rfl) (E.op1 (eb := aI) (E.ixO (ec := (eL true (eL true aI))) (E.rdO (ea := (eL true (eL true (eL true aI)))) (a := parts_here_2) 2 (by rfl)) (E.op1 (eb := aI) (E.con (ea := aI) (a := 1) rfl) v_neg) (by rfl) ix_l) v_lenL) (by rfl) (fun x c y h => u_app x c y h) (fun _ => by rfl))
                                  · intro trail_2
                                    refine N.map (lay := fun (parts_here_3 : (List (List (List Int)))) => ⟨[.is ((eL false aI) cells_1), .is ((eL false aI) names_here_1), .is ((eL true (eL true (eL true aI))) parts_here_3), .is ((eL true aI) trail_2), .is ((eL true aI) s_1.2.2.1), .is (aI used_2), .is (aI cell_here_1), .is (aI way_1), .al (.sl 2) [here_1.1, here_1.2], .is (aI end_3)], []⟩) (f := fun (parts_here_3 : (List (List (List Int)))) => (parts_here_3, trail_2, s_1.2.2.1)) ?_ (fun (parts_here_3 : (List (List (List Int)))) => Sub.rfl)
                                    · exact (N.m1 (M := parts_here_2) (e0 := (eL true (eL true (eL true aI)))) (o := (((some (1 : Int)).bind fun x => some (-x)).bind fun b => ixN parts_here_2.length b)) (p := fun (w : Nat) => [w]) (gt := fun (w : Nat) N => N[w]?) (up := fun (w : Nat) N y => (N.set w y)) (n := 1) (kl := false) (R := appO) (lay := fun (v : (List (List (List Int)))) => ⟨[.is ((eL false aI) cells_1), .is ((eL false aI) names_here_1), .is ((eL true (eL true (eL true aI))) v), .is ((eL true aI) trail_2), .is ((eL true aI) s_1.2.2.1), .is (aI used_2), .is (aI cell_here_1), .is (aI way_1), .al (.sl 2) [here_1.1, here_1.2], .is (aI end_3)], []⟩) (P.ix1 (ec := (eL true (eL true aI))) (P.rd (ea := (eL true (eL true (eL true aI)))) (M := parts_here_2) 2 (by rfl)) (by rfl) (E.op1 (eb := aI) (E.con (ea := aI) (a := 1) rfl) v_neg)) (E.lst1 (E.op1 (eb := aI) (E.rdF (ea := aI) (a := end_3) 9 (by rfl)) v_neg)) (by rfl) (fun x c y h => u_app x c y h) (fun _ => by rfl))
                        · refine N.map (lay := fun (s_5 : (List (List (List Int))) × (List Int) × (List Int)) => ⟨[.is ((eL false aI) cells_1), .is ((eL false aI) names_here_1), .is ((eL true (eL true (eL true aI))) s_5.1), .is ((eL true aI) s_5.2.1), .is ((eL true aI) s_5.2.2), .is (aI s_1.2.2.2), .is (aI cell_here_1), .is (aI way_1), .al (.sl 2) [here_1.1, here_1.2], .is (aI end_3)], []⟩) (f := fun (s_5 : (List (List (List Int))) × (List Int) × (List Int)) => (s_5.1, s_5.2.1, s_5.2.2, s_1.2.2.2)) ?_ (fun (s_5 : (List (List (List Int))) × (List Int) × (List Int)) => Sub.rfl)
                          · refine N.iff (lay := fun (v : (List (List (List Int))) × (List Int) × (List Int)) => ⟨[.is ((eL false aI) cells_1), .is ((eL false aI) names_here_1), .is ((eL true (eL true (eL true aI))) v.1), .is ((eL true aI) v.2.1), .is ((eL true aI) v.2.2), .is (aI s_1.2.2.2), .is (aI cell_here_1), .is (aI way_1), .al (.sl 2) [here_1.1, here_1.2], .is (aI end_3)], []⟩) (T.tst (E.op2 (ec := aB) (E.rdF (ea := aI) (a := way_1) 7 (by rfl)) (E.con (ea := aI) (a := 6) rfl) Two.v v_lt)) ?_ ?_
                            · refine N.map (lay := fun (s_3 : (List (List (List Int))) × (List Int)) => ⟨[.is ((eL false aI) cells_1), .is ((eL false aI) names_here_1), .is ((eL true (eL true (eL true aI))) s_3.1), .is ((eL true aI) s_1.2.1), .is ((eL true aI) s_3.2), .is (aI s_1.2.2.2), .is (aI cell_here_1), .is (aI way_1), .al (.sl 2) [here_1.1, here_1.2], .is (aI end_3)], []⟩) (f := fun (s_3 : (List (List (List Int))) × (List Int)) => (s_3.1, s_1.2.1, s_3.2)) ?_ (fun (s_3 : (List (List (List Int))) × (List Int)) => Sub.rfl)
                              · refine N.iff (lay := fun (v : (List (List (List Int))) × (List Int)) => ⟨[.is ((eL false aI) cells_1), .is ((eL false aI) names_here_1), .is ((eL true (eL true (eL true aI))) v.1), .is ((eL true aI) s_1.2.1), .is ((eL true aI) v.2), .is (aI s_1.2.2.2), .is (aI cell_here_1), .is (aI way_1), .al (.sl 2) [here_1.1, here_1.2], .is (aI end_3)], []⟩) (T.tru (E.rdO (ea := (eL true aI)) (a := s_1.2.2.1) 4 (by rfl)) t_L) ?_ ?_
                                · refine N.map (lay := fun (p_1 : (List (List (List Int))) × Int × (List Int)) => ⟨[.is ((eL false aI) cells_1), .is ((eL false aI) names_here_1), .is ((eL true (eL true (eL true aI))) p_1.1), .is ((eL true aI) s_1.2.1), .is ((eL true aI) p_1.2.2), .is (aI s_1.2.2.2), .is (aI cell_here_1), .is (aI way_1), .al (.sl 2) [here_1.1, here_1.2], .is (aI end_3)], []⟩) (f := fun (p_1 : (List (List (List Int))) × Int × (List Int)) => (p_1.1, p_1.2.2)) ?_ (fun (p_1 : (List (List (List Int))) × Int × (List Int)) => Sub.rfl)
                                  · exact (N.m1Y (M := s_1.1) (e0 := (eL true (eL true (eL true aI)))) (o := ((s_1.1[here_1.1]?.bind fun x => x[here_1.2]?).map fun _ => ())) (p := fun (w : Unit) => [here_1.1, here_1.2]) (gt := fun (w : Unit) N => (N[here_1.1]?.bind fun x => x[here_1.2]?)) (up := fun (w : Unit) N y => (N.modify here_1.1 fun x => x.set here_1.2 y)) (n := 2) (kl := false) (R := fun x (c : Int × (List Int)) => appO x c.1) (layx := fun (v : Int × (List Int)) => ⟨[.is ((eL false aI) cells_1), .is ((eL false aI) names_here_1), .is ((eL true (eL true (eL true aI))) s_1.1), .is ((eL true aI) s_1.2.1), .is ((eL true aI) v.2), .is (aI s_1.2.2.2), .is (aI cell_here_1), .is (aI way_1), .al (.sl 2) [here_1.1, here_1.2], .is (aI end_3)], []⟩) (lay := fun (v : (List (List (List Int))) × Int × (List Int)) => ⟨[.is ((eL false aI) cells_1), .is ((eL false aI) names_here_1), .is ((eL true (eL true (eL true aI))) v.1), .is ((eL true aI) s_1.2.1), .is ((eL true aI) v.2.2), .is (aI s_1.2.2.2), .is (aI cell_here_1), .is (aI way_1), .al (.sl 2) [here_1.1, here_1.2], .is (aI end_3)], []⟩) (P.al (ea := (eL true (eL true (eL true aI)))) (M := s_1.1) 8 (by rfl) (by rfl) (Ln.two (e := (eL true aI)) here_1.1 here_1.2) (by rfl)) (Y.popAtR (lay := fun (v : Int × (List Int)) => ⟨[.is ((eL false aI) cells_1), .is ((eL false aI) names_here_1), .is ((eL true (eL true (eL true aI))) s_1.1), .is ((eL true aI) s_1.2.1), .is ((eL true aI) v.2), .is (aI s_1.2.2.2), .is (aI cell_here_1), .is (aI way_1), .al (.sl 2) [here_1.1, here_1.2], .is (aI end_3)], []⟩) (eb := aI) (P.rd (ea := (eL true aI)) (M := s_1.2.2.1) 4 (by rfl)) (by rfl) (E.op2 (ec := aI) (E.op2 (ec := aI) (E.rdF (ea := aI) (a := cell_here_1) 6 (by rfl)) (E.con (ea := aI) (a := 16) rfl) Two.v v_fdiv) (E.op1 (eb := aI) (E.rdO (ea := (eL true aI)) (a := s_1.2.2.1) 4 (by rfl)) v_lenL) Two.v v_mod) (fun _ => by rfl)) (by decide) (fun _ => by rfl) (fun x c y h => u_app x (c.1, ()) y h) (fun _ => by rfl))
                                · exact (N.skip (v := (s_1.1, s_1.2.2.1)) Sub.rfl)
                            · refine N.map (lay := fun (s_4 : (List (List (List Int))) × (List Int) × (List Int)) => ⟨[.is ((eL false aI) cells_1), .is ((eL false aI) names_here_1), .is ((eL true (eL true (eL true aI))) s_4.1), .is ((eL true aI) s_4.2.1), .is ((eL true aI) s_4.2.2), .is (aI s_1.2.2.2), .is (aI cell_here_1), .is (aI way_1), .al (.sl 2) [here_1.1, here_1.2], .is (aI end_3)], []⟩) (f := fun (s_4 : (List (List (List Int))) × (List Int) × (List Int)) => (s_4.1, s_4.2.1, s_4.2.2)) ?_ (fun (s_4 : (List (List (List Int))) × (List Int) × (List Int)) => Sub.rfl)
                              · refine N.iff (lay := fun (v : (List (List (List Int))) × (List Int) × (List Int)) => ⟨[.is ((eL false aI) cells_1), .is ((eL false aI) names_here_1), .is ((eL true (eL true (eL true aI))) v.1), .is ((eL true aI) v.2.1), .is ((eL true aI) v.2.2), .is (aI s_1.2.2.2), .is (aI cell_here_1), .is (aI way_1), .al (.sl 2) [here_1.1, here_1.2], .is (aI end_3)], []⟩) (T.tst (E.op2 (E.rdF (ea := aI) (a := way_1) 7 (by rfl)) (E.con (ea := aI) (a := 6) rfl) Two.v (fun x y c h => v_eq (e := aI) (e' := aI) (x := x) (y := y) (c := c) (h := h)))) ?_ ?_
                                · refine N.map (lay := fun (trail_4 : (List Int)) => ⟨[.is ((eL false aI) cells_1), .is ((eL false aI) names_here_1), .is ((eL true (eL true (eL true aI))) s_1.1), .is ((eL true aI) trail_4), .is ((eL true aI) s_1.2.2.1), .is (aI s_1.2.2.2), .is (aI cell_here_1), .is (aI way_1), .al (.sl 2) [here_1.1, here_1.2], .is (aI end_3)], []⟩) (f := fun (trail_4 : (List Int)) => (s_1.1, trail_4, s_1.2.2.1)) ?_ (fun (trail_4 : (List Int)) => Sub.rfl)
                                  · refine N.iff (lay := fun (v : (List Int)) => ⟨[.is ((eL false aI) cells_1), .is ((eL false aI) names_here_1), .is ((eL true (eL true (eL true aI))) s_1.1), .is ((eL true aI) v), .is ((eL true aI) s_1.2.2.1), .is (aI s_1.2.2.2), .is (aI cell_here_1), .is (aI way_1), .al (.sl 2) [here_1.1, here_1.2], .is (aI end_3)], []⟩) (T.tst (E.op2 (ec := aB) (E.op1 (eb := aI) (E.rdO (ea := (eL true aI)) (a := s_1.2.1) 3 (by rfl)) v_lenL) (E.con (ea := aI) (a := 1) rfl) Two.v v_gt)) ?_ ?_
                                    · exact (N.m0R (kl := true) (R := fun x => (popO x).map Prod.snd) (lay := fun (v : (List Int)) => ⟨[.is ((eL false aI) cells_1), .is ((eL false aI) names_here_1), .is ((eL true (eL true (eL true aI))) s_1.1), .is ((eL true aI) v), .is ((eL true aI) s_1.2.2.1), .is (aI s_1.2.2.2), .is (aI cell_here_1), .is (aI way_1), .al (.sl 2) [here_1.1, here_1.2], .is (aI end_3)], []⟩) (P.rd (ea := (eL true aI)) (M := s_1.2.1) 3 (by rfl)) (by rfl) (fun x c y h => u_pop x c y h) (fun _ => by rfl))
                                    · exact (N.skip (v := s_1.2.1) Sub.rfl)
                                · refine N.seq (lay := fun (parts_here_4 : (List (List (List Int)))) => ⟨[.is ((eL false aI) cells_1), .is ((eL false aI) names_here_1), .is ((eL true (eL true (eL true aI))) parts_here_4), .is ((eL true aI) s_1.2.1), .is ((eL false aI) s_1.2.2.1), .is (aI s_1.2.2.2), .is (aI cell_here_1), .is (aI way_1), .al (.sl 2) [here_1.1, here_1.2], .is (aI end_3)], []⟩) ?_ ?_
                                  · exact (N.m1 (M := s_1.1) (e0 := (eL true (eL true (eL true aI)))) (o := ((s_1.1[here_1.1]?.bind fun x => x[here_1.2]?).map fun _ => ())) (p := fun (w : Unit) => [here_1.1, here_1.2]) (gt := fun (w : Unit) N => (N[here_1.1]?.bind fun x => x[here_1.2]?)) (up := fun (w : Unit) N y => (N.modify here_1.1 fun x => x.set here_1.2 y)) (n := 2) (kl := false) (R := catO) (lay := fun (v : (List (List (List Int)))) => ⟨[.is ((eL false aI) cells_1), .is ((eL false aI) names_here_1), .is ((eL true (eL true (eL true aI))) v), .is ((eL true aI) s_1.2.1), .is ((eL false aI) s_1.2.2.1), .is (aI s_1.2.2.2), .is (aI cell_here_1), .is (aI way_1), .al (.sl 2) [here_1.1, here_1.2], .is (aI end_3)], []⟩) (P.al (ea := (eL true (eL true (eL true aI)))) (M := s_1.1) 8 (by rfl) (by rfl) (Ln.two (e := (eL true aI)) here_1.1 here_1.2) (by rfl)) (E.fzR (ea := (eL true aI)) (a := s_1.2.2.1) 4 (by rfl)) (by rfl) (fun x c y h => u_ext x c y h) (fun _ => by rfl))
                                  · intro parts_here_4
                                    refine N.seq (lay := fun (left_3 : (List Int)) => ⟨[.is ((eL false aI) cells_1), .is ((eL false aI) names_here_1), .is ((eL true (eL true (eL true aI))) parts_here_4), .is ((eL true aI) s_1.2.1), .is ((eL true aI) left_3), .is (aI s_1.2.2.2), .is (aI cell_here_1), .is (aI way_1), .al (.sl 2) [here_1.1, here_1.2], .is (aI end_3)], []⟩) ?_ ?_
                                    · exact (N.asg (lay := fun (v : (List Int)) => ⟨[.is ((eL false aI) cells_1), .is ((eL false aI) names_here_1), .is ((eL true (eL true (eL true aI))) parts_here_4), .is ((eL true aI) s_1.2.1), .is ((eL true aI) v), .is (aI s_1.2.2.2), .is (aI cell_here_1), .is (aI way_1), .al (.sl 2) [here_1.1, here_1.2], .is (aI end_3)], []⟩) 4 (E.nil (ea := aI)) (by rfl) (fun _ => by rfl))
                                    · intro left_3
                                      refine N.seq (lay := fun (parts_here_5 : (List (List (List Int)))) => ⟨[.is ((eL false aI) cells_1), .is ((eL false aI) names_here_1), .is ((eL true (eL true (eL true aI))) parts_here_5), .is ((eL true aI) s_1.2.1), .is ((eL true aI) left_3), .is (aI s_1.2.2.2), .is (aI cell_here_1), .is (aI way_1), .al (.sl 2) [here_1.1, here_1.2], .is (aI end_3)], []⟩) ?_ ?_
                                      · exact (N.m1R (kl := false) (R := appO) (lay := fun (v : (List (List (List Int)))) => ⟨[.is ((eL false aI) cells_1), .is ((eL false aI) names_here_1), .is ((eL true (eL true (eL true aI))) v), .is ((eL true aI) s_1.2.1), .is ((eL true aI) left_3), .is (aI s_1.2.2.2), .is (aI cell_here_1), .is (aI way_1), .al (.sl 2) [here_1.1, here_1.2], .is (aI end_3)], []⟩) (P.rd (ea := (eL true (eL true (eL true aI)))) (M := parts_here_4) 2 (by rfl)) (by rfl) (E.lst1 (E.nil (ea := aI))) (by rfl) (fun x c y h => u_app x c y h) (fun _ => by rfl))
                                      · intro parts_here_5
                                        refine N.map (lay := fun (trail_5 : (List Int)) => ⟨[.is ((eL false aI) cells_1), .is ((eL false aI) names_here_1), .is ((eL true (eL true (eL true aI))) parts_here_5), .is ((eL true aI) trail_5), .is ((eL true aI) left_3), .is (aI s_1.2.2.2), .is (aI cell_here_1), .is (aI way_1), .al (.sl 2) [here_1.1, here_1.2], .is (aI end_3)], []⟩) (f := fun (trail_5 : (List Int)) => (parts_here_5, trail_5, left_3)) ?_ (fun (trail_5 : (List Int)) => Sub.rfl)
                                        · exact (N.asg (lay := fun (v : (List Int)) => ⟨[.is ((eL false aI) cells_1), .is ((eL false aI) names_here_1), .is ((eL true (eL true (eL true aI))) parts_here_5), .is ((eL true aI) v), .is ((eL true aI) left_3), .is (aI s_1.2.2.2), .is (aI cell_here_1), .is (aI way_1), .al (.sl 2) [here_1.1, here_1.2], .is (aI end_3)], []⟩) 3 (E.lst1 (E.con (ea := aI) (a := 0) rfl)) (by rfl) (fun _ => by rfl))
          · intro s_7
            refine B.seq (lay := fun (parts_here_6 : (List (List (List Int)))) => ⟨[.is ((eL false aI) cells_1), .is ((eL false aI) names_here_1), .is ((eL true (eL true (eL true aI))) parts_here_6), .is ((eL true aI) s_7.2.1), .is ((eL false aI) s_7.2.2.1), .is (aI s_7.2.2.2), .any, .any, .any, .any], []⟩) ?_ ?_
            · exact (N.m1 (M := s_7.1) (e0 := (eL true (eL true (eL true aI)))) (o := (o2 ((some (1 : Int)).bind fun x => some (-x)) (o2 (some s_7.2.1) ((some (1 : Int)).bind fun x => some (-x)) pyIx) fun b c => (ixN s_7.1.length b).bind fun j => s_7.1[j]?.bind fun x => (ixN x.length c).bind fun k => some (j, k))) (p := fun (w : Nat × Nat) => [w.1, w.2]) (gt := fun (w : Nat × Nat) N => (N[w.1]?.bind fun x => x[w.2]?)) (up := fun (w : Nat × Nat) N y => (N.modify w.1 fun x => x.set w.2 y)) (n := 2) (kl := false) (R := catO) (lay := fun (v : (List (List (List Int)))) => ⟨[.is ((eL false aI) cells_1), .is ((eL false aI) names_here_1), .is ((eL true (eL true (eL true aI))) v), .is ((eL true aI) s_7.2.1), .is ((eL false aI) s_7.2.2.1), .is (aI s_7.2.2.2), .any, .any, .any, .any], []⟩) (P.ix2 (ec := (eL true aI)) (P.rd (ea := (eL true (eL true (eL true aI)))) (M := s_7.1) 2 (by rfl)) (by rfl) (E.op1 (eb := aI) (E.con (ea := aI) (a := 1) rfl) v_neg) (E.ixF (ec := aI) (E.rdO (ea := (eL true aI)) (a := s_7.2.1) 3 (by rfl)) (E.op1 (eb := aI) (E.con (ea := aI) (a := 1) rfl) v_neg) Two.s ix_l)) (E.fzR (ea := (eL true aI)) (a := s_7.2.2.1) 4 (by rfl)) (by rfl) (fun x c y h => u_ext x c y h) (fun _ => by rfl))
            · intro parts_here_6
              exact (B.retI (e := (eL true (eL true (eL true aI)))) (E.mv (ea := (eL true (eL true (eL true aI)))) (a := parts_here_6) 2 (by rfl)) Dr.goI)
theorem t_k11_law_turn (turn_here_1 : (List Int)) (r : (List Int)) (h : q_w_turn turn_here_1 = some r) : F_k11_law_turn [(eL false aI) turn_here_1] = .ok ((eL true aI) r) [] := by
  refine def_of (L := ⟨[.is ((eL false aI) turn_here_1), .no], []⟩) ⟨rfl, by decide⟩ rfl ?_ r h
  unfold f_k11_law_turn q_w_turn
  refine B.ifs (T.not (T.tru (E.rdF (ea := (eL false aI)) (a := turn_here_1) 0 (by rfl)) t_L)) ?_ ?_
  · refine B.cutR ?_
    · exact (B.retI (e := (eL true aI)) (E.nil (ea := aI)) Dr.goI)
  · refine B.skip ?_
    · refine B.seq (lay := fun (k_1 : Int) => ⟨[.is ((eL false aI) turn_here_1), .is (aI k_1)], []⟩) ?_ ?_
      · exact (N.asg (lay := fun (v : Int) => ⟨[.is ((eL false aI) turn_here_1), .is (aI v)], []⟩) 1 (E.fz (E.op2 (ec := aI) (E.chk (E.rdF (ea := (eL false aI)) (a := turn_here_1) 0 (by rfl)) c_isL) (E.op1 (eb := aI) (E.rdF (ea := (eL false aI)) (a := turn_here_1) 0 (by rfl)) v_minL) Two.v v_idx)) (by rfl) (fun _ => by rfl))
      · intro k_1
        exact (B.retI (e := (eL true aI)) (E.op2 (ec := (eL true aI)) (E.op2 (ec := (eL true aI)) (E.rdF (ea := (eL false aI)) (a := turn_here_1) 0 (by rfl)) (E.rdF (ea := aI) (a := k_1) 1 (by rfl)) Two.v v_slL) (E.op2 (ec := (eL true aI)) (E.rdF (ea := (eL false aI)) (a := turn_here_1) 0 (by rfl)) (E.rdF (ea := aI) (a := k_1) 1 (by rfl)) Two.v v_slU) Two.v v_cat) Dr.goI)
theorem t_k11_law_map (turns_1 : (List (List Int))) (r : (List (List Int))) (h : q_w_map turns_1 = some r) : F_k11_law_map [(eL false (eL false aI)) turns_1] = .ok ((eL true (eL true aI)) r) [] := by
  refine def_of (L := ⟨[.is ((eL false (eL false aI)) turns_1), .no], []⟩) ⟨rfl, by decide⟩ rfl ?_ r h
  unfold f_k11_law_map q_w_map
  exact (B.retI (e := (eL true (eL true aI))) (E.tkV (eb := (eL true (eL true aI))) (E.lcy (eb := (eL true aI)) (Lw := ⟨[.is ((eL false (eL false aI)) turns_1), .no], []⟩) (Lb := fun e_1 => ⟨[.is ((eL false (eL false aI)) turns_1), .is ((eL false aI) e_1)], []⟩) (Lg := fun e_1 => ⟨[.is ((eL false (eL false aI)) turns_1), .is ((eL false aI) e_1)], []⟩) (f := fun e_1 => ((some e_1).bind q_w_turn)) (I.list (ea := (eL false aI)) (E.fz (E.rdF (ea := (eL false (eL false aI))) (a := turns_1) 0 (by rfl)))) Sub.rfl (G.name (ea := (eL false aI)) 1 rfl (fun _ => rfl)) (fun e_1 => (E.call1 t_k11_law_turn (E.rdF (ea := (eL false aI)) (a := e_1) 1 (by rfl)) Arg.v Bo.v)) (fun _ => Sub.rfl) (fun _ => Sub.rfl)) k_sort) Dr.goI)
theorem t_k11_law_all (parts_here_1 : (List (List (List Int)))) (r : (List (List Int))) (h : q_w_all parts_here_1 = some r) : F_k11_law_all [(eL false (eL false (eL false aI))) parts_here_1] = .ok ((eL true (eL false aI)) r) [] := by
  refine def_of (L := ⟨[.is ((eL false (eL false (eL false aI))) parts_here_1), .no, .no], []⟩) ⟨rfl, by decide⟩ rfl ?_ r h
  unfold f_k11_law_all q_w_all
  refine B.seq (lay := fun (turns_1 : (List (List Int))) => ⟨[.is ((eL false (eL false (eL false aI))) parts_here_1), .is ((eL true (eL false aI)) turns_1), .no], []⟩) ?_ ?_
  · exact (N.asg (lay := fun (v : (List (List Int))) => ⟨[.is ((eL false (eL false (eL false aI))) parts_here_1), .is ((eL true (eL false aI)) v), .no], []⟩) 1 (E.nil (ea := (eL false aI))) (by rfl) (fun _ => by rfl))
  · intro turns_1
    refine B.seq (lay := fun (turns_4 : (List (List Int))) => ⟨[.is ((eL false (eL false (eL false aI))) parts_here_1), .is ((eL true (eL false aI)) turns_4), .any], []⟩) ?_ ?_
    · refine N.forr (ea := (eL false (eL false aI))) (lay := fun (turns_2 : (List (List Int))) => ⟨[.is ((eL false (eL false (eL false aI))) parts_here_1), .is ((eL true (eL false aI)) turns_2), .any], []⟩) (Lb := fun turns_2 part_1 => ⟨[.is ((eL false (eL false (eL false aI))) parts_here_1), .is ((eL true (eL false aI)) turns_2), .is ((eL false (eL false aI)) part_1)], []⟩) (st0 := turns_1) (I.list (ea := (eL false (eL false aI))) (E.fz (E.rdF (ea := (eL false (eL false (eL false aI)))) (a := parts_here_1) 0 (by rfl)))) (Sub.mask [false, false, true]) (fun turns_2 => (G.name (ea := (eL false (eL false aI))) 2 rfl (fun _ => rfl))) ?_
      · intro turns_2 part_1
        refine N.map (lay := fun (turns_3 : (List (List Int))) => ⟨[.is ((eL false (eL false (eL false aI))) parts_here_1), .is ((eL true (eL false aI)) turns_3), .is ((eL false (eL false aI)) part_1)], []⟩) (f := fun (turns_3 : (List (List Int))) => turns_3) ?_ (fun (turns_3 : (List (List Int))) => (Sub.mask [false, false, true]))
        · exact (N.m1R (kl := false) (R := catO) (lay := fun (v : (List (List Int))) => ⟨[.is ((eL false (eL false (eL false aI))) parts_here_1), .is ((eL true (eL false aI)) v), .is ((eL false (eL false aI)) part_1)], []⟩) (P.rd (ea := (eL true (eL false aI))) (M := turns_2) 1 (by rfl)) (by rfl) (E.fz (E.rdF (ea := (eL false (eL false aI))) (a := part_1) 2 (by rfl))) (by rfl) (fun x c y h => u_ext x c y h) (fun _ => by rfl))
    · intro turns_4
      exact (B.retI (e := (eL true (eL false aI))) (E.mv (ea := (eL true (eL false aI))) (a := turns_4) 1 (by rfl)) Dr.goI)
theorem t_k11_law (script_1 : (List Int)) (r : Bool) (h : q_k11_law script_1 = some r) : F_k11_law [eSc script_1] = .ok (aB r) [] := by
  refine def_of (L := ⟨[.is (eSc script_1), .no, .no, .no, .no, .no, .no, .no, .no], []⟩) ⟨rfl, by decide⟩ rfl ?_ r h
  unfold f_k11_law q_k11_law
  refine B.seq (lay := fun (parts_here_1 : (List (List (List Int)))) => ⟨[.is (eSc script_1), .is ((eL false (eL false (eL false aI))) parts_here_1), .no, .no, .no, .no, .no, .no, .no], []⟩) ?_ ?_
  · exact (N.asg (lay := fun (v : (List (List (List Int)))) => ⟨[.is (eSc script_1), .is ((eL false (eL false (eL false aI))) v), .no, .no, .no, .no, .no, .no, .no], []⟩) 1 (E.fz (E.call2 t_k11_law_parts (E.fz (E.op3 (ed := (eL true aI)) (E.rdF (ea := eSc) (a := script_1) 0 (by rfl)) (E.int (E.con (ea := aI) (a := 3) rfl)) (E.con (ea := aI) (a := 66) rfl) Two.v Two.v v_slLUs)) Arg.v (E.fz (E.call1 t_k11_law_names (E.rdF (ea := eSc) (a := script_1) 0 (by rfl)) Arg.v Bo.v)) Arg.v Two.v Bo.v)) (by rfl) (fun _ => by rfl))
  · intro parts_here_1
    refine B.seq (lay := fun (parts_here_3 : (List (List (List Int)))) => ⟨[.is (eSc script_1), .is ((eL false (eL false (eL false aI))) parts_here_3), .no, .no, .no, .no, .no, .no, .no], []⟩) ?_ ?_
    · refine N.iff (lay := fun (v : (List (List (List Int)))) => ⟨[.is (eSc script_1), .is ((eL false (eL false (eL false aI))) v), .no, .no, .no, .no, .no, .no, .no], []⟩) (T.tst (E.op2 (E.op2 (ec := aI) (E.op2 (ec := aI) (E.call2 t_k11_law_cell (E.rdF (ea := eSc) (a := script_1) 0 (by rfl)) Arg.v (E.con (ea := aI) (a := 0) rfl) Arg.v Two.v Bo.v) (E.con (ea := aI) (a := 13266) rfl) Two.v v_fdiv) (E.con (ea := aI) (a := 3) rfl) Two.v v_mod) (E.con (ea := aI) (a := 1) rfl) Two.v (fun x y c h => v_eq (e := aI) (e' := aI) (x := x) (y := y) (c := c) (h := h)))) ?_ ?_
      · exact (N.asg (lay := fun (v : (List (List (List Int)))) => ⟨[.is (eSc script_1), .is ((eL false (eL false (eL false aI))) v), .no, .no, .no, .no, .no, .no, .no], []⟩) 1 (E.fz (E.lc (eb := (eL false (eL false aI))) (Lw := ⟨[.is (eSc script_1), .is ((eL false (eL false (eL false aI))) parts_here_1), .no, .no, .no, .no, .no, .no, .no], []⟩) (Lb := fun e_1 => ⟨[.is (eSc script_1), .is ((eL false (eL false (eL false aI))) parts_here_1), .no, .no, .no, .no, .no, .is ((eL false (eL false aI)) e_1), .no], []⟩) (Lt := fun e_1 => ⟨[.is (eSc script_1), .is ((eL false (eL false (eL false aI))) parts_here_1), .no, .no, .no, .no, .no, .is ((eL false (eL false aI)) e_1), .no], []⟩) (Lg := fun e_1 => ⟨[.is (eSc script_1), .is ((eL false (eL false (eL false aI))) parts_here_1), .no, .no, .no, .no, .no, .is ((eL false (eL false aI)) e_1), .no], []⟩) (c := fun e_1 => (o2 (some e_1) ((some ([] : (List Int))).map fun x => [x]) fun x y => some (!decide (x = y)))) (f := fun e_1 => (some e_1)) (I.list (ea := (eL false (eL false aI))) (E.fz (E.rdF (ea := (eL false (eL false (eL false aI)))) (a := parts_here_1) 1 (by rfl)))) Sub.rfl (G.name (ea := (eL false (eL false aI))) 7 rfl (fun _ => rfl)) (fun e_1 => (T.tst (E.op2 (E.rdF (ea := (eL false (eL false aI))) (a := e_1) 7 (by rfl)) (E.lst1 (E.nil (ea := aI))) Two.v (fun x y c h => v_ne (e := (eL false (eL false aI))) (e' := (eL true (eL true aI))) (x := x) (y := y) (c := c) (h := h))))) (fun _ => Sub.rfl) (fun e_1 => (E.fz (E.rdF (ea := (eL false (eL false aI))) (a := e_1) 7 (by rfl)))) (fun _ => Sub.rfl))) (by rfl) (fun _ => by rfl))
      · exact (N.skip (v := parts_here_1) Sub.rfl)
    · intro parts_here_3
      refine B.seq (lay := fun (due_1 : (List (List (List Int)))) => ⟨[.is (eSc script_1), .is ((eL false (eL false (eL false aI))) parts_here_3), .is ((eL false (eL false (eL false aI))) due_1), .no, .no, .no, .no, .no, .no], []⟩) ?_ ?_
      · exact (N.asg (lay := fun (v : (List (List (List Int)))) => ⟨[.is (eSc script_1), .is ((eL false (eL false (eL false aI))) parts_here_3), .is ((eL false (eL false (eL false aI))) v), .no, .no, .no, .no, .no, .no], []⟩) 2 (E.fz (E.tkV (eb := (eL true (eL true (eL true aI)))) (E.lcy (eb := (eL true (eL true aI))) (Lw := ⟨[.is (eSc script_1), .is ((eL false (eL false (eL false aI))) parts_here_3), .no, .no, .no, .no, .no, .no, .no], []⟩) (Lb := fun e_2 => ⟨[.is (eSc script_1), .is ((eL false (eL false (eL false aI))) parts_here_3), .no, .no, .no, .no, .no, .is ((eL false (eL false aI)) e_2), .no], []⟩) (Lg := fun e_2 => ⟨[.is (eSc script_1), .is ((eL false (eL false (eL false aI))) parts_here_3), .no, .no, .no, .no, .no, .is ((eL false (eL false aI)) e_2), .no], []⟩) (f := fun e_2 => ((some e_2).bind q_w_map)) (I.list (ea := (eL false (eL false aI))) (E.fz (E.rdF (ea := (eL false (eL false (eL false aI)))) (a := parts_here_3) 1 (by rfl)))) Sub.rfl (G.name (ea := (eL false (eL false aI))) 7 rfl (fun _ => rfl)) (fun e_2 => (E.call1 t_k11_law_map (E.rdF (ea := (eL false (eL false aI))) (a := e_2) 7 (by rfl)) Arg.v Bo.v)) (fun _ => Sub.rfl) (fun _ => Sub.rfl)) k_sort)) (by rfl) (fun _ => by rfl))
      · intro due_1
        refine B.seq (lay := fun (m_1 : (List (List Int))) => ⟨[.is (eSc script_1), .is ((eL false (eL false (eL false aI))) parts_here_3), .is ((eL false (eL false (eL false aI))) due_1), .is ((eL false (eL false aI)) m_1), .no, .no, .no, .no, .no], []⟩) ?_ ?_
        · exact (N.asg (lay := fun (v : (List (List Int))) => ⟨[.is (eSc script_1), .is ((eL false (eL false (eL false aI))) parts_here_3), .is ((eL false (eL false (eL false aI))) due_1), .is ((eL false (eL false aI)) v), .no, .no, .no, .no, .no], []⟩) 3 (E.fz (E.call1 t_k11_law_map (E.fz (E.call1 t_k11_law_all (E.rdF (ea := (eL false (eL false (eL false aI)))) (a := parts_here_3) 1 (by rfl)) Arg.v Bo.v)) Arg.v Bo.v)) (by rfl) (fun _ => by rfl))
        · intro m_1
          refine B.seq (lay := fun (handed_1 : (List (List Int))) => ⟨[.is (eSc script_1), .is ((eL false (eL false (eL false aI))) parts_here_3), .is ((eL false (eL false (eL false aI))) due_1), .is ((eL false (eL false aI)) m_1), .is ((eL false (eL false aI)) handed_1), .no, .no, .no, .no], []⟩) ?_ ?_
          · exact (N.asg (lay := fun (v : (List (List Int))) => ⟨[.is (eSc script_1), .is ((eL false (eL false (eL false aI))) parts_here_3), .is ((eL false (eL false (eL false aI))) due_1), .is ((eL false (eL false aI)) m_1), .is ((eL false (eL false aI)) v), .no, .no, .no, .no], []⟩) 4 (E.fz (E.lcy (eb := (eL true aI)) (Lw := ⟨[.is (eSc script_1), .is ((eL false (eL false (eL false aI))) parts_here_3), .is ((eL false (eL false (eL false aI))) due_1), .is ((eL false (eL false aI)) m_1), .no, .no, .no, .no, .no], []⟩) (Lb := fun e_3 => ⟨[.is (eSc script_1), .is ((eL false (eL false (eL false aI))) parts_here_3), .is ((eL false (eL false (eL false aI))) due_1), .is ((eL false (eL false aI)) m_1), .no, .no, .no, .no, .is ((eL false aI) e_3)], []⟩) (Lg := fun e_3 => ⟨[.is (eSc script_1), .is ((eL false (eL false (eL false aI))) parts_here_3), .is ((eL false (eL false (eL false aI))) due_1), .is ((eL false (eL false aI)) m_1), .no, .no, .no, .no, .is ((eL false aI) e_3)], []⟩) (f := fun e_3 => ((some e_3).bind (fun x => some x))) (I.list (ea := (eL false aI)) (E.fz (E.rdF (ea := (eL false (eL false aI))) (a := m_1) 3 (by rfl)))) Sub.rfl (G.name (ea := (eL false aI)) 8 rfl (fun _ => rfl)) (fun e_3 => (E.tkV (eb := (eL true aI)) (E.rdF (ea := (eL false aI)) (a := e_3) 8 (by rfl)) k_list)) (fun _ => Sub.rfl) (fun _ => Sub.rfl))) (by rfl) (fun _ => by rfl))
          · intro handed_1
            refine B.seq (lay := fun (found_1 : (List (List (List Int)))) => ⟨[.is (eSc script_1), .is ((eL false (eL false (eL false aI))) parts_here_3), .is ((eL false (eL false (eL false aI))) due_1), .is ((eL false (eL false aI)) m_1), .is ((eL false (eL false aI)) handed_1), .is ((eL true (eL true (eL true aI))) found_1), .no, .no, .no], []⟩) ?_ ?_
            · exact (N.asg (lay := fun (v : (List (List (List Int)))) => ⟨[.is (eSc script_1), .is ((eL false (eL false (eL false aI))) parts_here_3), .is ((eL false (eL false (eL false aI))) due_1), .is ((eL false (eL false aI)) m_1), .is ((eL false (eL false aI)) handed_1), .is ((eL true (eL true (eL true aI))) v), .no, .no, .no], []⟩) 5 (E.call1 t_pieces_pieces (E.rdF (ea := (eL false (eL false aI))) (a := handed_1) 4 (by rfl)) Arg.v Bo.v) (by rfl) (fun _ => by rfl))
            · intro found_1
              refine B.ifs (T.or (T.not (T.tb (E.call2 (t_k11_alike (e := (eL false (eL false (eL false aI))))) (E.rdO (ea := (eL true (eL true (eL true aI)))) (a := found_1) 5 (by rfl)) Arg.p (E.rdF (ea := (eL false (eL false (eL false aI)))) (a := due_1) 2 (by rfl)) Arg.v Two.s Bo.o))) Sub.rfl (T.not (T.tb (E.call2 (t_k11_alike (e := (eL false (eL false aI)))) (E.rdF (ea := (eL false (eL false aI))) (a := handed_1) 4 (by rfl)) Arg.v (E.rdF (ea := (eL false (eL false aI))) (a := m_1) 3 (by rfl)) Arg.v Two.v Bo.o)))) ?_ ?_
              · refine B.cutR ?_
                · exact (B.retI (e := aB) (E.con (ea := aB) (a := false) rfl) Dr.goI)
              · refine B.skip ?_
                · refine B.seq (lay := fun (s_2 : (List (List (List Int))) × (Unit)) => ⟨[.is (eSc script_1), .is ((eL false (eL false (eL false aI))) parts_here_3), .is ((eL false (eL false (eL false aI))) due_1), .is ((eL false (eL false aI)) m_1), .is ((eL false (eL false aI)) handed_1), .is ((eL true (eL true (eL true aI))) s_2.1), .any, .no, .no], []⟩) ?_ ?_
                  · refine N.forQ (M := found_1) (st0 := ()) (lay := fun (s_1 : (List (List (List Int))) × (Unit)) => ⟨[.is (eSc script_1), .is ((eL false (eL false (eL false aI))) parts_here_3), .is ((eL false (eL false (eL false aI))) due_1), .is ((eL false (eL false aI)) m_1), .is ((eL false (eL false aI)) handed_1), .al (.hd 0) [], .any, .no, .no], [(eL true (eL true (eL true aI))) s_1.1]⟩) (layo := fun (v : (List (List (List Int))) × (Unit)) => ⟨[.is (eSc script_1), .is ((eL false (eL false (eL false aI))) parts_here_3), .is ((eL false (eL false (eL false aI))) due_1), .is ((eL false (eL false aI)) m_1), .is ((eL false (eL false aI)) handed_1), .is ((eL true (eL true (eL true aI))) v.1), .any, .no, .no], []⟩) (Lb := fun s_1 m_2 => ⟨[.is (eSc script_1), .is ((eL false (eL false (eL false aI))) parts_here_3), .is ((eL false (eL false (eL false aI))) due_1), .is ((eL false (eL false aI)) m_1), .is ((eL false (eL false aI)) handed_1), .al (.hd 0) [], .al (.hd 0) [m_2], .no, .no], [(eL true (eL true (eL true aI))) s_1.1]⟩) (hd0 := []) 5 6 (by rfl) (Sub.mask [false, false, false, false, false, false, true, false, false]) (by rfl) (fun _ => by rfl) (fun _ => by rfl) (fun _ => by rfl) (fun _ _ => by rfl) ?_ (fun _ => by rfl)
                    · intro s_1 m_2
                      refine N.seq (lay := fun (h0_1 : (List (List (List Int)))) => ⟨[.is (eSc script_1), .is ((eL false (eL false (eL false aI))) parts_here_3), .is ((eL false (eL false (eL false aI))) due_1), .is ((eL false (eL false aI)) m_1), .is ((eL false (eL false aI)) handed_1), .al (.hd 0) [], .al (.hd 0) [m_2], .no, .no], [(eL true (eL true (eL true aI))) h0_1]⟩) ?_ ?_
                      · exact (N.m1 (M := s_1.1) (e0 := (eL true (eL true (eL true aI)))) (o := (o2 (s_1.1[m_2]?.map fun _ => ()) (some (0 : Int)) fun _ b => (s_1.1[m_2]?).bind fun xs => ixN xs.length b)) (p := fun (w : Nat) => ([m_2] ++ [w])) (gt := fun (w : Nat) N => ((N[m_2]?).bind fun xs => xs[w]?)) (up := fun (w : Nat) N y => (upX (N[m_2]?) N fun xs => (N.set m_2 (xs.set w y)))) (n := 2) (kl := false) (R := appO) (lay := fun (v : (List (List (List Int)))) => ⟨[.is (eSc script_1), .is ((eL false (eL false (eL false aI))) parts_here_3), .is ((eL false (eL false (eL false aI))) due_1), .is ((eL false (eL false aI)) m_1), .is ((eL false (eL false aI)) handed_1), .al (.hd 0) [], .al (.hd 0) [m_2], .no, .no], [(eL true (eL true (eL true aI))) v]⟩) (P.alx (ec := (eL true aI)) (P.al (ea := (eL true (eL true (eL true aI)))) (M := s_1.1) 6 (by rfl) (by rfl) (Ln.one (e := (eL true (eL true aI))) m_2) (by rfl)) (E.con (ea := aI) (a := 0) rfl)) (E.con (ea := aI) (a := 7) rfl) (by rfl) (fun x c y h => u_app x c y h) (fun _ => by rfl))
                      · intro h0_1
                        refine N.map (lay := fun (h0_2 : (List (List (List Int)))) => ⟨[.is (eSc script_1), .is ((eL false (eL false (eL false aI))) parts_here_3), .is ((eL false (eL false (eL false aI))) due_1), .is ((eL false (eL false aI)) m_1), .is ((eL false (eL false aI)) handed_1), .al (.hd 0) [], .al (.hd 0) [m_2], .no, .no], [(eL true (eL true (eL true aI))) h0_2]⟩) (f := fun (h0_2 : (List (List (List Int)))) => (h0_2, ())) ?_ (fun (h0_2 : (List (List (List Int)))) => (Sub.mask [false, false, false, false, false, false, true, false, false]))
                        · exact (N.m1 (M := h0_1) (e0 := (eL true (eL true (eL true aI)))) (o := (h0_1[m_2]?.map fun _ => ())) (p := fun (w : Unit) => [m_2]) (gt := fun (w : Unit) N => N[m_2]?) (up := fun (w : Unit) N y => (N.set m_2 y)) (n := 1) (kl := false) (R := appO) (lay := fun (v : (List (List (List Int)))) => ⟨[.is (eSc script_1), .is ((eL false (eL false (eL false aI))) parts_here_3), .is ((eL false (eL false (eL false aI))) due_1), .is ((eL false (eL false aI)) m_1), .is ((eL false (eL false aI)) handed_1), .al (.hd 0) [], .al (.hd 0) [m_2], .no, .no], [(eL true (eL true (eL true aI))) v]⟩) (P.al (ea := (eL true (eL true (eL true aI)))) (M := h0_1) 6 (by rfl) (by rfl) (Ln.one (e := (eL true (eL true aI))) m_2) (by rfl)) (E.lst1 (E.con (ea := aI) (a := 8) rfl)) (by rfl) (fun x c y h => u_app x c y h) (fun _ => by rfl))
                  · intro s_2
                    refine B.seq (lay := fun (found_2 : (List (List (List Int)))) => ⟨[.is (eSc script_1), .is ((eL false (eL false (eL false aI))) parts_here_3), .is ((eL false (eL false (eL false aI))) due_1), .is ((eL false (eL false aI)) m_1), .is ((eL false (eL false aI)) handed_1), .is ((eL true (eL true (eL true aI))) found_2), .any, .no, .no], []⟩) ?_ ?_
                    · exact (N.m1R (kl := false) (R := appO) (lay := fun (v : (List (List (List Int)))) => ⟨[.is (eSc script_1), .is ((eL false (eL false (eL false aI))) parts_here_3), .is ((eL false (eL false (eL false aI))) due_1), .is ((eL false (eL false aI)) m_1), .is ((eL false (eL false aI)) handed_1), .is ((eL true (eL true (eL true aI))) v), .any, .no, .no], []⟩) (P.rd (ea := (eL true (eL true (eL true aI)))) (M := s_2.1) 5 (by rfl)) (by rfl) (E.nil (ea := (eL true aI))) (by rfl) (fun x c y h => u_app x c y h) (fun _ => by rfl))
                    · intro found_2
                      exact (B.retI (e := aB) (E.and (E.call2 (t_k11_alike (e := (eL false (eL false aI)))) (E.rdF (ea := (eL false (eL false aI))) (a := handed_1) 4 (by rfl)) Arg.v (E.rdF (ea := (eL false (eL false aI))) (a := m_1) 3 (by rfl)) Arg.v Two.v Bo.o) Sub.rfl (E.call2 (t_k11_alike (e := (eL false (eL false (eL false aI))))) (E.fz (E.call1 t_pieces_pieces (E.rdF (ea := (eL false (eL false aI))) (a := handed_1) 4 (by rfl)) Arg.v Bo.v)) Arg.v (E.rdF (ea := (eL false (eL false (eL false aI)))) (a := due_1) 2 (by rfl)) Arg.v Two.v Bo.o)) Dr.goI)
end TL
namespace TL
open PySem PySem.Spec L2
/-! ## Dicts, plainly -/
section
variable {κ α β σ : Type} [DecidableEq κ]
@[simp] theorem kget_nil {k : κ} : kget ([] : List (κ × α)) k = none := rfl
theorem kget_cons {p : κ × α} {d : List (κ × α)} {k : κ} : kget (p :: d) k = if p.1 = k then some p.2 else kget d k := rfl
theorem khas_iff {d : List (κ × α)} {k : κ} : khas d k = true ↔ k ∈ d.map (·.1) := by
  unfold khas
  rw [List.any_eq_true]
  constructor
  · rintro ⟨p, h1, h2⟩; simp only [decide_eq_true_eq] at h2; exact List.mem_map.mpr ⟨p, h1, h2⟩
  · intro h; obtain ⟨p, h1, h2⟩ := List.mem_map.mp h; exact ⟨p, h1, by simpa using h2⟩
theorem khas_not {d : List (κ × α)} {k : κ} : khas d k = false ↔ k ∉ d.map (·.1) := by
  rw [← khas_iff]; simp
theorem kget_some {d : List (κ × α)} {k : κ} : (kget d k).isSome = true ↔ k ∈ d.map (·.1) := by
  induction d with
  | nil => simp
  | cons p d ih =>
    rw [kget_cons]
    by_cases h : p.1 = k
    · simp [h]
    · have h' : ¬ k = p.1 := fun q => h q.symm
      simp only [h, if_false, ih, List.map_cons, List.mem_cons, h', false_or]
theorem kget_none {d : List (κ × α)} {k : κ} : kget d k = none ↔ k ∉ d.map (·.1) := by
  rw [← kget_some]; cases kget d k <;> simp
theorem kget_mem {d : List (κ × α)} {k : κ} {v : α} (h : kget d k = some v) : (k, v) ∈ d := by
  induction d with
  | nil => cases h
  | cons p d ih =>
    rw [kget_cons] at h
    split at h
    · rename_i q; cases h; subst q; exact List.mem_cons_self
    · exact List.mem_cons_of_mem _ (ih h)
theorem kget_of {d : List (κ × α)} (nd : (d.map (·.1)).Nodup) {k : κ} {v : α} (h : (k, v) ∈ d) : kget d k = some v := by
  induction d with
  | nil => cases h
  | cons p d ih =>
    rw [kget_cons]
    simp only [List.map_cons, List.nodup_cons] at nd
    rcases List.mem_cons.mp h with h | h
    · subst h; simp
    · have : p.1 ≠ k := fun q => nd.1 (by rw [q]; exact List.mem_map.mpr ⟨_, h, rfl⟩)
      rw [if_neg this]; exact ih nd.2 h
theorem kget_app {d d' : List (κ × α)} {k : κ} : kget (d ++ d') k = (kget d k).or (kget d' k) := by
  induction d with
  | nil => simp
  | cons p d ih =>
    rw [List.cons_append, kget_cons, kget_cons, ih]
    split <;> simp
theorem kset_new {d : List (κ × α)} {k : κ} {v : α} (h : k ∉ d.map (·.1)) : kset d k v = d ++ [(k, v)] := by
  unfold kset; rw [khas_not.mpr h]; simp
theorem kset_keys {d : List (κ × α)} {k : κ} {v : α} : (kset d k v).map (·.1) = if k ∈ d.map (·.1) then d.map (·.1) else d.map (·.1) ++ [k] := by
  unfold kset
  by_cases h : khas d k = true
  · rw [if_pos h, if_pos (khas_iff.mp h), List.map_map]
    apply List.map_congr_left
    intro p _
    simp only [Function.comp]
    split
    · rename_i q; exact q.symm
    · rfl
  · rw [if_neg h, if_neg (fun q => h (khas_iff.mpr q))]; simp
theorem kset_nd {d : List (κ × α)} (nd : (d.map (·.1)).Nodup) (k : κ) (v : α) : ((kset d k v).map (·.1)).Nodup := by
  rw [kset_keys]
  split
  · exact nd
  · rename_i q
    rw [List.nodup_append]
    exact ⟨nd, by simp, fun a ha b hb => by simp at hb; subst hb; rintro rfl; exact q ha⟩
theorem kset_len {d : List (κ × α)} {k : κ} {v : α} : (kset d k v).length ≤ d.length + 1 := by
  unfold kset; split <;> simp
theorem kget_upd {d : List (κ × α)} {k j : κ} {v : α} (h : k ∈ d.map (·.1)) : kget (d.map fun p => if p.1 = k then (k, v) else p) j = if k = j then some v else kget d j := by
  induction d with
  | nil => simp at h
  | cons p d ih =>
    rw [List.map_cons, kget_cons, kget_cons]
    by_cases e : p.1 = k
    · simp only [e, if_true]
      by_cases e2 : k = j
      · simp [e2]
      · simp only [e2, if_false]
        have : ∀ d : List (κ × α), kget (d.map fun p => if p.1 = k then (k, v) else p) j = kget d j := by
          intro d
          induction d with
          | nil => rfl
          | cons q d ih2 =>
            rw [List.map_cons, kget_cons, kget_cons]
            by_cases e3 : q.1 = k
            · simp only [e3, if_true, e2, if_false, ih2]
            · simp only [e3, if_false, ih2]
        exact this d
    · simp only [e, if_false]
      have hk : k ∈ d.map (·.1) := by
        rcases List.mem_cons.mp h with h | h
        · exact absurd h.symm e
        · exact h
      rw [ih hk]
      by_cases e2 : k = j
      · subst e2; simp [e]
      · simp [e2]
theorem kget_set {d : List (κ × α)} {k j : κ} {v : α} : kget (kset d k v) j = if k = j then some v else kget d j := by
  by_cases h : khas d k = true
  · unfold kset
    rw [if_pos h]
    exact kget_upd (khas_iff.mp h)
  · have h2 := khas_not.mp (by simpa using h)
    rw [kset_new h2, kget_app]
    by_cases e : k = j
    · subst e; rw [kget_none.mpr h2]; simp [kget_cons]
    · simp only [kget_cons, e, if_false, kget_nil]
      cases kget d j <;> rfl
theorem ksetO_s {d : List (κ × α)} {k : κ} {v : α} (h : d.length < 16777216) : ksetO d k v = some (kset d k v) := if_pos h
/-- keys set one by one, none there before -/
theorem forO_fresh {β : Type} (g : β → κ) (v : β → α) (xs : List β) (d : List (κ × α)) (nd : (xs.map g).Nodup) (hd : ∀ x ∈ xs, g x ∉ d.map (·.1)) (hl : d.length + xs.length ≤ 16777216) : forO (fun d x => ksetO d (g x) (v x)) xs d = some (d ++ xs.map fun x => (g x, v x)) := by
  induction xs generalizing d with
  | nil => simp [forO]
  | cons x xs ih =>
    simp only [List.map_cons, List.nodup_cons] at nd
    simp only [List.length_cons] at hl
    rw [forO, ksetO_s (by omega), Option.bind_some, kset_new (hd x (by simp)), ih _ nd.2 (fun y hy => ?_) (by simp; omega)]
    · simp
    · simp only [List.map_append, List.map_cons, List.map_nil, List.mem_append, List.mem_singleton, not_or]
      exact ⟨hd y (by simp [hy]), fun q => nd.1 (by rw [← q]; exact List.mem_map.mpr ⟨y, hy, rfl⟩)⟩
/-- keys that stand for what was met -/
def met (l : List κ) : List (κ × Bool) := l.map fun e => (e, true)
@[simp] theorem met_keys {l : List κ} : (met l).map (·.1) = l := by simp [met, Function.comp_def]
@[simp] theorem met_len {l : List κ} : (met l).length = l.length := by simp [met]
@[simp] theorem met_has {l : List κ} {k : κ} : khas (met l) k = decide (k ∈ l) := by
  rw [Bool.eq_iff_iff, khas_iff, met_keys]; simp
def addM (l : List κ) (k : κ) : List κ := if k ∈ l then l else l ++ [k]
theorem met_set {l : List κ} {k : κ} : kset (met l) k true = met (addM l k) := by
  unfold addM
  by_cases h : k ∈ l
  · rw [if_pos h]
    unfold kset
    rw [if_pos (by simpa using h)]
    simp only [met, List.map_map]
    apply List.map_congr_left
    intro x _
    simp only [Function.comp]
    split
    · rename_i q; simp [q]
    · rfl
  · rw [if_neg h, kset_new (by simpa using h)]; simp [met]
theorem addM_nd {l : List κ} {k : κ} (h : l.Nodup) : (addM l k).Nodup := by
  unfold addM
  split
  · exact h
  · rename_i q
    rw [List.nodup_append]
    exact ⟨h, by simp, fun x hx y hy => by simp at hy; subst hy; rintro rfl; exact q hx⟩
theorem mem_addM {l : List κ} {k j : κ} : j ∈ addM l k ↔ j ∈ l ∨ j = k := by
  unfold addM
  split
  · rename_i q; constructor
    · exact .inl
    · rintro (h | rfl) <;> assumption
  · simp
end
theorem flO_filter {α : Type} (p : α → Bool) {xs : List α} (h : xs.length ≤ 16777216) : flO (fun e => some (p e)) (fun e => some e) xs = some (xs.filter p) := by
  have := flO_map (c := fun e => some (p e)) (f := fun e : α => some e) p id (xs := xs) (fun _ _ => rfl) (fun _ _ _ => rfl) h
  simpa using this
theorem mpO_id {α : Type} {xs : List α} (h : xs.length ≤ 16777216) : mpO (fun e : α => some e) xs = some xs := by
  have := mpO_map (f := fun e : α => some e) id (xs := xs) (fun _ _ => rfl) h
  simpa using this
/-! small things -/
theorem pyIx_snoc {α : Type} {xs : List α} {x : α} : pyIx (xs ++ [x]) (-1) = some x := by
  simp [pyIx]
@[simp] theorem pyIx_snoc' {α : Type} {xs : List α} {x : α} : pyIx (xs ++ [x]) (-1) = some x := pyIx_snoc
theorem popO_snoc {α : Type} {xs : List α} {x : α} : popO (xs ++ [x]) = some (x, xs) := by simp [popO]
@[simp] theorem popO_snoc' {α : Type} {xs : List α} {x : α} : popO (xs ++ [x]) = some (x, xs) := popO_snoc
theorem popAtO_n {α : Type} {xs : List α} {i : Int} (h0 : 0 ≤ i) (h1 : i < xs.length) (hl : xs.length ≤ 16777216) : popAtO xs i = some (xs[i.toNat]'(by omega), xs.eraseIdx i.toNat) := by
  have h2 : i.toNat < xs.length := by omega
  unfold popAtO
  rw [if_pos (by omega)]
  simp [h0, h1, h2]
@[simp] theorem min?_eq {xs : List Int} (h : xs ≠ []) : ∃ m, xs.min? = some m := by
  cases xs with
  | nil => exact absurd rfl h
  | cons x xs => exact ⟨_, rfl⟩
/-- the places of the ends -/
def plD (m : List (List Int)) : List (Int × Int) := m.zipIdx.flatMap fun p => p.1.map fun e => (e, (p.2 : Int))
theorem plD_keys (m : List (List Int)) : (plD m).map (·.1) = m.flatten := by
  unfold plD
  rw [List.map_flatMap]
  simp only [List.map_map, Function.comp_def, List.map_id']
  rw [List.flatMap_def, show (m.zipIdx.map fun p => p.1) = m by rw [List.zipIdx_map_fst]]
theorem plD_len (m : List (List Int)) : (plD m).length = m.flatten.length := by
  have := congrArg List.length (plD_keys m); simpa using this
theorem plD_snoc {m : List (List Int)} {r : List Int} : plD (m ++ [r]) = plD m ++ r.map fun e => (e, (m.length : Int)) := by
  simp [plD, List.zipIdx_append]
theorem plD_get {m : List (List Int)} (nd : m.flatten.Nodup) {e : Int} {i : Nat} {r : List Int} (hr : m[i]? = some r) (he : e ∈ r) : kget (plD m) e = some (i : Int) := by
  refine kget_of (by rw [plD_keys]; exact nd) ?_
  unfold plD
  refine List.mem_flatMap.mpr ⟨(r, i), ?_, List.mem_map.mpr ⟨e, he, rfl⟩⟩
  rw [List.mem_zipIdx_iff_getElem?]
  exact hr
theorem plD_inv {m : List (List Int)} {e v : Int} (h : kget (plD m) e = some v) : ∃ (i : Nat) (r : List Int), v = (i : Int) ∧ m[i]? = some r ∧ e ∈ r := by
  obtain ⟨p, hp, h⟩ := List.mem_flatMap.mp (kget_mem h)
  obtain ⟨e', he', h⟩ := List.mem_map.mp h
  cases h
  exact ⟨p.2, p.1, rfl, List.mem_zipIdx_iff_getElem?.mp hp, he'⟩
/-! what comes first, by what holds of it -/
theorem bE {α β : Type} {o : Option α} {f : α → Option β} {K : β → Prop} (J : α → Prop) (h : ∃ a, o = some a ∧ J a) (k : ∀ a, J a → ∃ b, f a = some b ∧ K b) : ∃ b, o.bind f = some b ∧ K b := by
  obtain ⟨a, rfl, ha⟩ := h; exact k a ha
theorem bR {α β : Type} {o : Option α} {f : α → Option β} {r : β} (J : α → Prop) (h : ∃ a, o = some a ∧ J a) (k : ∀ a, J a → f a = some r) : o.bind f = some r := by
  obtain ⟨a, rfl, ha⟩ := h; exact k a ha
theorem mE {α β : Type} {o : Option α} {f : α → β} {K : β → Prop} (J : α → Prop) (h : ∃ a, o = some a ∧ J a) (k : ∀ a, J a → K (f a)) : ∃ b, o.map f = some b ∧ K b := by
  obtain ⟨a, rfl, ha⟩ := h; exact ⟨_, rfl, k a ha⟩
theorem eM {α : Type} {o : Option α} {K : α → Prop} (J : α → Prop) (h : ∃ a, o = some a ∧ J a) (k : ∀ a, J a → K a) : ∃ b, o = some b ∧ K b := by
  obtain ⟨a, rfl, ha⟩ := h; exact ⟨a, rfl, k a ha⟩
theorem eE {α : Type} {o : Option α} {a : α} {K : α → Prop} (h : o = some a) (k : K a) : ∃ b, o = some b ∧ K b := ⟨a, h, k⟩
/-- a loop by what holds, its end known -/
theorem forO_eq {α σ : Type} {f : σ → α → Option σ} {l : List α} {s r : σ} (I : List α → σ → Prop) (h0 : I [] s) (h : ∀ pre x post s, l = pre ++ x :: post → I pre s → ∃ s', f s x = some s' ∧ I (pre ++ [x]) s') (fin : ∀ s, I l s → s = r) : forO f l s = some r := by
  obtain ⟨s', e, i⟩ := forO_inv I h0 h
  rw [e, fin s' i]
theorem enumL_split {α : Type} {m : List α} {pre post : List (Int × α)} {x : Int × α} (h : enumL m = pre ++ x :: post) : ∃ p q, m = p ++ x.2 :: q ∧ pre = enumL p ∧ x.1 = (p.length : Int) := by
  have hl := congrArg List.length h
  simp [enumL] at hl
  have hk : pre.length < m.length := by omega
  refine ⟨m.take pre.length, m.drop (pre.length + 1), ?_, ?_, ?_⟩
  · have h2 := congrArg (fun l => l[pre.length]?) h
    simp [enumL, hk] at h2
    rw [← h2]
    simp
  · have h3 := congrArg (fun l => l.take pre.length) h
    simp only [List.take_left'] at h3
    refine h3.symm.trans ?_
    apply List.ext_getElem?
    intro i
    simp only [enumL, List.getElem?_take, List.getElem?_map, List.getElem?_zipIdx]
    by_cases hi : i < pre.length
    · have : i < min pre.length m.length := by omega
      simp [hi]
    · simp [hi]
  · have h2 := congrArg (fun l => l[pre.length]?) h
    simp [enumL, hk] at h2
    rw [← h2]
    simp; omega
theorem enumL_snoc {α : Type} {m : List α} {r : α} : enumL (m ++ [r]) = enumL m ++ [((m.length : Int), r)] := by simp [enumL, List.zipIdx_append]
theorem q_places {m : List (List Int)} (nd : m.flatten.Nodup) (hl : m.flatten.length ≤ 16777216) : q_turns_places_at m = some (plD m) := by
  unfold q_turns_places_at
  simp only [Option.bind_some, Option.map_some, o2_s, Option.map_id', Option.map_id_fun', id, Option.bind_fun_some]
  refine forO_eq (fun pre d => ∃ p, pre = enumL p ∧ d = plD p) ⟨[], rfl, rfl⟩ ?_ ?_
  · rintro pre x post d e ⟨p, rfl, rfl⟩
    obtain ⟨p', q, hm, hp, hx⟩ := enumL_split e
    have : p = p' := by
      have := congrArg (List.map (·.2)) hp
      simpa [enumL, List.map_map, Function.comp_def, List.zipIdx_map_fst] using this
    subst this
    have nd2 : (p.flatten ++ x.2).Nodup := by
      rw [hm] at nd
      simp only [List.flatten_append, List.flatten_cons] at nd
      rw [← List.append_assoc] at nd
      exact (List.nodup_append.mp nd).1
    have hl2 : p.flatten.length + x.2.length ≤ 16777216 := by
      rw [hm] at hl
      simp only [List.flatten_append, List.flatten_cons, List.length_append] at hl
      omega
    refine ⟨plD (p ++ [x.2]), ?_, p ++ [x.2], by rw [enumL_snoc, ← hx], rfl⟩
    have := forO_fresh id (fun _ => x.1) x.2 (plD p) (by simpa using (List.nodup_append.mp nd2).2.1) (fun y hy => by
      rw [plD_keys]
      exact fun q => (List.nodup_append.mp nd2).2.2 y q y hy rfl) (by rw [plD_len]; exact hl2)
    simp only [id] at this
    rw [this, plD_snoc, hx]
  · rintro d ⟨p, hp, rfl⟩
    have := congrArg (List.map (·.2)) hp
    simp [enumL, List.map_map, Function.comp_def, List.zipIdx_map_fst] at this
    rw [this]
end TL
namespace TL
open PySem PySem.Spec L2
/-! ## Pieces -/
def rowN (m : List (List Int)) (i : Nat) : List Int := m[i]?.getD []
def Adj (m : List (List Int)) (i j : Nat) : Prop := i < m.length ∧ j < m.length ∧ ∃ e ∈ rowN m i, -e ∈ rowN m j
theorem Adj.symm {m : List (List Int)} {i j : Nat} (h : Adj m i j) : Adj m j i := by
  obtain ⟨h1, h2, e, h3, h4⟩ := h
  exact ⟨h2, h1, -e, h4, by rw [Int.neg_neg]; exact h3⟩
inductive Con (m : List (List Int)) : Nat → Nat → Prop
  | refl {i : Nat} : i < m.length → Con m i i
  | step {i j k : Nat} : Con m i j → Adj m j k → Con m i k
theorem Con.trans {m : List (List Int)} {i j k : Nat} (h : Con m i j) (h' : Con m j k) : Con m i k := by
  induction h' with
  | refl _ => exact h
  | step _ a ih => exact ih.step a
theorem Con.lt {m : List (List Int)} {i j : Nat} (h : Con m i j) : i < m.length ∧ j < m.length := by
  induction h with
  | refl h => exact ⟨h, h⟩
  | step _ a ih => exact ⟨ih.1, a.2.1⟩
theorem Con.symm {m : List (List Int)} {i j : Nat} (h : Con m i j) : Con m j i := by
  induction h with
  | refl h => exact .refl h
  | step h a ih => exact (Con.step (.refl a.2.1) a.symm).trans ih
open Classical in
noncomputable def comp (m : List (List Int)) (k : Nat) : List Nat := (List.range m.length).filter fun j => decide (Con m k j)
open Classical in
noncomputable def firsts (m : List (List Int)) : List Nat := (List.range m.length).filter fun k => decide (∀ j < k, ¬ Con m k j)
noncomputable def piecesM (m : List (List Int)) : List (List (List Int)) := (firsts m).map fun k => (comp m k).map (rowN m)
theorem mem_comp {m : List (List Int)} {k j : Nat} : j ∈ comp m k ↔ Con m k j := by
  unfold comp
  rw [List.mem_filter]
  simp only [List.mem_range, decide_eq_true_eq]
  exact ⟨fun h => h.2, fun h => ⟨h.lt.2, h⟩⟩
theorem comp_nd {m : List (List Int)} {k : Nat} : (comp m k).Nodup := List.Nodup.sublist List.filter_sublist List.nodup_range
theorem comp_lt {m : List (List Int)} {k : Nat} : (comp m k).Pairwise (· < ·) := List.Pairwise.sublist List.filter_sublist List.pairwise_lt_range
theorem comp_len {m : List (List Int)} {k : Nat} : (comp m k).length ≤ m.length := by
  have := List.length_filter_le (fun j => @decide (Con m k j) (Classical.propDecidable _)) (List.range m.length)
  rw [List.length_range] at this
  exact this
theorem rowN_get {m : List (List Int)} {i : Nat} (h : i < m.length) : rowN m i = m[i] := by simp [rowN, h]
theorem rowN_mem {m : List (List Int)} {i : Nat} (h : i < m.length) : rowN m i ∈ m := by rw [rowN_get h]; exact List.getElem_mem h
/-- the place of an end's other end -/
theorem pl_far {m : List (List Int)} (nd : m.flatten.Nodup) (cl : closed m) {i : Nat} {e : Int} (hi : i < m.length) (he : e ∈ rowN m i) : ∃ j : Nat, kget (plD m) (-e) = some (j : Int) ∧ Adj m i j := by
  have h1 : -e ∈ m.flatten := cl e (List.mem_flatten.mpr ⟨_, rowN_mem hi, he⟩)
  obtain ⟨r, hr, hre⟩ := List.mem_flatten.mp h1
  obtain ⟨j, hj, rfl⟩ := List.mem_iff_getElem.mp hr
  refine ⟨j, plD_get nd (List.getElem?_eq_getElem hj) hre, hi, hj, e, he, ?_⟩
  rw [rowN_get hj]; exact hre
/-- what has been met: places, none twice -/
structure Wv (m : List (List Int)) (p : Nat) (w : List Nat) : Prop where
  nd : w.Nodup
  con : ∀ j ∈ w, Con m p j
theorem Wv.len {m : List (List Int)} {p : Nat} {w : List Nat} (h : Wv m p w) : w.length ≤ m.length := by
  have hm : Met m.length (w.map fun k : Nat => (k : Int)) := ⟨by
    rw [List.Nodup, List.pairwise_map]
    exact h.nd.imp fun q z => q (by omega), fun t ht => by
    obtain ⟨k, hk, rfl⟩ := List.mem_map.mp ht
    have := (h.con k hk).lt.2
    omega⟩
  have := hm.len
  simpa using this
theorem met_cast {w : List Nat} {j : Nat} : (j : Int) ∈ w.map (fun k : Nat => (k : Int)) ↔ j ∈ w := by
  simp only [List.mem_map]
  constructor
  · rintro ⟨k, hk, h⟩; have : k = j := by omega
    subst this; exact hk
  · intro h; exact ⟨j, h, rfl⟩
def cst (w : List Nat) : List Int := w.map fun k : Nat => (k : Int)
theorem mem_cst {w : List Nat} {j : Nat} : (j : Int) ∈ cst w ↔ j ∈ w := met_cast
@[simp] theorem cst_len {w : List Nat} : (cst w).length = w.length := by simp [cst]
theorem addM_cst {w : List Nat} {j : Nat} : addM (cst w) (j : Int) = cst (addM w j) := by
  unfold addM
  by_cases h : j ∈ w
  · rw [if_pos h, if_pos (mem_cst.mpr h)]
  · rw [if_neg h, if_neg (fun q => h (mem_cst.mp q))]; simp [cst]
theorem cst_get {w : List Nat} {k : Nat} (h : k < w.length) : pyIx (cst w) (k : Int) = some (w[k] : Int) := by
  rw [pyIx_k (by simpa using h)]; simp [cst]
theorem q_reached {m : List (List Int)} (nd : m.flatten.Nodup) (cl : closed m) (hl : m.length ≤ 100000) {p : Nat} (hp : p < m.length) : q_pieces_reached m (plD m) (p : Int) = some (cst (comp m p)) := by
  unfold q_pieces_reached
  simp only [Option.bind_some, Option.map_some, o2_s, Option.map_id', Option.map_id_fun', id, Option.bind_fun_some]
  refine bR (J := fun s => ∃ w : List Nat, s.2.1 = cst w ∧ Wv m p w ∧ (∀ j, Con m p j → j ∈ w)) ?_ ?_
  · skip
    refine whO_inv (I := fun s => ∃ (w : List Nat) (k : Nat), s = (met (cst w), cst w, (k : Int)) ∧ Wv m p w ∧ p ∈ w ∧ k ≤ w.length ∧ ∀ i, i < k → ∀ j, (hi : i < w.length) → Adj m w[i] j → j ∈ w) (J := _) (μ := fun s => m.length - s.2.2.toNat) ⟨[p], 0, rfl, ⟨by simp, fun j hj => by simp at hj; subst hj; exact .refl hp⟩, by simp, by simp, fun i hi => by omega⟩ ?_
    rintro _ ⟨w, k, rfl, hw, hpw, hk, hcl⟩
    have hwl := hw.len
    refine ⟨_, by simp only [cst_len]; rfl, fun hb => ?_, fun hb => ?_⟩
    · -- the end
      simp only [decide_eq_false_iff_not] at hb
      have hkw : k = w.length := by omega
      refine ⟨w, rfl, hw, fun j hj => ?_⟩
      induction hj with
      | refl _ => exact hpw
      | step _ a ih =>
        obtain ⟨i, hi, hiw⟩ := List.mem_iff_getElem.mp ih
        exact hcl i (by omega) _ hi (by rw [hiw]; exact a)
    · have hb : k < w.length := by simpa using hb
      have hwk := hw.con w[k] (List.getElem_mem hb)
      have hlt := hwk.lt.2
      simp only [cst_get hb, Option.bind_some, o2_s, pyIx_k hlt]
      refine bE (J := fun s' => ∃ w', s' = (met (cst w'), cst w') ∧ Wv m p w' ∧ w <+: w' ∧ ∀ e ∈ m[w[k]], ∀ j, kget (plD m) (-e) = some ((j : Nat) : Int) → j ∈ w') ?_ ?_
      · skip
        refine forO_inv (I := fun pre s => ∃ w', s = (met (cst w'), cst w') ∧ Wv m p w' ∧ w <+: w' ∧ ∀ e ∈ pre, ∀ j, kget (plD m) (-e) = some ((j : Nat) : Int) → j ∈ w') ⟨w, rfl, hw, List.prefix_refl _, by simp⟩ ?_
        rintro pre e post _ he ⟨w', rfl, hw', hsub, hin⟩
        have hem : e ∈ rowN m w[k] := by rw [rowN_get hlt, he]; simp
        obtain ⟨j, hj, ha⟩ := pl_far nd cl hlt hem
        have hwl' := hw'.len
        simp only [hj, Option.bind_some, o2_s, met_has, mem_cst]
        by_cases hjw : j ∈ w'
        · refine ⟨(met (cst w'), cst w'), by simp [hjw], w', rfl, hw', hsub, fun e' he' j' hj' => ?_⟩
          rcases List.mem_append.mp he' with he' | he'
          · exact hin e' he' j' hj'
          · simp at he'; subst he'
            rw [hj] at hj'
            simp only [Option.some.injEq] at hj'
            have : j = j' := by omega
            subst this; exact hjw
        · refine ⟨(met (cst (w' ++ [j])), cst (w' ++ [j])), ?_, w' ++ [j], rfl, ⟨?_, ?_⟩, hsub.trans (List.prefix_append _ _), fun e' he' j' hj' => ?_⟩
          · have h1 : (met (cst w')).length < 16777216 := by simp; omega
            have h2 : (cst w').length < 16777216 := by simp; omega
            have h3 : addM w' j = w' ++ [j] := by simp [addM, hjw]
            simp only [hjw, decide_false, Bool.not_false, if_true, ksetO_s h1, appO_s h2, Option.bind_some, Option.map_some, met_set, addM_cst, h3]
            simp [cst]
          · rw [List.nodup_append]
            exact ⟨hw'.nd, by simp, fun x hx y hy => by simp at hy; subst hy; rintro rfl; exact hjw hx⟩
          · intro x hx
            rcases List.mem_append.mp hx with hx | hx
            · exact hw'.con x hx
            · simp at hx; subst hx; exact hwk.step ha
          · rcases List.mem_append.mp he' with he' | he'
            · exact List.mem_append_left _ (hin e' he' j' hj')
            · simp at he'; subst he'
              rw [hj] at hj'
              simp only [Option.some.injEq] at hj'
              have : j = j' := by omega
              subst this; simp
      rintro _ ⟨w', rfl, hw', hsub, hin⟩
      refine ⟨(met (cst w'), cst w', ((k + 1 : Nat) : Int)), rfl, ⟨w', k + 1, rfl, hw', hsub.subset hpw, ?_, ?_⟩, ?_⟩
      · have := hsub.length_le; omega
      · intro i hi j hiw a
        have hiw0 : i < w.length := by omega
        have hgi : w'[i] = w[i] := (hsub.getElem hiw0).symm
        rw [hgi] at a
        by_cases hik : i = k
        · subst hik
          have hjl := a.2.1
          obtain ⟨_, _, e, he, hne⟩ := a
          rw [rowN_get hlt] at he
          exact hin e he j (plD_get nd (List.getElem?_eq_getElem hjl) (by rw [rowN_get hjl] at hne; exact hne))
        · exact hsub.subset (hcl i (by omega) j hiw0 a)
      · simp; omega
  rintro s ⟨w, hs, hw, hall⟩
  simp only [hs]
  have hwl := hw.len
  rw [sortO_s (by simp; omega)]
  congr 1
  show srtI (cst w) = cst (comp m p)
  refine int_sorted_eq ?_ srtI_sorted ?_
  · refine srtI_perm.trans ?_
    refine List.Perm.map _ ?_
    rw [List.perm_ext_iff_of_nodup hw.nd comp_nd]
    intro j
    rw [mem_comp]
    exact ⟨hw.con j, hall j⟩
  · unfold cst
    rw [List.pairwise_map]
    exact comp_lt.imp fun q => by omega
/-- the places of all pieces that begin below k -/
theorem mpP_rows {m : List (List Int)} {l : List Nat} (h : ∀ i ∈ l, i < m.length) (hl : l.length ≤ 16777216) : mpO (fun e => pyIx m e) (cst l) = some (l.map (rowN m)) := by
  have : mpO (fun e => pyIx m e) (cst l) = some ((cst l).map fun e : Int => rowN m e.toNat) := by
    refine mpO_map (fun e : Int => rowN m e.toNat) (fun x hx => ?_) (by simpa using hl)
    obtain ⟨i, hi, rfl⟩ := List.mem_map.mp hx
    have := h i hi
    simp only [pyIx_k this, Int.toNat_natCast, rowN_get this]
  rw [this]
  simp [cst, List.map_map, Function.comp_def]
theorem q_pieces {m : List (List Int)} (nd : m.flatten.Nodup) (cl : closed m) (hl : m.length ≤ 100000) (hf : m.flatten.length ≤ 100000) : q_pieces_pieces m = some (piecesM m) := by
  classical
  unfold q_pieces_pieces
  simp only [Option.bind_some, Option.map_some, o2_s, o3_s, Option.map_id', Option.map_id_fun', id, Option.bind_fun_some, q_places nd (by omega : m.flatten.length ≤ 16777216), rangeO_n (by omega : m.length < 16777216)]
  refine bR (J := fun s => s.2 = piecesM m) ?_ (fun s h => by simp only [h])
  refine eM _ (forO_inv (fun pre s => ∃ (n : Nat) (H : List Nat), pre = cst (List.range n) ∧ s = (met (cst H), ((List.range n).filter fun k => decide (∀ j < k, ¬ Con m k j)).map fun k => (comp m k).map (rowN m)) ∧ H.Nodup ∧ (∀ j, j ∈ H ↔ ∃ i, i < n ∧ Con m i j)) ⟨0, [], rfl, rfl, by simp, by simp⟩ ?_) ?_
  rotate_left
  · rintro _ ⟨n, H, h1, rfl, _, _⟩
    have : n = m.length := by have := congrArg List.length h1; simp at this; omega
    subst this
    simp only [piecesM, firsts]
  · rintro pre x post _ e ⟨n, H, rfl, rfl, hnd, hH⟩
    have hn : n < m.length := by have := congrArg List.length e; simp at this; omega
    have hx : x = (n : Int) := by
      have := congrArg (fun l => l[n]?) e
      simp [hn] at this
      exact this.symm
    subst hx
    have hHl : H.length ≤ m.length := by
      have := nodup_len H (List.range m.length) hnd fun j hj => by
        obtain ⟨i, _, hc⟩ := (hH j).mp hj
        exact List.mem_range.mpr hc.lt.2
      simpa using this
    have hr : cst (List.range n) ++ [(n : Int)] = cst (List.range (n + 1)) := by simp [cst, List.range_succ]
    simp only [met_has, mem_cst]
    by_cases hin : n ∈ H
    · obtain ⟨i, hi, hc⟩ := (hH n).mp hin
      have hnf : ¬ ∀ j < n, ¬ Con m n j := fun q => q i hi hc.symm
      refine ⟨_, by simp [hin]; rfl, n + 1, H, hr, ?_, hnd, fun j => ?_⟩
      · rw [List.range_succ, List.filter_append]
        simp [hnf]
      · rw [hH]
        constructor
        · rintro ⟨i, hi, hc⟩; exact ⟨i, by omega, hc⟩
        · rintro ⟨i', hi', hc'⟩
          by_cases q : i' = n
          · subst q; exact ⟨i, hi, hc.trans hc'⟩
          · exact ⟨i', by omega, hc'⟩
    · have hnf : ∀ j < n, ¬ Con m n j := fun j hj hc => hin ((hH n).mpr ⟨j, hj, hc.symm⟩)
      have hdis : ∀ j ∈ comp m n, j ∉ H := fun j hj hjH => by
        obtain ⟨i, hi, hc⟩ := (hH j).mp hjH
        exact hnf i hi ((mem_comp.mp hj).trans hc.symm)
      have hcl := comp_len (m := m) (k := n)
      have hfs : forO (fun have_2 one_1 => ksetO have_2 one_1 true) (cst (comp m n)) (met (cst H)) = some (met (cst (H ++ comp m n))) := by
        have := forO_fresh (κ := Int) (α := Bool) id (fun _ => true) (cst (comp m n)) (met (cst H)) (by
          simp only [List.map_id_fun, id]
          rw [cst, List.Nodup, List.pairwise_map]
          exact comp_nd.imp fun q z => q (by omega)) (fun x hx => by
          obtain ⟨j, hj, rfl⟩ := List.mem_map.mp hx
          simp only [met_keys, id, mem_cst]
          exact hdis j hj) (by simp; omega)
        simp only [id] at this
        rw [this]
        simp [met, cst]
      have hlen : (((List.range n).filter fun k => decide (∀ j < k, ¬ Con m k j)).map fun k => (comp m k).map (rowN m)).length < 16777216 := by
        rw [List.length_map]
        have := List.length_filter_le (fun k => decide (∀ j < k, ¬ Con m k j)) (List.range n)
        rw [List.length_range] at this
        omega
      have hrows := mpP_rows (m := m) (l := comp m n) (fun i hi => (mem_comp.mp hi).lt.2) (by omega)
      refine ⟨(met (cst (H ++ comp m n)), (((List.range n).filter fun k => decide (∀ j < k, ¬ Con m k j)).map fun k => (comp m k).map (rowN m)) ++ [(comp m n).map (rowN m)]), ?_, n + 1, H ++ comp m n, hr, ?_, ?_, fun j => ?_⟩
      · simp only [hin, decide_false, Bool.not_false, if_true, q_reached nd cl hl hn, Option.bind_some, hfs, hrows, appO_s hlen, Option.map_some]
      · rw [List.range_succ, List.filter_append, List.filter_cons_of_pos (by simpa using hnf), List.filter_nil, List.map_append]; rfl
      · rw [List.nodup_append]
        exact ⟨hnd, comp_nd, fun a ha b hb => by rintro rfl; exact hdis a hb ha⟩
      · rw [List.mem_append, hH, mem_comp]
        constructor
        · rintro (⟨i, hi, hc⟩ | hc)
          · exact ⟨i, by omega, hc⟩
          · exact ⟨n, by omega, hc⟩
        · rintro ⟨i, hi, hc⟩
          by_cases q : i = n
          · subst q; exact .inr hc
          · exact .inl ⟨i, by omega, hc⟩
end TL
namespace TL
open PySem PySem.Spec L2
/-! ## Turns turned, maps in good order -/
/-- from a least end on -/
theorem turned_from {u v : List Int} {x : Int} (hm : ∀ y ∈ u ++ x :: v, x ≤ y) (hu : x ∉ u) : turnedL (u ++ x :: v) = x :: v ++ u := by
  have h1 : (u ++ x :: v).min? = some x := by
    rw [List.min?_eq_some_iff]; exact ⟨by simp, hm⟩
  have h2 : (u ++ x :: v).idxOf x = u.length := by
    rw [List.idxOf_append]; simp [hu]
  simp only [turnedL, h1, h2]
  simp
theorem split_min {l : List Int} (h : l ≠ []) : ∃ u x v, l = u ++ x :: v ∧ (∀ y ∈ l, x ≤ y) ∧ x ∉ u := by
  obtain ⟨x, hx⟩ : ∃ x, l.min? = some x := by
    cases e : l.min? with
    | none => exact absurd (List.min?_eq_none_iff.mp e) h
    | some x => exact ⟨x, rfl⟩
  have hm := (List.min?_eq_some_iff.mp hx)
  refine ⟨l.take (l.idxOf x), x, l.drop (l.idxOf x + 1), ?_, hm.2, ?_⟩
  · have hi : l.idxOf x < l.length := List.idxOf_lt_length_of_mem hm.1
    have : l[l.idxOf x] = x := List.getElem_idxOf hi
    conv => lhs; rw [← List.take_append_drop (l.idxOf x) l, List.drop_eq_getElem_cons hi, this]
  · intro hc
    obtain ⟨i, hi, he⟩ := List.mem_iff_getElem.mp hc
    simp only [List.getElem_take] at he
    have hi2 : i < l.idxOf x := by simp at hi; omega
    have := List.not_of_lt_findIdx (p := fun y => y == x) (xs := l) (i := i) hi2
    simp [he] at this
theorem turned_rot (a b : List Int) (nd : (a ++ b).Nodup) : turnedL (b ++ a) = turnedL (a ++ b) := by
  by_cases h : a ++ b = []
  · simp at h; obtain ⟨rfl, rfl⟩ := h; rfl
  · obtain ⟨u, x, v, e, hm, hu⟩ := split_min h
    have hx : x ∈ a ++ b := by rw [e]; simp
    have nda := List.nodup_append.mp nd
    rcases List.mem_append.mp hx with ha | hb
    · obtain ⟨u1, v1, rfl⟩ := List.append_of_mem ha
      have hu1 : x ∉ u1 := fun q => by
        have := nda.1
        rw [List.nodup_append] at this
        exact this.2.2 x q x (by simp) rfl
      have hb : x ∉ b := fun q => nda.2.2 x (by simp) x q rfl
      have e1 : u1 ++ x :: v1 ++ b = u1 ++ x :: (v1 ++ b) := by simp
      have e2 : b ++ (u1 ++ x :: v1) = (b ++ u1) ++ x :: v1 := by simp
      rw [e1, e2, turned_from (fun y hy => hm y (by simp at hy ⊢; rcases hy with h | h | h | h <;> simp [h])) (by simp [hu1, hb]), turned_from (fun y hy => hm y (by simpa using hy)) hu1]
      simp
    · obtain ⟨u1, v1, rfl⟩ := List.append_of_mem hb
      have hu1 : x ∉ u1 := fun q => by
        have := nda.2.1
        rw [List.nodup_append] at this
        exact this.2.2 x q x (by simp) rfl
      have ha : x ∉ a := fun q => nda.2.2 x q x (by simp) rfl
      have e1 : a ++ (u1 ++ x :: v1) = (a ++ u1) ++ x :: v1 := by simp
      have e2 : u1 ++ x :: v1 ++ a = u1 ++ x :: (v1 ++ a) := by simp
      rw [e1, e2, turned_from (fun y hy => hm y (by simp at hy ⊢; rcases hy with h | h | h | h <;> simp [h])) hu1, turned_from (fun y hy => hm y (by simpa using hy)) (by simp [hu1, ha])]
      simp
theorem turned_idem {l : List Int} (nd : l.Nodup) : turnedL (turnedL l) = turnedL l := by
  by_cases h : l = []
  · subst h; rfl
  · obtain ⟨u, x, v, e, hm, hu⟩ := split_min h
    have nd' := nd
    rw [e] at nd' hm ⊢
    rw [turned_from hm hu]
    have : x :: v ++ u = [] ++ x :: (v ++ u) := by simp
    rw [this, turned_from (fun y hy => hm y (by simp at hy ⊢; rcases hy with h | h | h <;> simp [h])) (by simp)]
    simp
/-- a turn told from any place -/
def spin (r : List Int) (b : Nat) : List Int := r.drop b ++ r.take b
theorem turned_spin {r : List Int} (b : Nat) (nd : r.Nodup) : turnedL (spin r b) = turnedL r := by
  have := turned_rot (r.take b) (r.drop b) (by rw [List.take_append_drop]; exact nd)
  rw [List.take_append_drop] at this
  exact this
theorem spin_perm (r : List Int) (b : Nat) : (spin r b).Perm r := List.perm_append_comm.trans (by rw [List.take_append_drop])
theorem nodup_of_flat : ∀ {m : List (List Int)}, m.flatten.Nodup → ∀ r ∈ m, r.Nodup
  | [], _, r, hr => by simp at hr
  | x :: m, nd, r, hr => by
    rw [List.flatten_cons, List.nodup_append] at nd
    rcases List.mem_cons.mp hr with rfl | hr
    · exact nd.1
    · exact nodup_of_flat nd.2.1 r hr
theorem goodL_idem {m : List (List Int)} (nd : m.flatten.Nodup) : goodL (goodL m) = goodL m := by
  have h : (goodL m).map turnedL = goodL m := by
    have : ∀ r ∈ goodL m, turnedL r = r := by
      intro r hr
      obtain ⟨q, hq, rfl⟩ := List.mem_map.mp (srtR_perm.mem_iff.mp hr)
      exact turned_idem (nodup_of_flat nd q hq)
    conv => rhs; rw [← List.map_id (goodL m)]
    exact List.map_congr_left this
  rw [goodL, h]
  exact srtR_id srtR_sorted
theorem goodL_sorted {m : List (List Int)} : (goodL m).Pairwise (· ≤ ·) := srtR_sorted
theorem insert_perm {α : Type} (l : List α) (a : Nat) (x : α) : (l.take a ++ [x] ++ l.drop a).Perm (l ++ [x]) := by
  have h1 : (l.take a ++ [x] ++ l.drop a).Perm (l.take a ++ l.drop a ++ [x]) := by
    rw [List.append_assoc, List.append_assoc]
    exact List.Perm.append_left _ List.perm_append_comm
  rwa [List.take_append_drop] at h1
end TL
namespace TL
open PySem PySem.Spec L2
/-! ## The maps told by words -/
def nStep (ns : List Int) : Int := if 0 < cellAt ns 0 % 3 then 1 + cellAt ns 1 % 10 ^ 58 else 1
def nShift (ns : List Int) : Int := if 0 < cellAt ns 0 % 3 then cellAt ns 2 % 10 ^ 58 else 0
def nameOf (ns : List Int) (k : Nat) : Int := nStep ns * (((1 + cellAt ns 0 / 3 % 66) * (k : Int) + cellAt ns 0 / 198 % 67) % 67 + 1) + nShift ns
def namesL (ns : List Int) : List Int := (List.range 66).map fun k => nameOf ns k
theorem mokN (i j : Int) : mulOk i ((j % 67) + 1) = true := mokW _ _ (by omega)
/-- maps in one another -/
def mapsT (o : Bool) (ms : List (List (List Int))) : List T := ms.map fun m => .box o .lst (m.map (rowT o))
@[simp] theorem mp_fzL {o : Bool} {ms : List (List (List Int))} : T.fzL (mapsT o ms) = mapsT false ms := by
  induction ms with
  | nil => rfl
  | cons x ms ih => simpa [mapsT] using ih
@[simp] theorem mp_allF {ms : List (List (List Int))} : T.allFL (mapsT false ms) = true := by
  induction ms with
  | nil => rfl
  | cons x ms ih => simpa [mapsT] using ih
@[simp] theorem mp_len {o : Bool} {ms : List (List (List Int))} : (mapsT o ms).length = ms.length := by simp [mapsT]
/-- the map as it grows: the parts before, the part now, the trail to the place, the open ends, the roads used -/
structure Gw where
  done : List (List (List Int))
  cur : List (List Int)
  tr : List Nat
  t : Nat
  left : List Int
  used : Nat
def Gw.start : Gw := ⟨[], [[]], [], 0, [], 0⟩
def Gw.put (w : Gw) (es : List Int) : List (List Int) := w.cur.set w.t (w.cur[w.t]?.getD [] ++ es)
def Gw.step (nm : List Int) (w : Gw) (c : Int) : Gw :=
  let e0 := nm[w.used]?.getD 0
  let e := if c / 8 % 2 = 1 then -e0 else e0
  if c % 8 < 4 then
    if c % 8 < 2 then { w with cur := w.put [e], left := w.left ++ [-e], used := w.used + 1 }
    else { w with cur := w.put [e] ++ [[-e]], tr := w.tr ++ [w.t], t := w.cur.length, used := w.used + 1 }
  else if c % 8 < 6 then
    if w.left = [] then w else { w with cur := w.put [w.left[(c / 16 % w.left.length).toNat]?.getD 0], left := w.left.eraseIdx (c / 16 % w.left.length).toNat }
  else if c % 8 = 6 then
    match w.tr.getLast? with
    | some u => { w with tr := w.tr.dropLast, t := u }
    | none => w
  else ⟨w.done ++ [w.put w.left], [[]], [], 0, [], w.used⟩
def partsL (nm : List Int) (cs : List Int) : List (List (List Int)) :=
  let w := cs.foldl (Gw.step nm) Gw.start
  w.done ++ [w.put w.left]
@[simp] theorem mp_last {o : Bool} {ms : List (List (List Int))} {x : T} : (mapsT o ms ++ [x])[ms.length]? = some x := by
  rw [List.getElem?_append_right (by simp)]; simp
@[simp] theorem mp_mod {o : Bool} {ms : List (List (List Int))} {x : T} {f : T → T} : (mapsT o ms ++ [x]).modify ms.length f = mapsT o ms ++ [f x] := by
  have : ms.length = (mapsT o ms).length := by simp
  rw [this]
  generalize mapsT o ms = l
  induction l with
  | nil => rfl
  | cons y l ih => simpa using ih
@[simp] theorem tr_last {tr : List Nat} {x : T} : ((tr.map fun i : Nat => aI (i : Nat)) ++ [x])[tr.length]? = some x := by
  rw [List.getElem?_append_right (by simp)]; simp
/-- the place's own list, where it stands -/
def oA : Option (List Nat) → Sl T
  | none => .no
  | some p => .al (.sl 2) p
@[simp] theorem oA_n : oA none = .no := rfl
@[simp] theorem oA_s {p : List Nat} : oA (some p) = .al (.sl 2) p := rfl
@[simp] theorem kR_oA {i : Nat} {c : Option (List Nat)} (h : 2 ≠ i) : Sl.killR i (oA c) = oA c := by cases c <;> simp [oA, h]
structure Gw.Ok (n : Nat) (w : Gw) : Prop where
  t : w.t < w.cur.length
  tr : ∀ u ∈ w.tr, u < w.cur.length
  len : w.cur.flatten.length + w.left.length ≤ 2 * n
  cl : w.cur.length ≤ n + 1
  dl : w.done.length ≤ n
  trl : w.tr.length ≤ n
  us : w.used ≤ n
theorem set_flat {m : List (List Int)} {i : Nat} {r : List Int} (h : i < m.length) : (m.set i r).flatten.length + (m[i]).length = m.flatten.length + r.length := by
  induction m generalizing i with
  | nil => simp at h
  | cons x m ih =>
    cases i with
    | zero => simp; omega
    | succ i =>
      have := ih (i := i) (by simpa using h)
      simp only [List.set_cons_succ, List.flatten_cons, List.length_append, List.getElem_cons_succ]
      omega
theorem Gw.put_len {w : Gw} (es : List Int) : (w.put es).length = w.cur.length := by simp [Gw.put]
theorem Gw.put_flat {w : Gw} (es : List Int) (h : w.t < w.cur.length) : (w.put es).flatten.length = w.cur.flatten.length + es.length := by
  have := set_flat (m := w.cur) (i := w.t) (r := w.cur[w.t] ++ es) h
  unfold Gw.put
  rw [List.getElem?_eq_getElem h]
  simp only [Option.getD_some]
  rw [List.length_append] at this
  omega
theorem Gw.ok_start : Gw.start.Ok 0 := ⟨by simp [Gw.start], by simp [Gw.start], by simp [Gw.start], by simp [Gw.start], by simp [Gw.start], by simp [Gw.start], by simp [Gw.start]⟩
theorem Gw.ok_step {nm : List Int} {n : Nat} {w : Gw} (h : w.Ok n) (c : Int) : (w.step nm c).Ok (n + 1) := by
  unfold Gw.step
  have ht := h.t
  have hl := h.len
  have hcl := h.cl
  have hdl := h.dl
  have htr := h.trl
  have hus := h.us
  simp only
  split
  · split
    · refine ⟨by simp only [Gw.put_len]; exact ht, fun u hu => by simp only [Gw.put_len]; exact h.tr u hu, ?_, by simp only [Gw.put_len]; omega, by simp only; omega, by simp only; omega, by simp only; omega⟩
      simp only [Gw.put_flat _ ht, List.length_append, List.length_cons, List.length_nil]; omega
    · refine ⟨by simp only [List.length_append, Gw.put_len, List.length_cons, List.length_nil]; omega, fun u hu => ?_, ?_, by simp only [List.length_append, Gw.put_len, List.length_cons, List.length_nil]; omega, by simp only; omega, by simp only [List.length_append, List.length_cons, List.length_nil]; omega, by simp only; omega⟩
      · simp only [List.length_append, Gw.put_len, List.length_cons, List.length_nil]
        simp only [List.mem_append, List.mem_singleton] at hu
        rcases hu with hu | rfl
        · have := h.tr u hu; omega
        · omega
      · simp only [List.flatten_append, List.length_append, Gw.put_flat _ ht, List.flatten_cons, List.flatten_nil, List.length_cons, List.length_nil]; omega
  · split
    · split
      · exact ⟨ht, h.tr, by omega, by omega, by omega, by omega, by omega⟩
      · rename_i hne
        have hpos : 0 < w.left.length := List.length_pos_iff.mpr hne
        have hj := emod_lt (a := c / 16) (b := (w.left.length : Int)) (by omega)
        refine ⟨by simp only [Gw.put_len]; exact ht, fun u hu => by simp only [Gw.put_len]; exact h.tr u hu, ?_, by simp only [Gw.put_len]; omega, by simp only; omega, by simp only; omega, by simp only; omega⟩
        simp only [Gw.put_flat _ ht, List.length_cons, List.length_nil]
        rw [List.length_eraseIdx_of_lt (by omega)]; omega
    · split
      · split
        · rename_i u hu
          have hm : u ∈ w.tr := List.mem_of_getLast? hu
          refine ⟨h.tr u hm, fun v hv => h.tr v ((List.dropLast_subset _ hv)), by simp only; omega, by simp only; omega, by simp only; omega, by simp only [List.length_dropLast]; omega, by simp only; omega⟩
        · exact ⟨ht, h.tr, by omega, by omega, by omega, by omega, by omega⟩
      · exact ⟨by simp, by simp, by simp, by simp, by simp; omega, by simp, by simp only; omega⟩
@[simp] theorem mp_snoc {o : Bool} {ms : List (List (List Int))} {m : List (List Int)} : mapsT o (ms ++ [m]) = mapsT o ms ++ [.box o .lst (m.map (rowT o))] := by simp [mapsT]
theorem pop_at {l : List Int} {j : Int} (h0 : 0 ≤ j) (h1 : j < l.length) (hz : l.length < 2 ^ 40) : popF (l.map aI) [.atm (.int j)] = some (true, (l.eraseIdx j.toNat).map aI, aI (l[j.toNat]?.getD 0)) := by
  have h2 : j.toNat < l.length := by omega
  have h3 := (L2.ixN_seq (n := l.length) (i := j) (j := j.toNat) (by simp [h0, h1])).1
  have h4 : -(2 ^ 63) ≤ j ∧ j < 2 ^ 63 := by omega
  simp only [popF, h4, and_self, if_true, List.length_map, h3, List.getElem?_map, List.getElem?_eq_getElem h2, Option.map_some, Option.getD_some]
  rw [map_erase]
theorem pop_last {xs : List T} {x : T} : popF (xs ++ [x]) [] = some (true, xs, x) := by
  simp [popF]
@[simp] theorem below_ne {i j : Nat} {q p : List Nat} (h : j ≠ i) : below (.sl i) q (.sl j) p = false := by simp [below, h]
end TL
namespace TL
open PySem PySem.Spec L2
/-! ## What the word maps have for ends -/
theorem nStep_ok (ns : List Int) : 1 ≤ nStep ns ∧ nStep ns ≤ 10 ^ 58 := by unfold nStep; split <;> constructor <;> omega
theorem nShift_ok (ns : List Int) : 0 ≤ nShift ns ∧ nShift ns < 10 ^ 58 := by unfold nShift; split <;> constructor <;> omega
theorem name_ok (ns : List Int) (k : Nat) : 0 < nameOf ns k ∧ nameOf ns k < 10 ^ 60 := by
  unfold nameOf
  obtain ⟨s1, s2⟩ := nStep_ok ns
  obtain ⟨s3, s4⟩ := nShift_ok ns
  generalize hu : ((1 + cellAt ns 0 / 3 % 66) * (k : Int) + cellAt ns 0 / 198 % 67) % 67 + 1 = u
  have u1 : 1 ≤ u ∧ u ≤ 67 := by omega
  generalize nStep ns = st at s1 s2 ⊢
  generalize nShift ns = sh at s3 s4 ⊢
  have m1 : 1 * 1 ≤ st * u := Int.mul_le_mul s1 u1.1 (by omega) (by omega)
  have m2 : st * u ≤ 10 ^ 58 * 67 := Int.mul_le_mul s2 u1.2 (by omega) (by omega)
  generalize st * u = w at m1 m2 ⊢
  omega
theorem acr2 {a b c : Int} (h : a + c = b + c) : a = b := by omega
theorem name_inj (ns : List Int) {k k' : Nat} (h1 : k ≤ 66) (h1' : k' ≤ 66) (h : nameOf ns k = nameOf ns k') : k = k' := by
  unfold nameOf at h
  obtain ⟨s1, s2⟩ := nStep_ok ns
  have h2 := Int.eq_of_mul_eq_mul_left (a := nStep ns) (by omega) (acr2 h)
  have ht1 : 1 ≤ 1 + cellAt ns 0 / 3 % 66 := by omega
  have ht2 : 1 + cellAt ns 0 / 3 % 66 ≤ 66 := by omega
  rcases Nat.le_total k' k with q | q
  · have := lin67 ht1 ht2 (k := (k : Int)) (k' := (k' : Int)) (by omega) (by omega) (acr h2); omega
  · have := lin67 ht1 ht2 (k := (k' : Int)) (k' := (k : Int)) (by omega) (by omega) (acr h2).symm; omega
/-- the ends of n roads -/
def nds (ns : List Int) (n : Nat) : List Int := (List.range n).flatMap fun k => [nameOf ns k, -nameOf ns k]
theorem put_perm {w : Gw} (es : List Int) (h : w.t < w.cur.length) : (w.put es).flatten.Perm (w.cur.flatten ++ es) := by
  unfold Gw.put
  rw [List.getElem?_eq_getElem h]
  simp only [Option.getD_some]
  have : ∀ (m : List (List Int)) (i : Nat) (hi : i < m.length), (m.set i (m[i] ++ es)).flatten.Perm (m.flatten ++ es) := by
    intro m
    induction m with
    | nil => intro i hi; simp at hi
    | cons x m ih =>
      intro i hi
      cases i with
      | zero =>
        simp only [List.set_cons_zero, List.getElem_cons_zero, List.flatten_cons, List.append_assoc]
        exact List.Perm.append_left x List.perm_append_comm
      | succ i =>
        simp only [List.set_cons_succ, List.getElem_cons_succ, List.flatten_cons, List.append_assoc]
        exact List.Perm.append_left x (ih i (by simpa using hi))
  exact this w.cur w.t h
/-- all ends: those laid, those open -/
def Gw.all (w : Gw) : List Int := w.done.flatten.flatten ++ (w.cur.flatten ++ w.left)
theorem nds_succ (ns : List Int) (n : Nat) : nds ns (n + 1) = nds ns n ++ [nameOf ns n, -nameOf ns n] := by simp [nds, List.range_succ]
theorem names_at (ns : List Int) {k : Nat} (h : k < 66) : (namesL ns)[k]?.getD 0 = nameOf ns k := by simp [namesL, h]
theorem perm_mid {a b c d : List Int} : (a ++ b ++ (c ++ d)).Perm (a ++ c ++ (b ++ d)) := by
  rw [List.append_assoc, List.append_assoc]
  refine List.Perm.append_left a ?_
  rw [← List.append_assoc, ← List.append_assoc]
  exact List.perm_append_comm.append_right d
theorem pop_perm : ∀ (l : List Int) (i : Nat) (h : i < l.length), ([l[i]] ++ l.eraseIdx i).Perm l
  | [], i, h => by simp at h
  | x :: l, 0, h => by simp
  | x :: l, i + 1, h => by
    simp only [List.getElem_cons_succ, List.eraseIdx_cons_succ]
    have := pop_perm l i (by simpa using h)
    exact (List.Perm.swap _ _ _).trans (List.Perm.cons x this)
theorem Gw.perm_step {ns : List Int} {n : Nat} {w : Gw} (ok : w.Ok n) (hn : n < 66) (h : w.all.Perm (nds ns w.used)) (c : Int) : (w.step (namesL ns) c).all.Perm (nds ns (w.step (namesL ns) c).used) := by
  have ht := ok.t
  have hu : w.used < 66 := by have := ok.us; omega
  have hnm := names_at ns hu
  have two : ∀ e : Int, (e = nameOf ns w.used ∨ e = -nameOf ns w.used) → ∀ l l' : List Int, l.Perm (w.all ++ [e, -e]) → l.Perm (nds ns (w.used + 1)) := by
    intro e he l _ hl
    rw [nds_succ]
    refine hl.trans (h.append ?_)
    rcases he with rfl | rfl
    · exact .refl _
    · rw [Int.neg_neg]; exact .swap _ _ _
  have hor : (if c / 8 % 2 = 1 then -(namesL ns)[w.used]?.getD 0 else (namesL ns)[w.used]?.getD 0) = nameOf ns w.used ∨ (if c / 8 % 2 = 1 then -(namesL ns)[w.used]?.getD 0 else (namesL ns)[w.used]?.getD 0) = -nameOf ns w.used := by
    rw [hnm]; split
    · exact .inr rfl
    · exact .inl rfl
  unfold Gw.step
  simp only
  generalize (if c / 8 % 2 = 1 then -(namesL ns)[w.used]?.getD 0 else (namesL ns)[w.used]?.getD 0) = e at hor
  split
  · split
    · refine two e hor _ [] ?_
      simp only [Gw.all]
      rw [List.append_assoc]
      refine List.Perm.append_left _ ?_
      refine ((put_perm [e] ht).append_right _).trans ?_
      have : (w.cur.flatten ++ [e] ++ (w.left ++ [-e])).Perm (w.cur.flatten ++ w.left ++ ([e] ++ [-e])) := perm_mid
      simpa using this
    · refine two e hor _ [] ?_
      simp only [Gw.all]
      rw [List.append_assoc]
      refine List.Perm.append_left _ ?_
      rw [List.flatten_append]
      refine (((put_perm [e] ht).append_right _).append_right _).trans ?_
      have : (w.cur.flatten ++ ([e] ++ [-e]) ++ (w.left ++ [])).Perm (w.cur.flatten ++ w.left ++ (([e] ++ [-e]) ++ [])) := perm_mid
      simpa using this
  · split
    · split
      · exact h
      · rename_i hne
        have hpos : 0 < w.left.length := List.length_pos_iff.mpr hne
        have hj := emod_lt (a := c / 16) (b := (w.left.length : Int)) (by omega)
        generalize c / 16 % (w.left.length : Int) = j at hj
        have hjl : j.toNat < w.left.length := by omega
        refine List.Perm.trans ?_ h
        simp only [Gw.all]
        refine List.Perm.append_left _ ?_
        refine ((put_perm _ ht).append_right _).trans ?_
        rw [List.append_assoc]
        refine List.Perm.append_left _ ?_
        rw [List.getElem?_eq_getElem hjl]
        simp only [Option.getD_some]
        exact pop_perm _ _ hjl
    · split
      · split
        · exact h
        · exact h
      · refine List.Perm.trans ?_ h
        simp only [Gw.all, List.flatten_append, List.flatten_cons, List.flatten_nil, List.append_nil]
        refine List.Perm.append_left _ ?_
        exact put_perm _ ht
theorem Gw.perm_fold {ns : List Int} (cs : List Int) (hl : cs.length ≤ 65) : (cs.foldl (Gw.step (namesL ns)) Gw.start).Ok cs.length ∧ (cs.foldl (Gw.step (namesL ns)) Gw.start).all.Perm (nds ns (cs.foldl (Gw.step (namesL ns)) Gw.start).used) := by
  have : ∀ n, n ≤ cs.length → ((cs.take n).foldl (Gw.step (namesL ns)) Gw.start).Ok n ∧ ((cs.take n).foldl (Gw.step (namesL ns)) Gw.start).all.Perm (nds ns ((cs.take n).foldl (Gw.step (namesL ns)) Gw.start).used) := by
    intro n
    induction n with
    | zero => intro _; exact ⟨Gw.ok_start, by simp [Gw.all, Gw.start, nds]⟩
    | succ n ih =>
      intro hn
      obtain ⟨h1, h2⟩ := ih (by omega)
      rw [List.take_succ_eq_append_getElem (by omega), List.foldl_append]
      simp only [List.foldl_cons, List.foldl_nil]
      exact ⟨Gw.ok_step h1 _, Gw.perm_step h1 (by omega) h2 _⟩
  have := this cs.length (Nat.le_refl _)
  rwa [List.take_length] at this
/-- the parts' ends -/
theorem parts_perm {ns : List Int} (cs : List Int) (hl : cs.length ≤ 65) : ∃ n, n ≤ cs.length ∧ (partsL (namesL ns) cs).flatten.flatten.Perm (nds ns n) := by
  obtain ⟨h1, h2⟩ := Gw.perm_fold (ns := ns) cs hl
  refine ⟨_, h1.us, ?_⟩
  refine List.Perm.trans ?_ h2
  unfold partsL
  simp only [Gw.all, List.flatten_append, List.flatten_cons, List.flatten_nil, List.append_nil]
  exact List.Perm.append_left _ (put_perm _ h1.t)
theorem nds_mem {ns : List Int} {n : Nat} {e : Int} (h : e ∈ nds ns n) : e ≠ 0 ∧ e.natAbs < 10 ^ 60 := by
  obtain ⟨k, _, h⟩ := List.mem_flatMap.mp h
  have := name_ok ns k
  simp at h
  rcases h with rfl | rfl <;> omega
theorem nds_closed {ns : List Int} {n : Nat} {e : Int} (h : e ∈ nds ns n) : -e ∈ nds ns n := by
  obtain ⟨k, hk, h⟩ := List.mem_flatMap.mp h
  refine List.mem_flatMap.mpr ⟨k, hk, ?_⟩
  simp at h ⊢
  rcases h with rfl | rfl <;> omega
theorem nds_len (ns : List Int) (n : Nat) : (nds ns n).length = 2 * n := by simp [nds, List.length_flatMap, List.map_const', Nat.mul_comm]
theorem nds_nodup {ns : List Int} {n : Nat} (hn : n ≤ 66) : (nds ns n).Nodup := by
  induction n with
  | zero => simp [nds]
  | succ n ih =>
    rw [nds_succ, List.nodup_append]
    have hp := name_ok ns n
    refine ⟨ih (by omega), by simp; omega, fun a ha b hb => ?_⟩
    obtain ⟨k, hk, ha⟩ := List.mem_flatMap.mp ha
    have hk : k < n := by simpa using hk
    have hkp := name_ok ns k
    have hne : nameOf ns k ≠ nameOf ns n := fun q => by have := name_inj ns (by omega) (by omega) q; omega
    simp at ha hb
    rcases ha with rfl | rfl <;> rcases hb with rfl | rfl <;> omega
/-- what a map is, told in any order -/
structure IsMap (m : List (List Int)) (n : Nat) : Prop where
  nd : m.flatten.Nodup
  cl : closed m
  ok : ∀ e ∈ m.flatten, e ≠ 0 ∧ e.natAbs < 10 ^ 60
  len : m.flatten.length = 2 * n
theorem isMap_of {ns : List Int} {n : Nat} {m : List (List Int)} (hn : n ≤ 66) (h : m.flatten.Perm (nds ns n)) : IsMap m n :=
  ⟨by rw [h.nodup_iff]; exact nds_nodup hn, fun _ he => h.mem_iff.mpr (nds_closed (h.mem_iff.mp he)), fun e he => nds_mem (h.mem_iff.mp he), by rw [h.length_eq, nds_len]⟩
theorem IsMap.good {m : List (List Int)} {n : Nat} (h : IsMap m n) : IsMap (goodL m) n := by
  have p := goodL_perm m
  exact ⟨by rw [p.nodup_iff]; exact h.nd, fun _ he => p.mem_iff.mpr (h.cl _ (p.mem_iff.mp he)), fun e he => h.ok e (p.mem_iff.mp he), by rw [p.length_eq]; exact h.len⟩
end TL
namespace TL
open PySem PySem.Spec L2
/-! ## The word maps' functions -/
theorem q_cell {ns : List Int} {k : Nat} : q_w_cell ns (k : Int) = some (cellAt ns k) := by
  unfold q_w_cell
  simp only [Option.bind_some, o2_s]
  by_cases h : k < ns.length
  · simp [h, pyIx_k h, cellAt]
  · simp [h, cellAt]
theorem q_cell0 {ns : List Int} : q_w_cell ns 0 = some (cellAt ns 0) := q_cell (k := 0)
theorem q_cell1 {ns : List Int} : q_w_cell ns 1 = some (cellAt ns 1) := q_cell (k := 1)
theorem q_cell2 {ns : List Int} : q_w_cell ns 2 = some (cellAt ns 2) := q_cell (k := 2)
theorem fd {i j : Int} (h : 0 < j) (h2 : j < 2 ^ 64) : fdivO i j = some (i / j) := fdivO_s h (by omega)
theorem q_names {ns : List Int} : q_w_names ns = some (namesL ns) := by
  unfold q_w_names
  have e3 : ∀ i : Int, fdivO i 3 = some (i / 3) := fun i => fd (by decide) (by decide)
  have e198 : ∀ i : Int, fdivO i 198 = some (i / 198) := fun i => fd (by decide) (by decide)
  have m3 : ∀ i : Int, modO i 3 = some (i % 3) := fun i => modO_s (by decide)
  have m66 : ∀ i : Int, modO i 66 = some (i % 66) := fun i => modO_s (by decide)
  have m67 : ∀ i : Int, modO i 67 = some (i % 67) := fun i => modO_s (by decide)
  have p58 : powO 10 58 = some (10 ^ 58) := powO_s (by decide) (by decide) (by decide)
  have m58 : ∀ i : Int, modO i (10 ^ 58) = some (i % 10 ^ 58) := fun i => modO_s (by decide)
  have r66 : rangeO 66 = some ((List.range 66).map fun k => ((k : Nat) : Int)) := rangeO_n (n := 66) (by decide)
  simp only [Option.bind_some, o2_s, Option.map_some, q_cell0, q_cell1, q_cell2, e3, m3, e198, m66, m67, p58, m58, r66]
  have hs : (if decide (0 < cellAt ns 0 % 3) = true then some ((1 + cellAt ns 1 % 10 ^ 58, cellAt ns 2 % 10 ^ 58) : Int × Int) else some (1, 0)) = some (nStep ns, nShift ns) := by
    unfold nStep nShift
    by_cases h : 0 < cellAt ns 0 % 3 <;> simp [h]
  rw [hs]
  simp only [Option.bind_some]
  have ml : ∀ e : Int, mulO (1 + cellAt ns 0 / 3 % 66) e = some ((1 + cellAt ns 0 / 3 % 66) * e) := fun e => mulO_s (mok66 _ _)
  have mn : ∀ e : Int, mulO (nStep ns) (e % 67 + 1) = some (nStep ns * (e % 67 + 1)) := fun e => mulO_s (mok67 _ _)
  simp only [ml, o2_s, m67, mn, Option.bind_some]
  rw [mpO_map (fun e => nStep ns * (((1 + cellAt ns 0 / 3 % 66) * e + cellAt ns 0 / 198 % 67) % 67 + 1) + nShift ns) (fun _ _ => rfl) (by simp)]
  simp [namesL, nameOf, List.map_map, Function.comp_def]
def Gw.rep (w : Gw) : List (List (List Int)) × List Int × List Int × Int := (w.done ++ [w.cur], cst w.tr ++ [(w.t : Int)], w.left, (w.used : Int))
theorem ixN_cons1 (n : Nat) : ixN (n + 1) (-1) = some n := by simp
theorem ixN_of {n i : Nat} (h : i < n) : ixN n (i : Int) = some i := by simp [ixN, h]
theorem get_snoc {α : Type} {l : List α} {x : α} : (l ++ [x])[l.length]? = some x := by simp
theorem set_snoc {α : Type} {l : List α} {x y : α} : (l ++ [x]).set l.length y = l ++ [y] := by simp
theorem mod_snoc {α : Type} {l : List α} {x : α} {f : α → α} : (l ++ [x]).modify l.length f = l ++ [f x] := by
  apply List.ext_getElem?
  intro i
  simp only [List.getElem?_modify, List.getElem?_append]
  by_cases h : i < l.length
  · have : l.length ≠ i := by omega
    simp [h, this]
  · by_cases h2 : i = l.length
    · subst h2; simp
    · have : l.length ≠ i := fun q => h2 q.symm
      obtain ⟨j, hj⟩ : ∃ j, i - l.length = j + 1 := ⟨i - l.length - 1, by omega⟩
      simp [h, this, hj]
theorem Gw.put_eq {w : Gw} {es : List Int} (h : w.t < w.cur.length) : w.put es = w.cur.set w.t (w.cur[w.t] ++ es) := by simp [Gw.put, h]
theorem List.le_sum_of_mem' (m : List (List Int)) {i : Nat} (h : i < m.length) : (m[i]).length ≤ m.flatten.length := by
  induction m generalizing i with
  | nil => simp at h
  | cons x m ih =>
    cases i with
    | zero => simp
    | succ i => have := ih (i := i) (by simpa using h); simp only [List.getElem_cons_succ, List.flatten_cons, List.length_append]; omega
theorem q_parts {nm cs : List Int} (hn : nm.length = 66) (hl : cs.length ≤ 63) : q_w_parts cs nm = some (partsL nm cs) := by
  unfold q_w_parts
  have d8 : ∀ i : Int, fdivO i 8 = some (i / 8) := fun i => fd (by decide) (by decide)
  have d16 : ∀ i : Int, fdivO i 16 = some (i / 16) := fun i => fd (by decide) (by decide)
  have m8 : ∀ i : Int, modO i 8 = some (i % 8) := fun i => modO_s (by decide)
  have m2 : ∀ i : Int, modO i 2 = some (i % 2) := fun i => modO_s (by decide)
  simp only [Option.bind_some, o2_s, Option.map_some, d8, d16, m8, m2, Option.map_id', Option.map_id_fun', id]
  refine bR (J := fun s => ∃ w : Gw, s = w.rep ∧ w = cs.foldl (Gw.step nm) Gw.start ∧ w.Ok cs.length) ?_ ?_
  · refine eM _ (forO_inv (fun pre s => ∃ w : Gw, s = w.rep ∧ w = pre.foldl (Gw.step nm) Gw.start ∧ w.Ok pre.length) ⟨Gw.start, rfl, rfl, Gw.ok_start⟩ ?_) (fun s h => h)
    rintro pre c post _ e ⟨w, rfl, hw, ok⟩
    have hpl : pre.length < 63 := by have := congrArg List.length e; simp at this; omega
    have ok2 := Gw.ok_step (nm := nm) ok c
    refine ⟨(w.step nm c).rep, ?_, w.step nm c, rfl, by rw [List.foldl_append, ← hw]; rfl, by simpa using ok2⟩
    have ht := ok.t
    have hus : w.used < nm.length := by have := ok.us; omega
    have hlen := ok.len
    have hcl := ok.cl
    have hdl := ok.dl
    have htrl := ok.trl
    have hrow : (w.cur[w.t]).length ≤ w.cur.flatten.length := List.le_sum_of_mem' w.cur ht
    simp only [Gw.rep, List.length_append, List.length_singleton, ixN_cons1, Option.bind_some, pyIx_snoc, get_snoc, ixN_of ht, pyIx_k hus, o2_s, List.getElem?_eq_getElem ht, Option.map_some]
    have hnm : nm[w.used]?.getD 0 = nm[w.used] := by simp [hus]
    unfold Gw.step
    simp only [hnm]
    have he : (if decide (c / 8 % 2 = 1) = true then some (-nm[w.used]) else some nm[w.used]) = some (if c / 8 % 2 = 1 then -nm[w.used] else nm[w.used]) := by by_cases h : c / 8 % 2 = 1 <;> simp [h]
    rw [he]
    simp only [Option.bind_some]
    generalize (if c / 8 % 2 = 1 then -nm[w.used] else nm[w.used]) = en
    have a1 : (w.cur[w.t]).length < 16777216 := by omega
    have hs1 : ∀ y, (w.done ++ [w.cur]).modify w.done.length (fun x => x.set w.t y) = w.done ++ [w.cur.set w.t y] := fun y => mod_snoc
    by_cases h4 : c % 8 < 4
    · simp only [h4, decide_true, if_true, o2_s, appO_s a1, Option.map_some, Option.bind_some, hs1]
      by_cases h2 : c % 8 < 2
      · have a2 : w.left.length < 16777216 := by omega
        simp only [h2, decide_true, if_true, appO_s a2, Option.map_some, Gw.put_eq ht]
        rfl
      · have a3 : (cst w.tr ++ [(w.t : Int)]).length < 16777216 := by simp; omega
        have a4 : (w.cur.set w.t (w.cur[w.t] ++ [en])).length < 16777216 := by simp; omega
        simp only [h2, decide_false, Bool.false_eq_true, if_false, pyIx_snoc, Option.bind_some, appO_s a3, Option.map_some, List.length_append, List.length_singleton, ixN_cons1, o2_s, get_snoc, appO_s a4, set_snoc, Gw.put_eq ht]
        simp [cst]
    · simp only [h4, decide_false, Bool.false_eq_true, if_false]
      by_cases h6 : c % 8 < 6
      · simp only [h6, decide_true, if_true]
        by_cases hne : w.left = []
        · simp [hne]
        · have hpos : 0 < w.left.length := List.length_pos_iff.mpr hne
          have hj := emod_lt (a := c / 16) (b := (w.left.length : Int)) (by omega)
          have hmo : modO (c / 16) (w.left.length : Int) = some (c / 16 % (w.left.length : Int)) := modO_s (by omega)
          have hem : w.left.isEmpty = false := by simpa using hne
          have hjl : (c / 16 % (w.left.length : Int)).toNat < w.left.length := by omega
          have hgd : w.left[(c / 16 % (w.left.length : Int)).toNat]?.getD 0 = w.left[(c / 16 % (w.left.length : Int)).toNat] := by simp [hjl]
          simp only [hem, Bool.not_false, if_true, hmo, Option.bind_some, popAtO_n hj.1 hj.2 (by omega), o2_s, appO_s a1, Option.map_some, hs1, hne, if_false, Gw.put_eq ht, hgd]
      · simp only [h6, decide_false, Bool.false_eq_true, if_false]
        by_cases h7 : c % 8 = 6
        · simp only [h7, decide_true, if_true]
          cases hlast : w.tr.getLast? with
          | none =>
            have : w.tr = [] := by simpa using hlast
            simp [this, cst]
          | some u =>
            obtain ⟨tr', htr'⟩ := List.getLast?_eq_some_iff.mp hlast
            have h1 : cst w.tr ++ [(w.t : Int)] = cst w.tr ++ [(w.t : Int)] := rfl
            have hln : (decide ((1 : Int) < ((cst w.tr).length + 1 : Nat))) = true := by simp [htr']; omega
            simp only [cst_len] at hln ⊢
            simp only [hln, if_true, popO_snoc, Option.map_some]
            simp [htr', cst]
        · have a5 : (w.cur[w.t]).length + w.left.length ≤ 16777216 := by omega
          have a6 : (w.done ++ [w.cur.set w.t (w.cur[w.t] ++ w.left)]).length < 16777216 := by simp; omega
          simp only [h7, decide_false, Bool.false_eq_true, if_false, catO_s a5, Option.map_some, hs1, Option.bind_some, o2_s, appO_s a6, Gw.put_eq ht]
          simp [cst]
  · rintro _ ⟨w, rfl, hw, ok⟩
    have ht := ok.t
    have hlen := ok.len
    have hrow : (w.cur[w.t]).length ≤ w.cur.flatten.length := List.le_sum_of_mem' w.cur ht
    have a5 : (w.cur[w.t]).length + w.left.length ≤ 16777216 := by omega
    simp only [Gw.rep, List.length_append, List.length_singleton, ixN_cons1, Option.bind_some, pyIx_snoc, get_snoc, ixN_of ht, o2_s, List.getElem?_eq_getElem ht, Option.map_some, catO_s a5]
    rw [mod_snoc]
    simp only [partsL, ← hw, Gw.put_eq ht]
end TL
namespace TL
open PySem PySem.Spec L2
/-! ## Rows compared: an order -/
structure StrictTot {α : Type} (lt : α → α → Bool) : Prop where
  irr : ∀ a, lt a a = false
  tr : ∀ a b c, lt a b = true → lt b c = true → lt a c = true
  tot : ∀ a b, a ≠ b → lt a b = true ∨ lt b a = true
section
variable {α : Type} [DecidableEq α] {lt : α → α → Bool}
theorem lexB_irr (h : StrictTot lt) : ∀ a : List α, lexB lt a a = false
  | [] => rfl
  | x :: xs => by simp only [lexB, if_true]; exact lexB_irr h xs
theorem lexB_tr (h : StrictTot lt) : ∀ a b c : List α, lexB lt a b = true → lexB lt b c = true → lexB lt a c = true
  | [], [], _, h1, _ => by simp [lexB] at h1
  | [], _ :: _, [], _, h2 => by simp [lexB] at h2
  | [], _ :: _, _ :: _, _, _ => rfl
  | _ :: _, [], _, h1, _ => by simp [lexB] at h1
  | _ :: _, _ :: _, [], _, h2 => by simp [lexB] at h2
  | x :: xs, y :: ys, z :: zs, h1, h2 => by
    simp only [lexB] at h1 h2 ⊢
    by_cases e1 : x = y
    · subst e1
      by_cases e2 : x = z
      · subst e2; simp only [if_true] at *; exact lexB_tr h xs ys zs h1 h2
      · simp only [if_true, e2, if_false] at *; exact h2
    · simp only [e1, if_false] at h1
      by_cases e2 : y = z
      · subst e2; simp only [if_true, e1, if_false] at *; exact h1
      · simp only [e2, if_false] at h2
        have h3 := h.tr x y z h1 h2
        have : x ≠ z := fun q => by subst q; rw [h.irr] at h3; cases h3
        simp only [this, if_false]; exact h3
theorem lexB_tot (h : StrictTot lt) : ∀ a b : List α, a ≠ b → lexB lt a b = true ∨ lexB lt b a = true
  | [], [], e => absurd rfl e
  | [], _ :: _, _ => .inl rfl
  | _ :: _, [], _ => .inr rfl
  | x :: xs, y :: ys, e => by
    simp only [lexB]
    by_cases e1 : x = y
    · subst e1
      simp only [if_true]
      exact lexB_tot h xs ys fun q => e (by rw [q])
    · have : y ≠ x := fun q => e1 q.symm
      simp only [e1, this, if_false]; exact h.tot x y e1
theorem strict_lex (h : StrictTot lt) : StrictTot (lexB lt) := ⟨lexB_irr h, lexB_tr h, lexB_tot h⟩
theorem strict_R : StrictTot ltR := ⟨fun a => by simp [ltR, List.lt_irrefl], fun a b c h1 h2 => by
  simp only [ltR, decide_eq_true_eq] at *; exact List.lt_trans h1 h2, fun a b e => by
  simp only [ltR, decide_eq_true_eq]
  rcases List.le_total a b with h | h
  · left
    rcases Classical.em (a < b) with q | q
    · exact q
    · exact absurd (List.le_antisymm h (List.not_lt.mp q)) e
  · right
    rcases Classical.em (b < a) with q | q
    · exact q
    · exact absurd (List.le_antisymm (List.not_lt.mp q) h) e⟩
/-- not greater -/
theorem le_tr (h : StrictTot lt) {a b c : α} (h1 : (!lt b a) = true) (h2 : (!lt c b) = true) : (!lt c a) = true := by
  simp only [Bool.not_eq_true'] at *
  cases e : lt c a with
  | false => rfl
  | true =>
    by_cases q : a = b
    · subst q; rw [e] at h2; cases h2
    · rcases h.tot a b q with q | q
      · have := h.tr c a b e q; rw [this] at h2; cases h2
      · rw [q] at h1; cases h1
theorem le_tot (h : StrictTot lt) (a b : α) : ((!lt b a) || (!lt a b)) = true := by
  cases e : lt b a with
  | false => rfl
  | true =>
    cases e2 : lt a b with
    | false => rfl
    | true => have := h.tr a b a e2 e; rw [h.irr] at this; cases this
theorem le_anti (h : StrictTot lt) {a b : α} (h1 : (!lt b a) = true) (h2 : (!lt a b) = true) : a = b := by
  simp only [Bool.not_eq_true'] at *
  by_cases q : a = b
  · exact q
  · rcases h.tot a b q with q | q
    · rw [q] at h2; cases h2
    · rw [q] at h1; cases h1
theorem sort_pair (h : StrictTot lt) (xs : List α) : (xs.mergeSort fun a b => !lt b a).Pairwise fun a b => (!lt b a) = true :=
  List.pairwise_mergeSort (le := fun a b => !lt b a) (fun a b c h1 h2 => le_tr h h1 h2) (fun a b => le_tot h a b) xs
/-- a list in order is the sorted one of each list with the same things -/
theorem sort_eq (h : StrictTot lt) {xs ys : List α} (p : ys.Perm xs) (s : ys.Pairwise fun a b => (!lt b a) = true) : ys = xs.mergeSort fun a b => !lt b a :=
  (p.trans (List.mergeSort_perm xs _).symm).eq_of_pairwise (fun a b _ _ h1 h2 => le_anti h h1 h2) s (sort_pair h xs)
end
theorem strict_M : StrictTot (lexB ltR) := strict_lex strict_R
theorem sortM_eq {xs ys : List (List (List Int))} (p : ys.Perm xs) (s : ys.Pairwise fun a b => leM a b = true) : ys = xs.mergeSort leM := sort_eq strict_M p s
end TL
namespace TL
open PySem PySem.Spec L2
/-! ## The pieces of a map of parts -/
/-- a place without roads alone, or places that hang together -/
structure Part (p : List (List Int)) : Prop where
  cl : closed p
  nd : p.flatten.Nodup
  un : p = [[]] ∨ (p ≠ [] ∧ (∀ r ∈ p, r ≠ []) ∧ ∀ i j, i < p.length → j < p.length → Con p i j)
theorem goodL_mem {m : List (List Int)} {r : List Int} : r ∈ goodL m ↔ ∃ r' ∈ m, turnedL r' = r := by
  unfold goodL
  rw [srtR_perm.mem_iff, List.mem_map]
theorem turned_mem {r : List Int} {e : Int} : e ∈ turnedL r ↔ e ∈ r := turned_perm.mem_iff
theorem turned_nil {r : List Int} : turnedL r = [] ↔ r = [] := by
  constructor
  · intro h; have := turned_len (xs := r); rw [h] at this; exact List.length_eq_zero_iff.mp this.symm
  · rintro rfl; rfl
theorem goodL_len' {m : List (List Int)} : (goodL m).length = m.length := by simp [goodL]
/-- rows of ends: one holds an end -/
theorem row_uniq {m : List (List Int)} (nd : m.flatten.Nodup) {i j : Nat} {e : Int} (hi : i < m.length) (hj : j < m.length) (h1 : e ∈ m[i]) (h2 : e ∈ m[j]) : i = j := by
  have a := plD_get nd (List.getElem?_eq_getElem hi) h1
  have b := plD_get nd (List.getElem?_eq_getElem hj) h2
  rw [a] at b
  simp only [Option.some.injEq] at b
  omega
theorem comp_head {m : List (List Int)} {k : Nat} (h : k ∈ firsts m) : ∃ t, comp m k = k :: t := by
  unfold firsts at h
  rw [List.mem_filter] at h
  simp only [List.mem_range, decide_eq_true_eq] at h
  have hk : k ∈ comp m k := mem_comp.mpr (.refl h.1)
  cases hc : comp m k with
  | nil => rw [hc] at hk; simp at hk
  | cons x t =>
    refine ⟨t, ?_⟩
    have hx : Con m k x := mem_comp.mp (by rw [hc]; simp)
    have hlt := comp_lt (m := m) (k := k)
    rw [hc] at hlt hk
    rcases List.mem_cons.mp hk with q | q
    · rw [q]
    · have := (List.pairwise_cons.mp hlt).1 k q
      exact absurd hx (h.2 x this)
section
variable {P : List (List (List Int))}
theorem good_nd (nd : P.flatten.flatten.Nodup) : (goodL P.flatten).flatten.Nodup := by
  rw [(goodL_perm P.flatten).nodup_iff]; exact nd
theorem part_sub {p : List (List Int)} (hp : p ∈ P) {r : List Int} (hr : r ∈ p) : turnedL r ∈ goodL P.flatten := goodL_mem.mpr ⟨r, List.mem_flatten.mpr ⟨p, hp, hr⟩, rfl⟩
/-- what is joined in the map is joined in the part -/
theorem con_in (hP : ∀ p ∈ P, Part p) (nd : P.flatten.flatten.Nodup) {p : List (List Int)} (hp : p ∈ P) {k j : Nat} (h : Con (goodL P.flatten) k j) (hk : rowN (goodL P.flatten) k ∈ p.map turnedL) : rowN (goodL P.flatten) j ∈ p.map turnedL := by
  induction h with
  | refl _ => exact hk
  | @step j l _ a ih =>
    obtain ⟨r, hr, he⟩ := List.mem_map.mp ih
    obtain ⟨h1, h2, e, he1, he2⟩ := a
    rw [← he, turned_mem] at he1
    have hc := (hP p hp).cl e (List.mem_flatten.mpr ⟨r, hr, he1⟩)
    obtain ⟨r', hr', hre⟩ := List.mem_flatten.mp hc
    obtain ⟨i, hi, hir⟩ := List.mem_iff_getElem.mp (part_sub hp hr')
    rw [rowN_get h2] at he2
    have : i = l := row_uniq (good_nd nd) hi h2 (by rw [hir, turned_mem]; exact hre) he2
    subst this
    rw [rowN_get h2, hir]
    exact List.mem_map.mpr ⟨r', hr', rfl⟩
theorem con_out (nd : P.flatten.flatten.Nodup) {p : List (List Int)} (hp : p ∈ P) (hne : ∀ r ∈ p, r ≠ []) {i j : Nat} (h : Con p i j) : ∀ a b, a < (goodL P.flatten).length → b < (goodL P.flatten).length → rowN (goodL P.flatten) a = turnedL (rowN p i) → rowN (goodL P.flatten) b = turnedL (rowN p j) → Con (goodL P.flatten) a b := by
  induction h with
  | @refl hi =>
    intro a b ha hb ea eb
    have hn := hne _ (rowN_mem hi)
    obtain ⟨e, t, he⟩ := List.exists_cons_of_ne_nil hn
    have : a = b := row_uniq (good_nd nd) ha hb (e := e) (by rw [← rowN_get ha, ea, turned_mem, he]; simp) (by rw [← rowN_get hb, eb, turned_mem, he]; simp)
    subst this; exact .refl ha
  | @step j l h1 a ih =>
    intro x y hx hy ex ey
    obtain ⟨hj, hl, e, he1, he2⟩ := a
    obtain ⟨z, hz, ez⟩ := List.mem_iff_getElem.mp (part_sub hp (rowN_mem hj))
    have hzz : rowN (goodL P.flatten) z = turnedL (rowN p j) := by rw [rowN_get hz, ez]
    exact (ih x z hx hz ex hzz).step ⟨hz, hy, e, by rw [hzz, turned_mem]; exact he1, by rw [ey, turned_mem]; exact he2⟩
theorem rows_sorted {m : List (List Int)} (hs : m.Pairwise (· ≤ ·)) (k : Nat) : ((comp m k).map (rowN m)).Pairwise (· ≤ ·) := by
  rw [List.pairwise_map]
  refine List.Pairwise.imp_of_mem (R := (· < ·)) ?_ comp_lt
  intro a b ha hb hab
  have h1 := (mem_comp.mp ha).lt.2
  have h2 := (mem_comp.mp hb).lt.2
  rw [rowN_get h1, rowN_get h2]
  exact List.pairwise_iff_getElem.mp hs a b h1 h2 hab
/-- the piece of a place with roads is its part, in good order -/
theorem comp_part (hP : ∀ p ∈ P, Part p) (nd : P.flatten.flatten.Nodup) {p : List (List Int)} (hp : p ∈ P) (hne : p ≠ [[]]) {k : Nat} (hk : k < (goodL P.flatten).length) (hr : rowN (goodL P.flatten) k ∈ p.map turnedL) : (comp (goodL P.flatten) k).map (rowN (goodL P.flatten)) = goodL p := by
  have hpp := hP p hp
  rcases hpp.un with q | ⟨hp0, hrn, hcon⟩
  · exact absurd q hne
  refine row_sorted_eq ?_ (rows_sorted goodL_sorted k) goodL_sorted
  have hnd1 : ((comp (goodL P.flatten) k).map (rowN (goodL P.flatten))).Nodup := by
    rw [List.Nodup, List.pairwise_map]
    refine List.Pairwise.imp_of_mem (R := (· < ·)) ?_ comp_lt
    intro a b ha hb hab heq
    have h1 := (mem_comp.mp ha).lt.2
    have h2 := (mem_comp.mp hb).lt.2
    obtain ⟨r, hr1, hr2⟩ := List.mem_map.mp (con_in hP nd hp (mem_comp.mp ha) hr)
    obtain ⟨e, t, he⟩ := List.exists_cons_of_ne_nil (hrn r hr1)
    have hea : e ∈ rowN (goodL P.flatten) a := by rw [← hr2, turned_mem, he]; simp
    have := row_uniq (good_nd nd) h1 h2 (e := e) (by rw [← rowN_get h1]; exact hea) (by rw [← rowN_get h2, ← heq]; exact hea)
    omega
  have hnd2 : (goodL p).Nodup := by
    unfold goodL
    rw [srtR_perm.nodup_iff, List.Nodup, List.pairwise_map]
    have : p.Nodup := by
      rw [List.Nodup, List.pairwise_iff_getElem]
      intro i j hi hj hij heq
      obtain ⟨e, t, he⟩ := List.exists_cons_of_ne_nil (hrn _ (List.getElem_mem hi))
      have := row_uniq hpp.nd hi hj (e := e) (by rw [he]; simp) (by rw [← heq, he]; simp)
      omega
    refine List.Pairwise.imp_of_mem (R := (· ≠ ·)) ?_ this
    intro a b ha hb hab heq
    obtain ⟨e, t, he⟩ := List.exists_cons_of_ne_nil (hrn a ha)
    have h1 : e ∈ a := by rw [he]; simp
    have h2 : e ∈ b := by rw [← turned_mem, ← heq, turned_mem]; exact h1
    obtain ⟨i, hi, rfl⟩ := List.mem_iff_getElem.mp ha
    obtain ⟨j, hj, rfl⟩ := List.mem_iff_getElem.mp hb
    have := row_uniq hpp.nd hi hj h1 h2
    subst this
    exact hab rfl
  rw [List.perm_ext_iff_of_nodup hnd1 hnd2]
  intro r
  rw [List.mem_map, goodL_mem]
  constructor
  · rintro ⟨j, hj, rfl⟩
    obtain ⟨r, hr1, hr2⟩ := List.mem_map.mp (con_in hP nd hp (mem_comp.mp hj) hr)
    exact ⟨r, hr1, hr2⟩
  · rintro ⟨r', hr', rfl⟩
    obtain ⟨i, hi, hie⟩ := List.mem_iff_getElem.mp (part_sub hp hr')
    refine ⟨i, mem_comp.mpr ?_, by rw [rowN_get hi, hie]⟩
    obtain ⟨r0, hr0, hr0e⟩ := List.mem_map.mp hr
    obtain ⟨x, hx, rfl⟩ := List.mem_iff_getElem.mp hr0
    obtain ⟨y, hy, rfl⟩ := List.mem_iff_getElem.mp hr'
    refine con_out nd hp hrn (hcon x y hx hy) k i hk hi ?_ ?_
    · rw [← hr0e, rowN_get hx]
    · rw [rowN_get hi, hie, rowN_get hy]
theorem comp_bare {m : List (List Int)} {k : Nat} (hk : k < m.length) (hr : rowN m k = []) : comp m k = [k] := by
  have h : ∀ j, Con m k j → j = k := by
    intro j h
    induction h with
    | refl _ => rfl
    | step _ a ih =>
      subst ih
      obtain ⟨_, _, e, he, _⟩ := a
      rw [hr] at he; simp at he
  have h1 : (comp m k).Perm [k] := by
    rw [List.perm_ext_iff_of_nodup comp_nd (by simp)]
    intro j
    rw [mem_comp, List.mem_singleton]
    exact ⟨h j, fun q => by subst q; exact .refl hk⟩
  exact List.perm_singleton.mp h1
theorem first_of {m : List (List Int)} {k : Nat} (hk : k < m.length) : ∃ f ∈ firsts m, Con m f k := by
  induction k using Nat.strongRecOn with
  | _ k ih =>
    by_cases h : ∀ j < k, ¬ Con m k j
    · refine ⟨k, ?_, .refl hk⟩
      unfold firsts
      rw [List.mem_filter]
      simp only [List.mem_range, decide_eq_true_eq]
      exact ⟨hk, h⟩
    · obtain ⟨j, hj⟩ := Classical.not_forall.mp h
      obtain ⟨hjk, hc⟩ := Classical.not_imp.mp hj
      have hc := Classical.not_not.mp hc
      obtain ⟨f, hf, hcf⟩ := ih j hjk hc.lt.2
      exact ⟨f, hf, hcf.trans hc.symm⟩
theorem firsts_nd {m : List (List Int)} : (firsts m).Nodup := List.Nodup.sublist List.filter_sublist List.nodup_range
theorem firsts_lt {m : List (List Int)} {k : Nat} (h : k ∈ firsts m) : k < m.length := by
  unfold firsts at h
  rw [List.mem_filter] at h
  simpa using h.1
theorem firsts_un {m : List (List Int)} {k l : Nat} (h1 : k ∈ firsts m) (h2 : l ∈ firsts m) (hc : Con m k l) : k = l := by
  unfold firsts at h1 h2
  rw [List.mem_filter] at h1 h2
  simp only [decide_eq_true_eq] at h1 h2
  rcases Nat.lt_trichotomy k l with q | q | q
  · exact absurd hc.symm (h2.2 k q)
  · exact q
  · exact absurd hc (h1.2 l q)
end
end TL
namespace TL
open PySem PySem.Spec L2
section
variable {P : List (List (List Int))}
theorem range_rows (m : List (List Int)) : (List.range m.length).map (rowN m) = m := by
  apply List.ext_getElem?
  intro i
  by_cases h : i < m.length
  · simp [h, rowN]
  · simp [h]
theorem goodL_b : goodL [[]] = [[]] := by simp [goodL, srtR, turned_nil.mpr rfl]
theorem goodL_bare {p : List (List Int)} : goodL p = [[]] ↔ p = [[]] := by
  constructor
  · intro h
    have h1 := goodL_len' (m := p)
    rw [h] at h1
    match p, h1 with
    | [r], _ =>
      have : goodL [r] = [turnedL r] := by simp [goodL, srtR]
      rw [this] at h
      simp only [List.cons.injEq, and_true] at h
      rw [turned_nil.mp h]
  · rintro rfl; exact goodL_b
theorem first_part (hP : ∀ p ∈ P, Part p) (nd : P.flatten.flatten.Nodup) {k : Nat} (hk : k < (goodL P.flatten).length) : ∃ p ∈ P, rowN (goodL P.flatten) k ∈ p.map turnedL ∧ (comp (goodL P.flatten) k).map (rowN (goodL P.flatten)) = goodL p := by
  obtain ⟨r, hr, he⟩ := goodL_mem.mp (rowN_mem hk)
  obtain ⟨p, hp, hrp⟩ := List.mem_flatten.mp hr
  have hin : rowN (goodL P.flatten) k ∈ p.map turnedL := List.mem_map.mpr ⟨r, hrp, he⟩
  refine ⟨p, hp, hin, ?_⟩
  by_cases hb : p = [[]]
  · subst hb
    simp only [List.map_cons, List.map_nil, List.mem_singleton] at hin
    have h0 : rowN (goodL P.flatten) k = [] := hin
    rw [comp_bare hk h0, List.map_cons, List.map_nil, h0, goodL_b]
  · exact comp_part hP nd hp hb hk hin
theorem piece_bare {m : List (List Int)} {k : Nat} (hk : k ∈ firsts m) : (comp m k).map (rowN m) = [[]] ↔ rowN m k = [] := by
  constructor
  · intro h
    obtain ⟨t, ht⟩ := comp_head hk
    rw [ht] at h
    simp only [List.map_cons, List.cons.injEq] at h
    exact h.1
  · intro h; rw [comp_bare (firsts_lt hk) h, List.map_cons, List.map_nil, h]
theorem bare_first {m : List (List Int)} {k : Nat} (hk : k < m.length) (h : rowN m k = []) : k ∈ firsts m := by
  unfold firsts
  rw [List.mem_filter]
  simp only [List.mem_range, decide_eq_true_eq]
  refine ⟨hk, fun j hj hc => ?_⟩
  have := mem_comp.mpr hc
  rw [comp_bare hk h] at this
  simp at this; omega
theorem count_pieces (m : List (List Int)) : (piecesM m).count [[]] = m.count [] := by
  classical
  have h1 : (piecesM m).count [[]] = (firsts m).countP fun k => decide (rowN m k = []) := by
    unfold piecesM
    rw [List.count, List.countP_map]
    apply List.countP_congr
    intro k hk
    simp only [Function.comp, beq_iff_eq, decide_eq_true_eq]
    exact piece_bare hk
  rw [h1]
  have h2 : (firsts m).countP (fun k => decide (rowN m k = [])) = (List.range m.length).countP fun k => decide (rowN m k = []) := by
    have : (firsts m).Perm (firsts m) := .refl _
    unfold firsts
    rw [List.countP_filter]
    apply List.countP_congr
    intro k hk
    have hk : k < m.length := by simpa using hk
    simp only [Bool.and_eq_true, decide_eq_true_eq]
    refine ⟨fun h => h.1, fun h => ⟨h, ?_⟩⟩
    have := bare_first hk h
    unfold firsts at this
    rw [List.mem_filter] at this
    simpa using this.2
  rw [h2]
  have h3 : (List.range m.length).countP (fun k => decide (rowN m k = [])) = ((List.range m.length).map (rowN m)).count [] := by
    rw [List.count, List.countP_map]
    apply List.countP_congr
    intro k _
    simp [Function.comp]
  rw [h3, range_rows]
theorem part_count {p : List (List Int)} (h : Part p) : p.count [] = if p = [[]] then 1 else 0 := by
  rcases h.un with q | ⟨_, q, _⟩
  · subst q; rfl
  · have h1 : [] ∉ p := fun z => q [] z rfl
    rw [List.count_eq_zero_of_not_mem h1, if_neg]
    rintro rfl; exact h1 (by simp)
theorem parts_count (hP : ∀ p ∈ P, Part p) : P.flatten.count [] = P.count [[]] := by
  induction P with
  | nil => rfl
  | cons p P ih =>
    rw [List.flatten_cons, List.count_append, part_count (hP p (by simp)), ih fun q hq => hP q (by simp [hq]), List.count_cons]
    by_cases h : p = [[]] <;> simp [h] <;> omega
theorem good_count (m : List (List Int)) : (goodL m).count [] = m.count [] := by
  unfold goodL
  rw [srtR_perm.count_eq, List.count, List.countP_map]
  show _ = List.countP _ _
  apply List.countP_congr
  intro r _
  simp [Function.comp, turned_nil]
theorem goods_count : (P.map goodL).count [[]] = P.count [[]] := by
  rw [List.count, List.countP_map]
  show _ = List.countP _ _
  apply List.countP_congr
  intro r _
  simp [Function.comp, goodL_bare]
theorem part_end {p : List (List Int)} (h : Part p) (hb : p ≠ [[]]) : ∃ e r, r ∈ p ∧ e ∈ r := by
  rcases h.un with q | ⟨h0, q, _⟩
  · exact absurd q hb
  · obtain ⟨r, t, hr⟩ := List.exists_cons_of_ne_nil h0
    have hm : r ∈ p := by rw [hr]; simp
    obtain ⟨e, t', he⟩ := List.exists_cons_of_ne_nil (q r hm)
    exact ⟨e, r, hm, by rw [he]; simp⟩
theorem goods_nd (hP : ∀ p ∈ P, Part p) (nd : P.flatten.flatten.Nodup) : ((P.map goodL).filter fun x => !(x == [[]])).Nodup := by
  rw [List.flatten_flatten] at nd
  have hd := (List.pairwise_flatten.mp nd).2
  rw [List.pairwise_map] at hd
  rw [List.filter_map, List.Nodup, List.pairwise_map]
  refine List.Pairwise.imp_of_mem (R := fun p q : List (List Int) => ∀ x ∈ p.flatten, ∀ y ∈ q.flatten, x ≠ y) ?_ (hd.sublist List.filter_sublist)
  intro p q hp hq hpq heq
  have hp1 := List.mem_filter.mp hp
  have hq1 := List.mem_filter.mp hq
  have hpb : p ≠ [[]] := by
    rintro rfl
    have := hp1.2
    simp [Function.comp, goodL_bare] at this
  obtain ⟨e, r, hr, he⟩ := part_end (hP p hp1.1) hpb
  have h1 : turnedL r ∈ goodL q := by rw [← heq]; exact goodL_mem.mpr ⟨r, hr, rfl⟩
  obtain ⟨r', hr', hre⟩ := goodL_mem.mp h1
  have h2 : e ∈ r' := by rw [← turned_mem, hre, turned_mem]; exact he
  exact hpq e (List.mem_flatten.mpr ⟨r, hr, he⟩) e (List.mem_flatten.mpr ⟨r', hr', h2⟩) rfl
theorem pieces_nd {m : List (List Int)} (nd : m.flatten.Nodup) : ((piecesM m).filter fun x => !(x == [[]])).Nodup := by
  unfold piecesM
  rw [List.filter_map, List.Nodup, List.pairwise_map]
  refine List.Pairwise.imp_of_mem (R := (· ≠ ·)) ?_ (firsts_nd.sublist List.filter_sublist)
  intro k l hk hl hkl heq
  have hk1 := List.mem_filter.mp hk
  have hl1 := List.mem_filter.mp hl
  obtain ⟨t, ht⟩ := comp_head hk1.1
  obtain ⟨u, hu⟩ := comp_head hl1.1
  rw [ht, hu] at heq
  simp only [List.map_cons, List.cons.injEq] at heq
  have hne : rowN m k ≠ [] := by
    intro z
    have := (piece_bare hk1.1).mpr z
    have h2 := hk1.2
    simp only [Function.comp, this] at h2
    simp at h2
  obtain ⟨e, s, he⟩ := List.exists_cons_of_ne_nil hne
  have h1 := firsts_lt hk1.1
  have h2 := firsts_lt hl1.1
  refine hkl (row_uniq nd h1 h2 (e := e) ?_ ?_)
  · rw [← rowN_get h1, he]; simp
  · rw [← rowN_get h2, ← heq.1, he]; simp
theorem split_perm {α : Type} [BEq α] [LawfulBEq α] {a : α} {l l' : List α} (h : l.count a = l'.count a) (n1 : (l.filter fun x => !(x == a)).Nodup) (n2 : (l'.filter fun x => !(x == a)).Nodup) (hm : ∀ x, x ≠ a → (x ∈ l ↔ x ∈ l')) : l.Perm l' := by
  have p1 := List.filter_append_perm (fun x => x == a) l
  have p2 := List.filter_append_perm (fun x => x == a) l'
  refine p1.symm.trans (List.Perm.trans ?_ p2)
  rw [List.filter_beq, List.filter_beq, h]
  refine List.Perm.append_left _ ?_
  rw [List.perm_ext_iff_of_nodup n1 n2]
  intro x
  simp only [List.mem_filter, Bool.not_eq_true', beq_eq_false_iff_ne]
  constructor
  · rintro ⟨h1, h2⟩; exact ⟨(hm x h2).mp h1, h2⟩
  · rintro ⟨h1, h2⟩; exact ⟨(hm x h2).mpr h1, h2⟩
theorem pieces_perm (hP : ∀ p ∈ P, Part p) (nd : P.flatten.flatten.Nodup) : (piecesM (goodL P.flatten)).Perm (P.map goodL) := by
  refine split_perm (a := [[]]) ?_ (pieces_nd (good_nd nd)) (goods_nd hP nd) fun x hx => ⟨fun h => ?_, fun h => ?_⟩
  · rw [count_pieces, good_count, parts_count hP, goods_count]
  · obtain ⟨k, hk, rfl⟩ := List.mem_map.mp h
    obtain ⟨p, hp, _, he⟩ := first_part hP nd (firsts_lt hk)
    rw [he]; exact List.mem_map.mpr ⟨p, hp, rfl⟩
  · obtain ⟨p, hp, rfl⟩ := List.mem_map.mp h
    have hb : p ≠ [[]] := fun q => hx (goodL_bare.mpr q)
    obtain ⟨e, r, hr, he⟩ := part_end (hP p hp) hb
    obtain ⟨i, hi, hie⟩ := List.mem_iff_getElem.mp (part_sub hp hr)
    obtain ⟨f, hf, hc⟩ := first_of hi
    refine List.mem_map.mpr ⟨f, hf, ?_⟩
    have hri : rowN (goodL P.flatten) i ∈ p.map turnedL := by rw [rowN_get hi, hie]; exact List.mem_map.mpr ⟨r, hr, rfl⟩
    exact comp_part hP nd hp hb (firsts_lt hf) (con_in hP nd hp hc.symm hri)
theorem pieces_sorted {m : List (List Int)} (hs : m.Pairwise (· ≤ ·)) (nd : m.flatten.Nodup) : (piecesM m).Pairwise fun a b => leM a b = true := by
  unfold piecesM
  rw [List.pairwise_map]
  have hlt : (firsts m).Pairwise (· < ·) := List.Pairwise.sublist List.filter_sublist List.pairwise_lt_range
  refine List.Pairwise.imp_of_mem (R := (· < ·)) ?_ hlt
  intro k l hk hl hkl
  obtain ⟨t, ht⟩ := comp_head hk
  obtain ⟨u, hu⟩ := comp_head hl
  have h1 := firsts_lt hk
  have h2 := firsts_lt hl
  have hle : rowN m k ≤ rowN m l := by
    rw [rowN_get h1, rowN_get h2]
    exact List.pairwise_iff_getElem.mp hs k l h1 h2 hkl
  by_cases he : rowN m k = rowN m l
  · by_cases hb : rowN m k = []
    · rw [(piece_bare hk).mpr hb, (piece_bare hl).mpr (he ▸ hb)]; rfl
    · obtain ⟨e, s, hes⟩ := List.exists_cons_of_ne_nil hb
      have := row_uniq nd h1 h2 (e := e) (by rw [← rowN_get h1, hes]; simp) (by rw [← rowN_get h2, ← he, hes]; simp)
      omega
  · rw [ht, hu]
    have he' : rowN m l ≠ rowN m k := fun q => he q.symm
    simp only [List.map_cons, leM, lexB, he', if_false, ltR]
    have : ¬ rowN m l < rowN m k := List.not_lt.mpr hle
    simp [this]
/-- THE PIECES of the map of all parts: the parts, each in good order, sorted -/
theorem pieces_good (hP : ∀ p ∈ P, Part p) (nd : P.flatten.flatten.Nodup) : piecesM (goodL P.flatten) = (P.map goodL).mergeSort leM :=
  sortM_eq (pieces_perm hP nd) (pieces_sorted goodL_sorted (good_nd nd))
end
end TL
namespace TL
open PySem PySem.Spec L2
/-! ## The parts of a word -/
theorem Con.mono {m m' : List (List Int)} (h : ∀ i, i < m.length → i < m'.length ∧ ∀ e ∈ rowN m i, e ∈ rowN m' i) {i j : Nat} (hc : Con m i j) : Con m' i j := by
  induction hc with
  | refl hi => exact .refl (h _ hi).1
  | step _ a ih =>
    obtain ⟨h1, h2, e, he1, he2⟩ := a
    exact ih.step ⟨(h _ h1).1, (h _ h2).1, e, (h _ h1).2 e he1, (h _ h2).2 _ he2⟩
theorem put_row {w : Gw} {es : List Int} (i : Nat) (hi : i < w.cur.length) : i < (w.put es).length ∧ ∀ e ∈ rowN w.cur i, e ∈ rowN (w.put es) i := by
  refine ⟨by rw [Gw.put_len]; exact hi, fun e he => ?_⟩
  unfold rowN at *
  simp only [Gw.put, List.getElem?_set]
  by_cases h : w.t = i
  · subst h
    simp only [hi, if_true, Option.getD_some, List.mem_append]
    exact .inl he
  · simp only [h, if_false]; exact he
theorem put_t {w : Gw} {es : List Int} (ht : w.t < w.cur.length) {e : Int} (he : e ∈ es) : e ∈ rowN (w.put es) w.t := by
  simp only [rowN, Gw.put, List.getElem?_set, if_true, ht, Option.getD_some, List.mem_append]
  exact .inr he
/-- the part as it grows: what it lacks is open; it hangs together -/
structure Gi (w : Gw) : Prop where
  t : w.t < w.cur.length
  cl : ∀ e ∈ w.cur.flatten, -e ∈ w.cur.flatten ∨ -e ∈ w.left
  op : ∀ e ∈ w.left, -e ∈ w.cur.flatten
  con : ∀ i, i < w.cur.length → Con w.cur 0 i
  ne : (w.cur = [[]] ∧ w.left = []) ∨ ∀ r ∈ w.cur, r ≠ []
  dn : ∀ p ∈ w.done, closed p ∧ (p = [[]] ∨ (p ≠ [] ∧ (∀ r ∈ p, r ≠ []) ∧ ∀ i j, i < p.length → j < p.length → Con p i j))
theorem put_mem {w : Gw} (ht : w.t < w.cur.length) {es : List Int} {e : Int} : e ∈ (w.put es).flatten ↔ e ∈ w.cur.flatten ∨ e ∈ es := by
  rw [(put_perm es ht).mem_iff, List.mem_append]
theorem put_ne {w : Gw} (ht : w.t < w.cur.length) {es : List Int} (hes : es ≠ []) (h : (w.cur = [[]] ∧ w.left = []) ∨ ∀ r ∈ w.cur, r ≠ []) : ∀ r ∈ w.put es, r ≠ [] := by
  intro r hr
  obtain ⟨i, hi, rfl⟩ := List.mem_iff_getElem.mp hr
  have hi' : i < w.cur.length := by rwa [Gw.put_len] at hi
  simp only [Gw.put, List.getElem_set]
  by_cases h2 : w.t = i
  · simp [h2, hes]
  · simp only [h2, if_false]
    rcases h with ⟨h, _⟩ | h
    · rw [h] at hi' ht; simp at hi' ht; omega
    · exact h _ (List.getElem_mem hi')
theorem gi_start : Gi Gw.start := ⟨by simp [Gw.start], by simp [Gw.start], by simp [Gw.start], fun i hi => by
  have : i = 0 := by simpa [Gw.start] using hi
  subst this; exact .refl hi, .inl ⟨rfl, rfl⟩, by simp [Gw.start]⟩
theorem gi_step {nm : List Int} {w : Gw} (g : Gi w) {n : Nat} (ok : w.Ok n) (c : Int) : Gi (w.step nm c) := by
  have ht := g.t
  unfold Gw.step
  simp only
  generalize (if c / 8 % 2 = 1 then -nm[w.used]?.getD 0 else nm[w.used]?.getD 0) = e
  split
  · split
    · -- left open
      refine ⟨by simp only [Gw.put_len]; exact ht, fun x hx => ?_, fun x hx => ?_, fun i hi => ?_, .inr (put_ne ht (by simp) g.ne), g.dn⟩
      · simp only at hx ⊢
        rw [put_mem ht] at hx ⊢
        rcases hx with hx | hx
        · rcases g.cl x hx with h | h
          · exact .inl (.inl h)
          · exact .inr (List.mem_append_left _ h)
        · simp at hx; subst hx; exact .inr (by simp)
      · simp only at hx ⊢
        rw [put_mem ht]
        rcases List.mem_append.mp hx with hx | hx
        · exact .inl (g.op x hx)
        · simp at hx; subst hx; exact .inr (by simp)
      · simp only [Gw.put_len] at hi
        exact (g.con i hi).mono fun j hj => put_row j hj
    · -- a new place
      have hmono : ∀ i, i < w.cur.length → i < (w.put [e] ++ [[-e]]).length ∧ ∀ x ∈ rowN w.cur i, x ∈ rowN (w.put [e] ++ [[-e]]) i := by
        intro i hi
        obtain ⟨h1, h2⟩ := put_row (es := [e]) i hi
        refine ⟨by simp; omega, fun x hx => ?_⟩
        have := h2 x hx
        unfold rowN at this ⊢
        rw [List.getElem?_append_left h1]; exact this
      refine ⟨by simp [Gw.put_len], fun x hx => ?_, fun x hx => ?_, fun i hi => ?_, .inr fun r hr => ?_, g.dn⟩
      · simp only [List.flatten_append, List.flatten_cons, List.flatten_nil, List.append_nil, List.mem_append, put_mem ht, List.mem_singleton] at hx ⊢
        rcases hx with (hx | hx) | hx
        · rcases g.cl x hx with h | h
          · exact .inl (.inl (.inl h))
          · exact .inr h
        · subst hx; exact .inl (.inr rfl)
        · subst hx; rw [Int.neg_neg]; exact .inl (.inl (.inr rfl))
      · simp only [List.flatten_append, List.flatten_cons, List.flatten_nil, List.append_nil, List.mem_append, put_mem ht, List.mem_singleton]
        exact .inl (.inl (g.op x hx))
      · simp only [List.length_append, Gw.put_len, List.length_singleton] at hi
        by_cases h : i < w.cur.length
        · exact (g.con i h).mono hmono
        · have : i = w.cur.length := by omega
          subst this
          refine ((g.con w.t ht).mono hmono).step ⟨(hmono _ ht).1, by simp [Gw.put_len], e, ?_, ?_⟩
          · have := put_t (es := [e]) ht (e := e) (by simp)
            unfold rowN at this ⊢
            rw [List.getElem?_append_left (by rw [Gw.put_len]; exact ht)]; exact this
          · unfold rowN
            rw [List.getElem?_append_right (by rw [Gw.put_len]; exact Nat.le_refl _)]
            simp [Gw.put_len]
      · rcases List.mem_append.mp hr with hr | hr
        · exact put_ne ht (by simp) g.ne r hr
        · simp at hr; subst hr; simp
  · split
    · split
      · exact g
      · -- a road closed
        rename_i hne
        have hpos : 0 < w.left.length := List.length_pos_iff.mpr hne
        have hj := emod_lt (a := c / 16) (b := (w.left.length : Int)) (by omega)
        generalize c / 16 % (w.left.length : Int) = j at hj
        have hjl : j.toNat < w.left.length := by omega
        have hgd : w.left[j.toNat]?.getD 0 = w.left[j.toNat] := by simp [hjl]
        rw [hgd]
        have hpp := pop_perm w.left j.toNat hjl
        refine ⟨by simp only [Gw.put_len]; exact ht, fun x hx => ?_, fun x hx => ?_, fun i hi => ?_, .inr (put_ne ht (by simp) g.ne), g.dn⟩
        · simp only at hx ⊢
          rw [put_mem ht] at hx ⊢
          rcases hx with hx | hx
          · rcases g.cl x hx with h | h
            · exact .inl (.inl h)
            · have := hpp.mem_iff.mpr h
              rcases List.mem_append.mp this with q | q
              · exact .inl (.inr q)
              · exact .inr q
          · simp at hx; subst hx
            exact .inl (.inl (g.op _ (List.getElem_mem hjl)))
        · simp only at hx ⊢
          rw [put_mem ht]
          exact .inl (g.op x (hpp.mem_iff.mp (List.mem_append_right _ hx)))
        · simp only [Gw.put_len] at hi
          exact (g.con i hi).mono fun j hj => put_row j hj
    · split
      · split
        · rename_i u hu
          exact ⟨ok.tr u (List.mem_of_getLast? hu), g.cl, g.op, g.con, g.ne, g.dn⟩
        · exact g
      · refine ⟨by simp, by simp, by simp, fun i hi => ?_, .inl ⟨rfl, rfl⟩, fun p hp => ?_⟩
        · have : i = 0 := by simpa using hi
          subst this; exact .refl hi
        · rcases List.mem_append.mp hp with hp | hp
          · exact g.dn p hp
          · simp only [List.mem_singleton] at hp; subst hp
            refine ⟨fun x hx => ?_, ?_⟩
            · rw [put_mem ht] at hx ⊢
              rcases hx with hx | hx
              · exact g.cl x hx
              · exact .inl (g.op x hx)
            · by_cases hb : w.put w.left = [[]]
              · exact .inl hb
              · right
                have hne : ∀ r ∈ w.put w.left, r ≠ [] := by
                  by_cases hl : w.left = []
                  · have hpl : w.put w.left = w.cur := by
                      rw [hl, Gw.put_eq ht, List.append_nil, List.set_getElem_self]
                    rw [hpl] at hb ⊢
                    rcases g.ne with ⟨h, _⟩ | h
                    · exact absurd h hb
                    · exact h
                  · exact put_ne ht hl g.ne
                refine ⟨fun q => ?_, hne, fun i j hi hj => ?_⟩
                · have := Gw.put_len (w := w) w.left; rw [q] at this; simp at this; omega
                · rw [Gw.put_len] at hi hj
                  exact ((g.con i hi).symm.trans (g.con j hj)).mono fun j hj => put_row j hj
/-- the parts of a word hang together, each by itself -/
theorem gi_end {w : Gw} (g : Gi w) : ∀ p ∈ w.done ++ [w.put w.left], closed p ∧ (p = [[]] ∨ (p ≠ [] ∧ (∀ r ∈ p, r ≠ []) ∧ ∀ i j, i < p.length → j < p.length → Con p i j)) := by
  have := (gi_step (nm := []) (c := 7) (w := w) g (n := 0))
  intro p hp
  have ht := g.t
  rcases List.mem_append.mp hp with hp | hp
  · exact g.dn p hp
  · simp only [List.mem_singleton] at hp; subst hp
    refine ⟨fun x hx => ?_, ?_⟩
    · rw [put_mem ht] at hx ⊢
      rcases hx with hx | hx
      · exact g.cl x hx
      · exact .inl (g.op x hx)
    · by_cases hb : w.put w.left = [[]]
      · exact .inl hb
      · right
        have hne : ∀ r ∈ w.put w.left, r ≠ [] := by
          by_cases hl : w.left = []
          · have hpl : w.put w.left = w.cur := by
              rw [hl, Gw.put_eq ht, List.append_nil, List.set_getElem_self]
            rw [hpl] at hb ⊢
            rcases g.ne with ⟨h, _⟩ | h
            · exact absurd h hb
            · exact h
          · exact put_ne ht hl g.ne
        refine ⟨fun q => ?_, hne, fun i j hi hj => ?_⟩
        · have := Gw.put_len (w := w) w.left; rw [q] at this; simp at this; omega
        · rw [Gw.put_len] at hi hj
          exact ((g.con i hi).symm.trans (g.con j hj)).mono fun j hj => put_row j hj
theorem gi_fold {nm : List Int} (cs : List Int) : Gi (cs.foldl (Gw.step nm) Gw.start) ∧ (cs.foldl (Gw.step nm) Gw.start).Ok cs.length := by
  have : ∀ n, n ≤ cs.length → Gi ((cs.take n).foldl (Gw.step nm) Gw.start) ∧ ((cs.take n).foldl (Gw.step nm) Gw.start).Ok n := by
    intro n
    induction n with
    | zero => intro _; exact ⟨gi_start, Gw.ok_start⟩
    | succ n ih =>
      intro hn
      obtain ⟨h1, h2⟩ := ih (by omega)
      rw [List.take_succ_eq_append_getElem (by omega), List.foldl_append]
      exact ⟨gi_step h1 h2 _, Gw.ok_step h2 _⟩
  have := this cs.length (Nat.le_refl _)
  rwa [List.take_length] at this
theorem part_nd {P : List (List (List Int))} (nd : P.flatten.flatten.Nodup) {p : List (List Int)} (hp : p ∈ P) : p.flatten.Nodup := by
  rw [List.flatten_flatten] at nd
  exact (List.pairwise_flatten.mp nd).1 _ (List.mem_map.mpr ⟨p, hp, rfl⟩)
theorem parts_ok {ns : List Int} (cs : List Int) (hl : cs.length ≤ 65) : (∀ p ∈ partsL (namesL ns) cs, Part p) ∧ (partsL (namesL ns) cs).flatten.flatten.Nodup := by
  obtain ⟨n, hn, hp⟩ := parts_perm (ns := ns) cs hl
  have nd : (partsL (namesL ns) cs).flatten.flatten.Nodup := by rw [hp.nodup_iff]; exact nds_nodup (by omega)
  refine ⟨fun p h => ?_, nd⟩
  have := gi_end (gi_fold (nm := namesL ns) cs).1 p h
  exact ⟨this.1, part_nd nd h, this.2⟩
/-- sizes -/
theorem parts_sz {nm : List Int} (cs : List Int) : (partsL nm cs).length ≤ cs.length + 1 ∧ ∀ p ∈ partsL nm cs, True := by
  have := (gi_fold (nm := nm) cs).2
  refine ⟨?_, fun _ _ => trivial⟩
  unfold partsL
  simp only [List.length_append, List.length_singleton]
  have := this.dl
  omega
end TL
namespace TL
open PySem PySem.Spec L2
/-! ## More of the word maps' functions -/
theorem q_turn {r : List Int} (hl : r.length ≤ 16777216) : q_w_turn r = some (turnedL r) := by
  unfold q_w_turn
  simp only [Option.bind_some, Option.map_some, o2_s]
  cases r with
  | nil => rfl
  | cons x xs =>
    obtain ⟨a, ha⟩ : ∃ a, (x :: xs).min? = some a := ⟨_, rfl⟩
    have hm : a ∈ x :: xs := List.min?_mem ha
    have hi : indexO (x :: xs) a = some ((x :: xs).idxOf a : Int) := if_pos hm
    simp only [List.isEmpty_cons, Bool.not_false, Bool.not_true, Bool.false_eq_true, if_false, ha, Option.bind_some, hi, o2_s]
    rw [cut_from _ (by omega), cut_to _ (by omega), catO_s (by simp only [List.length_drop, List.length_take, Int.toNat_natCast]; omega)]
    simp only [turnedL, ha, Int.toNat_natCast]
theorem q_map {m : List (List Int)} (hl : m.length ≤ 16777216) (hr : ∀ r ∈ m, r.length ≤ 16777216) : q_w_map m = some (goodL m) := by
  unfold q_w_map
  simp only [Option.bind_some]
  rw [mpO_map turnedL (fun r h => q_turn (hr r h)) hl, Option.bind_some, sortO_s (by simpa using hl)]
  rfl
theorem q_all {P : List (List (List Int))} (hl : P.flatten.length ≤ 16777216) : q_w_all P = some P.flatten := by
  unfold q_w_all
  simp only [Option.bind_some, Option.map_id', Option.map_id_fun', id, Option.bind_fun_some]
  refine forO_eq (fun pre s => s = pre.flatten) rfl ?_ (fun s h => h)
  rintro pre p post _ e rfl
  refine ⟨_, catO_s ?_, by simp⟩
  rw [e] at hl
  simp only [List.flatten_append, List.flatten_cons, List.length_append] at hl
  omega
theorem okAb_L {α : Type} {e : α → T} {n : Nat} {xs : List α} : okAb (n + 1) (eL false e xs) = true ↔ xs.length < 16777216 ∧ ∀ x ∈ xs, okAb n (e x) = true := by
  simp only [eL, okAb, Bool.not_false, Bool.true_and, decide_true, Bool.true_or, Bool.and_eq_true, decide_eq_true_eq, List.length_map, List.all_eq_true, List.mem_map]
  constructor
  · rintro ⟨h1, h2⟩; exact ⟨h1, fun x hx => h2 _ ⟨x, hx, rfl⟩⟩
  · rintro ⟨h1, h2⟩; refine ⟨h1, ?_⟩; rintro _ ⟨x, hx, rfl⟩; exact h2 x hx
theorem okAb_I {n : Nat} {i : Int} : okAb (n + 1) (aI i) = true := rfl
theorem okAb_R {n : Nat} {r : List Int} (h : r.length < 16777216) : okAb (n + 2) (eL false aI r) = true := okAb_L.mpr ⟨h, fun _ _ => okAb_I⟩
theorem okAb_M {n : Nat} {m : List (List Int)} (h : m.length < 16777216) (h2 : m.flatten.length < 16777216) : okAb (n + 3) (eL false (eL false aI) m) = true := okAb_L.mpr ⟨h, fun r hr => okAb_R (by
  obtain ⟨i, hi, rfl⟩ := List.mem_iff_getElem.mp hr
  have := List.le_sum_of_mem' m hi
  omega)⟩
theorem alike_eq {α : Type} {e : α → T} {x : α} (h : okAb 6 (e x) = true) : alikeO e x x = some true := if_pos ⟨rfl, h⟩
theorem alike_M {m : List (List Int)} (h : m.length ≤ 100000) (h2 : m.flatten.length ≤ 100000) : alikeO (eL false (eL false aI)) m m = some true := alike_eq (okAb_M (by omega) (by omega))
theorem alike_P {P : List (List (List Int))} (h : P.length ≤ 100000) (hr : ∀ p ∈ P, p.length ≤ 100000 ∧ p.flatten.length ≤ 100000) : alikeO (eL false (eL false (eL false aI))) P P = some true :=
  alike_eq (okAb_L.mpr ⟨by omega, fun p hp => okAb_M (by have := (hr p hp).1; omega) (by have := (hr p hp).2; omega)⟩)
theorem row_le {m : List (List Int)} {r : List Int} (h : r ∈ m) : r.length ≤ m.flatten.length := by
  obtain ⟨i, hi, rfl⟩ := List.mem_iff_getElem.mp h
  exact List.le_sum_of_mem' m hi
theorem rows_le {p : List (List Int)} (q : ∀ r ∈ p, r ≠ []) : p.length ≤ p.flatten.length := by
  induction p with
  | nil => simp
  | cons r p ih =>
    have h1 := q r (by simp)
    have h2 := ih (fun r hr => q r (by simp [hr]))
    have : 0 < r.length := List.length_pos_iff.mpr h1
    simp only [List.length_cons, List.flatten_cons, List.length_append]; omega
theorem part_len {p : List (List Int)} (h : Part p) : p.length ≤ p.flatten.length + 1 := by
  rcases h.un with q | ⟨_, q, _⟩
  · subst q; simp
  · have := rows_le q; omega
theorem sub_flat {α : Type} {l l' : List (List α)} (h : l.Sublist l') : l.flatten.Sublist l'.flatten := by
  induction h with
  | slnil => exact List.Sublist.refl _
  | cons a _ ih => rw [List.flatten_cons]; exact ih.trans (List.sublist_append_right _ _)
  | cons_cons a _ ih => rw [List.flatten_cons, List.flatten_cons]; exact (List.Sublist.refl _).append ih
theorem parts_len {P : List (List (List Int))} (hP : ∀ p ∈ P, Part p) : P.flatten.length ≤ P.flatten.flatten.length + P.length := by
  induction P with
  | nil => simp
  | cons p P ih =>
    have h1 := part_len (hP p (by simp))
    have h2 := ih fun q hq => hP q (by simp [hq])
    simp only [List.flatten_cons, List.flatten_append, List.length_append, List.length_cons]; omega
theorem parts_ends {ns : List Int} (cs : List Int) (hl : cs.length ≤ 65) : (partsL (namesL ns) cs).flatten.flatten.length ≤ 2 * cs.length := by
  obtain ⟨n, hn, hp⟩ := parts_perm (ns := ns) cs hl
  rw [hp.length_eq, nds_len]; omega
/-- what is asked of the parts of a law -/
structure PartsOk (P : List (List (List Int))) : Prop where
  pt : ∀ p ∈ P, Part p
  nd : P.flatten.flatten.Nodup
  le : P.length ≤ 100
  fl : P.flatten.flatten.length ≤ 200
theorem PartsOk.sub {P P' : List (List (List Int))} (h : PartsOk P) (s : P'.Sublist P) : PartsOk P' := by
  have s2 := sub_flat (sub_flat s)
  exact ⟨fun p hp => h.pt p (s.subset hp), h.nd.sublist s2, Nat.le_trans s.length_le h.le, Nat.le_trans s2.length_le h.fl⟩
theorem PartsOk.rows {P : List (List (List Int))} (h : PartsOk P) : P.flatten.length ≤ 300 := by
  have := parts_len h.pt
  have := h.le
  have := h.fl
  omega
theorem PartsOk.mem {P : List (List (List Int))} (h : PartsOk P) {p : List (List Int)} (hp : p ∈ P) : p.length ≤ 300 ∧ p.flatten.length ≤ 200 := by
  have h1 : p.flatten.length ≤ P.flatten.flatten.length := by
    have s : [p].Sublist P := List.singleton_sublist.mpr hp
    have := (sub_flat (sub_flat s)).length_le
    simpa using this
  have h2 := part_len (h.pt p hp)
  have := h.fl
  omega
theorem PartsOk.closed {P : List (List (List Int))} (h : PartsOk P) : TL.closed P.flatten := by
  intro e he
  obtain ⟨r, hr, her⟩ := List.mem_flatten.mp he
  obtain ⟨p, hp, hrp⟩ := List.mem_flatten.mp hr
  have := (h.pt p hp).cl e (List.mem_flatten.mpr ⟨r, hrp, her⟩)
  obtain ⟨r', hr', her'⟩ := List.mem_flatten.mp this
  exact List.mem_flatten.mpr ⟨r', List.mem_flatten.mpr ⟨p, hp, hr'⟩, her'⟩
theorem word_ok {ns : List Int} (cs : List Int) (hl : cs.length ≤ 63) : PartsOk (partsL (namesL ns) cs) := by
  obtain ⟨h1, h2⟩ := parts_ok (ns := ns) cs (by omega)
  have h3 := (parts_sz (nm := namesL ns) cs).1
  have h4 := parts_ends (ns := ns) cs (by omega)
  exact ⟨h1, h2, by omega, by omega⟩
theorem good_closed {m : List (List Int)} (h : closed m) : closed (goodL m) := fun e he => (goodL_perm m).mem_iff.mpr (h e ((goodL_perm m).mem_iff.mp he))
theorem good_flat_len {m : List (List Int)} : (goodL m).flatten.length = m.flatten.length := (goodL_perm m).length_eq
/-- the pieces, told by the program -/
theorem q_pieces_parts {P : List (List (List Int))} (h : PartsOk P) : q_pieces_pieces (goodL P.flatten) = some ((P.map goodL).mergeSort leM) := by
  rw [q_pieces (good_nd h.nd) (good_closed h.closed) (by rw [goodL_len']; have := h.rows; omega) (by rw [good_flat_len]; have := h.fl; omega), pieces_good h.pt h.nd]
theorem namesL_len (ns : List Int) : (namesL ns).length = 66 := by simp [namesL]
end TL
namespace TL
open PySem PySem.Spec L2
theorem q_law_k11 (ns : List Int) (hl : ns.length ≤ 63) : q_k11_law ns = some true := by
  unfold q_k11_law
  have e13266 : ∀ i : Int, fdivO i 13266 = some (i / 13266) := fun i => fd (by decide) (by decide)
  have m3 : ∀ i : Int, modO i 3 = some (i % 3) := fun i => modO_s (by decide)
  have hcs : cutT ns (some 3) (some 66) = (ns.drop 3).take 63 := by rw [cut_mid _ (by decide) (by decide)]; rfl
  have hcl : ((ns.drop 3).take 63).length ≤ 63 := by simp; omega
  have hok := word_ok (ns := ns) _ hcl
  simp only [Option.bind_some, o2_s, o3_s, Option.map_some, q_names, hcs, q_parts (namesL_len ns) hcl, q_cell0, e13266, m3]
  generalize partsL (namesL ns) ((ns.drop 3).take 63) = P0 at hok
  obtain ⟨P, hP, hs⟩ : ∃ P : List (List (List Int)), (if decide (cellAt ns 0 / 13266 % 3 = 1) = true then flO (fun e_1 => some (!decide (e_1 = [[]]))) (fun e_1 => some e_1) P0 else some P0) = some P ∧ P.Sublist P0 := by
    by_cases h : cellAt ns 0 / 13266 % 3 = 1
    · refine ⟨P0.filter fun e => !decide (e = [[]]), ?_, List.filter_sublist⟩
      simp only [h, decide_true, if_true]
      exact flO_filter (fun e => !decide (e = [[]])) (by have := hok.le; omega)
    · exact ⟨P0, by simp [h], List.Sublist.refl _⟩
  have ok := hok.sub hs
  have hpl := ok.le
  have hrl := ok.rows
  have hfl := ok.fl
  have gl : (goodL P.flatten).length ≤ 300 := by rw [goodL_len']; exact hrl
  have gf : (goodL P.flatten).flatten.length ≤ 200 := by rw [good_flat_len]; exact hfl
  have hq1 : mpO q_w_map P = some (P.map goodL) := mpO_map goodL (fun p hp => q_map (by have := (ok.mem hp).1; omega) (fun r hr => by have := row_le hr; have := (ok.mem hp).2; omega)) (by omega)
  have hq2 : q_w_map P.flatten = some (goodL P.flatten) := q_map (by omega) (fun r hr => by have := row_le hr; omega)
  have hq3 : mpO (fun e_3 : List Int => some e_3) (goodL P.flatten) = some (goodL P.flatten) := mpO_id (by omega)
  have hdl : ((P.map goodL).mergeSort leM).length = P.length := by simp
  have hd : ∀ p ∈ (P.map goodL).mergeSort leM, p ≠ [] ∧ p.length ≤ 300 ∧ p.flatten.length ≤ 200 := by
    intro p hp
    obtain ⟨p', hp', rfl⟩ := List.mem_map.mp ((List.mergeSort_perm _ _).mem_iff.mp hp)
    have := ok.mem hp'
    refine ⟨fun q => ?_, by rw [goodL_len']; exact this.1, by rw [good_flat_len]; exact this.2⟩
    have h0 := goodL_len' (m := p')
    rw [q] at h0
    have : p' = [] := List.length_eq_zero_iff.mp h0.symm
    subst this
    rcases (ok.pt _ hp').un with q | ⟨q, _⟩
    · cases q
    · exact q rfl
  simp only [hP, Option.bind_some, hq1, sortO_s (show (P.map goodL).length ≤ 16777216 by simp; omega), q_all (show P.flatten.length ≤ 16777216 by omega), hq2, hq3, q_pieces_parts ok]
  have hal : alikeO (eL false (eL false (eL false aI))) ((P.map goodL).mergeSort leM) ((P.map goodL).mergeSort leM) = some true := alike_P (by rw [hdl]; omega) (fun p hp => by have := hd p hp; omega)
  have hal2 : alikeO (eL false (eL false aI)) (goodL P.flatten) (goodL P.flatten) = some true := alike_M (by omega) (by omega)
  generalize (P.map goodL).mergeSort leM = due at hdl hd hal ⊢
  simp only [hal, hal2, Option.map_some, Option.bind_some, Bool.not_true, Bool.false_eq_true, if_false]
  refine bR (J := fun s => s.1.length = due.length) ?_ ?_
  · refine bE (J := fun s => s.1.length = due.length) ?_ (fun s h => ⟨s, by simp [h], h⟩)
    refine eM _ (forO_inv (fun pre s => s.1.length = due.length ∧ ∀ p ∈ s.1, p ≠ [] ∧ p.length ≤ 300 + 2 * pre.length ∧ ∀ r ∈ p, r.length ≤ 200 + 2 * pre.length) ⟨rfl, fun p hp => ⟨(hd p hp).1, by have := (hd p hp).2.1; simp; omega, fun r hr => by have := row_le hr; have := (hd p hp).2.2; simp; omega⟩⟩ ?_) (fun s h => h.1)
    rintro pre k post ⟨D, u⟩ e ⟨h1, h2⟩
    have hpk : pre.length < due.length := by have := congrArg List.length e; simp at this; omega
    have hk : k < due.length := by
      have : k ∈ List.range due.length := by rw [e]; simp
      simpa using this
    simp only at h1 h2
    have hkD : k < D.length := by omega
    obtain ⟨g1, g2, g3⟩ := h2 _ (List.getElem_mem hkD)
    obtain ⟨r, t, hrt⟩ := List.exists_cons_of_ne_nil g1
    have gr := g3 r (by rw [hrt]; simp)
    have hg : D[k]? = some (r :: t) := by rw [List.getElem?_eq_getElem hkD, hrt]
    rw [hrt] at g2
    simp only [List.length_cons] at g2
    have a1 : r.length < 16777216 := by omega
    have hi0 : ixN (r :: t).length 0 = some 0 := by simp
    refine ⟨(D.set k ((r ++ [7]) :: t ++ [[8]]), ()), ?_, by simpa using h1, fun p hp => ?_⟩
    · have hg2 : (D.set k ((r ++ [7]) :: t))[k]? = some ((r ++ [7]) :: t) := by simp [hkD]
      have a2 : ((r ++ [7]) :: t).length < 16777216 := by simp; omega
      unfold capN
      rw [if_pos (by simpa using h1)]
      simp only [hg, Option.map_some, o2_s, Option.bind_some, hi0, upX, List.getElem?_cons_zero, appO_s a1, List.set_cons_zero, hg2, appO_s a2, List.set_set, List.cons_append]
    · simp only at hp ⊢
      rcases List.mem_or_eq_of_mem_set hp with hp | rfl
      · obtain ⟨q1, q2, q3⟩ := h2 p hp
        exact ⟨q1, by simp; omega, fun r hr => by have := q3 r hr; simp; omega⟩
      · refine ⟨by simp, by simp; omega, fun r' hr' => ?_⟩
        simp at hr'
        rcases hr' with rfl | hr' | hr'
        · simp; omega
        · have := g3 r' (by rw [hrt]; simp [hr']); simp; omega
        · subst hr'; simp; omega
  · rintro ⟨D, u⟩ h1
    simp only at h1
    have a3 : D.length < 16777216 := by omega
    simp only [appO_s a3, Option.bind_some, hal, hal2, o2_s, if_true]
end TL
namespace TL
open PySem PySem.Spec L2
theorem law_true : ∀ ns : List Int, ns.length ≤ 63 → ∃ rs, F_k11_law [scrT ns] = .ok (.atm (.bl true)) rs := law_of (fun ns r h => t_k11_law ns r h) q_law_k11
end TL
open PySem PySem.W PyProof.Rows
set_option maxHeartbeats 0 in
theorem PySem.Challenge.cw_mapround_k11_pieces_of_words_holds : PySem.Challenge.rw_mapround_k11_pieces_of_words.Holds := by
  w_on; o_law; k_head; (case hw => w_witness2)
  k_fill
  refine L2.walk_of (l := PySem.Challenge.rw_mapround_k11_pieces_of_words) (n := 63) (k := 8) (x := "_law_script") (CX := fun _ => L2.CX0) (sp := fun w => TL.spT _ [false] TL.F_k11_law) rfl (by decide) rfl ⟨rfl, by decide, by decide⟩ (fun w h Y => PySem.W.kIn_of Y) ?F (fun _ _ a ns hl _ hS => TL.law_sp TL.law_true _ _ a ns hl hS) (fun _ _ _ _ _ h => h)
  case F =>
    intro w mg fa h KX G hmg
    refine' TL.all_mk KX G hmg ?a0 ?l0 ?c0 ?k0 ?a1 ?l1 ?c1 ?k1 ?a2 ?l2 ?c2 ?k2 ?a3 ?l3 ?c3 ?k3 ?a4 ?l4 ?c4 ?k4 ?a5 ?l5 ?c5 ?k5 ?a6 ?l6 ?c6 ?k6 ?a7 ?l7 ?c7 ?k7 ?a8 ?l8 ?c8 ?k8 ?a9 ?l9 ?c9 ?k9 ?a10 ?l10 ?c10 ?k10 ?z_bool ?z_enumerate ?z_int ?z_isinstance ?z_len ?z_list ?z_min ?z_range ?z_sorted ?z_str ?z_tuple
    (case a0 => k_is); (case l0 => k_is); (case c0 => k_is); (case k0 => k_is); (case a1 => k_is); (case l1 => k_is); (case c1 => k_is); (case k1 => k_is)
    (case a2 => k_is); (case l2 => k_is); (case c2 => k_is); (case k2 => k_is); (case a3 => k_is); (case l3 => k_is); (case c3 => k_is); (case k3 => k_is)
    (case a4 => k_is); (case l4 => k_is); (case c4 => k_is); (case k4 => k_is); (case a5 => k_is); (case l5 => k_is); (case c5 => k_is); (case k5 => k_is)
    (case a6 => k_is); (case l6 => k_is); (case c6 => k_is); (case k6 => k_is); (case a7 => k_is); (case l7 => k_is); (case c7 => k_is); (case k7 => k_is)
    (case a8 => k_is); (case l8 => k_is); (case c8 => k_is); (case k8 => k_is); (case a9 => k_is); (case l9 => k_is); (case c9 => k_is); (case k9 => k_is)
    (case a10 => k_is); (case l10 => k_is); (case c10 => k_is); (case k10 => k_is); (case z_bool => k_is); (case z_enumerate => k_is); (case z_int => k_is); (case z_isinstance => k_is)
    (case z_len => k_is); (case z_list => k_is); (case z_min => k_is); (case z_range => k_is); (case z_sorted => k_is); (case z_str => k_is); (case z_tuple => k_is)
