import PyProof.Rows.All
import Wide.All
import OpenK.AllK
import Wide.FinOn
import KE.KStateDown
import HandS.ForMost
import HandS.Wide
import HandS.IsInst
import HandS.Deep
import HandS.Walk
import HandS.Defaults
import HandS.More
import HandS.TupAny
import HandS.SortInts
import HandS.Zip
import HandS.HeadHook2
import HandS.Style
import HandS.HeadEnd
import HandS.Conv
import HandS.Head0
import HandS.Head1
import HandS.Head2
import PySem.Challenge.RW_nearpool_k03_greats_jumps_falls
set_option Elab.async false
set_option linter.all false
set_option maxRecDepth 100000
namespace QL
open PySem L2

inductive T where
  | non | bl (b : Bool) | int (i : Int) | str (s : Str)
  | tup (xs : List T) | lst (o : Bool) (xs : List T) | lk (xs : List T)
  | dct (o : Bool) (kvs : List (Key × T))
  | obj (c : Str) (fs : List (Str × T))
  | hole
/-- where classes stand; where the list stands that a name of the def was lent -/
structure Ca where
  cl : Str → Addr
  al : Addr

mutual
/-- has owned parts -/
def T.ow : T → Bool
  | .tup xs => T.owl xs
  | .lk xs => T.owl xs
  | .lst o xs => o || T.owl xs
  | .dct o kvs => o || T.owk kvs
  | .obj _ _ => true
  | _ => false
def T.owl : List T → Bool
  | [] => false
  | t :: ts => T.ow t || T.owl ts
def T.owk : List (Key × T) → Bool
  | [] => false
  | (_, t) :: ts => T.ow t || T.owk ts
end
mutual
/-- no instance within -/
def T.nob : T → Bool
  | .tup xs => T.nobl xs
  | .lk xs => T.nobl xs
  | .lst _ xs => T.nobl xs
  | .dct _ kvs => T.nobk kvs
  | .obj _ _ => false
  | .hole => false
  | _ => true
def T.nobl : List T → Bool
  | [] => true
  | t :: ts => T.nob t && T.nobl ts
def T.nobk : List (Key × T) → Bool
  | [] => true
  | (_, t) :: ts => T.nob t && T.nobk ts
end
mutual
/-- no frozen list or dict within -/
def T.nfz : T → Bool
  | .tup xs => T.nfzl xs
  | .lk _ => false
  | .lst o xs => o && T.nfzl xs
  | .dct o kvs => o && T.nfzk kvs
  | .obj _ fs => T.nfzf fs
  | _ => true
def T.nfzl : List T → Bool
  | [] => true
  | t :: ts => T.nfz t && T.nfzl ts
def T.nfzk : List (Key × T) → Bool
  | [] => true
  | (_, t) :: ts => T.nfz t && T.nfzk ts
def T.nfzf : List (Str × T) → Bool
  | [] => true
  | (_, t) :: ts => T.nfz t && T.nfzf ts
end
mutual
/-- frozen -/
def T.fz : T → T
  | .tup xs => .tup (T.fzl xs)
  | .lk xs => .lk (T.fzl xs)
  | .lst _ xs => .lst false (T.fzl xs)
  | .dct _ kvs => .dct false (T.fzk kvs)
  | .obj c fs => .obj c fs
  | .hole => .hole
  | .non => .non
  | .bl b => .bl b
  | .int i => .int i
  | .str s => .str s
def T.fzl : List T → List T
  | [] => []
  | t :: ts => T.fz t :: T.fzl ts
def T.fzk : List (Key × T) → List (Key × T)
  | [] => []
  | (k, t) :: ts => (k, T.fz t) :: T.fzk ts
end

/-- a part of an abstract heap -/
def Sub (F H : Hp) : Prop := ∀ a o, F a = some o → H a = some o
theorem Sub.refl (H : Hp) : Sub H H := fun _ _ h => h
theorem Sub.trans {F G H : Hp} (a : Sub F G) (b : Sub G H) : Sub F H := fun x o h => b x o (a x o h)
theorem Sub.rd {F H : Hp} {a : Addr} {u : HO} (s : Sub F H) (h : Rd F a u) : Rd H a u := by
  rcases h with h | ⟨o, h⟩
  · exact .inl (s _ _ h)
  · exact .inr ⟨o, s _ _ h⟩
theorem Sub.sqL {K : PySem.W.Frag} {F H : Hp} {a : Addr} {xs : List V} (s : Sub F H) (h : SqL K F a xs) : SqL K H a xs := by
  rcases h with h | h
  · exact .inl (s.rd h)
  · exact .inr h
theorem Sub.sqT {K : PySem.W.Frag} {F H : Hp} {a : Addr} {xs : List V} (s : Sub F H) (h : SqT K F a xs) : SqT K H a xs := by
  rcases h with h | h
  · exact .inl (s.rd h)
  · exact .inr h

mutual
/-- the value v stands for t; F: what is frozen; fp: the owned addresses -/
def Rep (K : PySem.W.Frag) (ca : Ca) (F H : Hp) : T → V → List Addr → Prop
  | .non, v, fp => v = .non ∧ fp = []
  | .bl b, v, fp => v = .bl b ∧ fp = []
  | .int i, v, fp => v = .int i ∧ fp = []
  | .str s, v, fp => v = .str s ∧ fp = []
  | .tup xs, v, fp => ∃ a vs, v = .ref a ∧ SqT K F a vs ∧ Reps K ca F H xs vs fp
  | .lk xs, v, fp => ∃ a vs, v = .ref a ∧ SqL K F a vs ∧ Reps K ca F H xs vs [] ∧ fp = []
  | .lst false xs, v, fp => ∃ a vs, v = .ref a ∧ F a = some (.lst vs) ∧ Reps K ca F H xs vs [] ∧ fp = []
  | .lst true xs, v, fp => ∃ a vs f, v = .ref a ∧ H a = some (.lst vs) ∧ F a = none ∧ Reps K ca F H xs vs f ∧ fp = a :: f
  | .dct false kvs, v, fp => ∃ a ks, v = .ref a ∧ Rd F a (.dK ks) ∧ Repk K ca F H kvs ks [] ∧ fp = []
  | .dct true kvs, v, fp => ∃ a ks f, v = .ref a ∧ H a = some (.dK ks) ∧ F a = none ∧ Repk K ca F H kvs ks f ∧ fp = a :: f
  | .obj c fs, v, fp => ∃ a dx gs f, v = .ref a ∧ H a = some (.ins (ca.cl c) dx gs) ∧ F a = none ∧ Repf K ca F H fs gs f ∧ fp = a :: f
  | .hole, v, fp => v = .ref ca.al ∧ fp = []
def Reps (K : PySem.W.Frag) (ca : Ca) (F H : Hp) : List T → List V → List Addr → Prop
  | [], vs, fp => vs = [] ∧ fp = []
  | t :: ts, vs, fp => ∃ v us f g, vs = v :: us ∧ Rep K ca F H t v f ∧ Reps K ca F H ts us g ∧ fp = f ++ g
def Repk (K : PySem.W.Frag) (ca : Ca) (F H : Hp) : List (Key × T) → List (Key × V) → List Addr → Prop
  | [], vs, fp => vs = [] ∧ fp = []
  | (k, t) :: ts, vs, fp => ∃ v us f g, vs = (k, v) :: us ∧ Rep K ca F H t v f ∧ Repk K ca F H ts us g ∧ fp = f ++ g
def Repf (K : PySem.W.Frag) (ca : Ca) (F H : Hp) : List (Str × T) → List (Str × V) → List Addr → Prop
  | [], vs, fp => vs = [] ∧ fp = []
  | (k, t) :: ts, vs, fp => ∃ v us f g, vs = (k, v) :: us ∧ Rep K ca F H t v f ∧ Repf K ca F H ts us g ∧ fp = f ++ g
end

section
variable {K : PySem.W.Frag} {ca : Ca} {F F' H H' : Hp}

mutual
theorem Rep.go (e : Sub F F') : ∀ (t : T) {v : V} {fp : List Addr}, Rep K ca F H t v fp → (∀ a ∈ fp, H' a = H a) → (∀ a ∈ fp, F' a = none) → Rep K ca F' H' t v fp
  | .non, _, _, h, _, _ => by simpa only [Rep] using h
  | .bl _, _, _, h, _, _ => by simpa only [Rep] using h
  | .int _, _, _, h, _, _ => by simpa only [Rep] using h
  | .str _, _, _, h, _, _ => by simpa only [Rep] using h
  | .hole, _, _, h, _, _ => by simpa only [Rep] using h
  | .tup xs, _, _, h, h1, h2 => by
    simp only [Rep] at h ⊢
    obtain ⟨a, vs, e1, s, r⟩ := h
    exact ⟨a, vs, e1, e.sqT s, Reps.go e xs r h1 h2⟩
  | .lk xs, _, _, h, h1, h2 => by
    simp only [Rep] at h ⊢
    obtain ⟨a, vs, e1, s, r, e2⟩ := h
    exact ⟨a, vs, e1, e.sqL s, Reps.go e xs r (fun _ z => nomatch z) (fun _ z => nomatch z), e2⟩
  | .lst false xs, _, _, h, h1, h2 => by
    simp only [Rep] at h ⊢
    obtain ⟨a, vs, e1, s, r, e2⟩ := h
    exact ⟨a, vs, e1, e _ _ s, Reps.go e xs r (fun _ z => nomatch z) (fun _ z => nomatch z), e2⟩
  | .lst true xs, _, _, h, h1, h2 => by
    simp only [Rep] at h ⊢
    obtain ⟨a, vs, f, e1, s, n, r, e2⟩ := h
    subst e2
    exact ⟨a, vs, f, e1, (h1 a List.mem_cons_self).trans s, h2 a List.mem_cons_self, Reps.go e xs r (fun b hb => h1 b (List.mem_cons_of_mem _ hb)) (fun b hb => h2 b (List.mem_cons_of_mem _ hb)), rfl⟩
  | .dct false kvs, _, _, h, h1, h2 => by
    simp only [Rep] at h ⊢
    obtain ⟨a, ks, e1, s, r, e2⟩ := h
    exact ⟨a, ks, e1, e.rd s, Repk.go e kvs r (fun _ z => nomatch z) (fun _ z => nomatch z), e2⟩
  | .dct true kvs, _, _, h, h1, h2 => by
    simp only [Rep] at h ⊢
    obtain ⟨a, ks, f, e1, s, n, r, e2⟩ := h
    subst e2
    exact ⟨a, ks, f, e1, (h1 a List.mem_cons_self).trans s, h2 a List.mem_cons_self, Repk.go e kvs r (fun b hb => h1 b (List.mem_cons_of_mem _ hb)) (fun b hb => h2 b (List.mem_cons_of_mem _ hb)), rfl⟩
  | .obj c fs, _, _, h, h1, h2 => by
    simp only [Rep] at h ⊢
    obtain ⟨a, dx, gs, f, e1, s, n, r, e2⟩ := h
    subst e2
    exact ⟨a, dx, gs, f, e1, (h1 a List.mem_cons_self).trans s, h2 a List.mem_cons_self, Repf.go e fs r (fun b hb => h1 b (List.mem_cons_of_mem _ hb)) (fun b hb => h2 b (List.mem_cons_of_mem _ hb)), rfl⟩
theorem Reps.go (e : Sub F F') : ∀ (ts : List T) {vs : List V} {fp : List Addr}, Reps K ca F H ts vs fp → (∀ a ∈ fp, H' a = H a) → (∀ a ∈ fp, F' a = none) → Reps K ca F' H' ts vs fp
  | [], _, _, h, _, _ => by simpa only [Reps] using h
  | t :: ts, _, _, h, h1, h2 => by
    simp only [Reps] at h ⊢
    obtain ⟨v, us, f, g, e1, r, rs, e2⟩ := h
    subst e2
    exact ⟨v, us, f, g, e1, Rep.go e t r (fun b hb => h1 b (List.mem_append_left _ hb)) (fun b hb => h2 b (List.mem_append_left _ hb)), Reps.go e ts rs (fun b hb => h1 b (List.mem_append_right _ hb)) (fun b hb => h2 b (List.mem_append_right _ hb)), rfl⟩
theorem Repk.go (e : Sub F F') : ∀ (ts : List (Key × T)) {vs : List (Key × V)} {fp : List Addr}, Repk K ca F H ts vs fp → (∀ a ∈ fp, H' a = H a) → (∀ a ∈ fp, F' a = none) → Repk K ca F' H' ts vs fp
  | [], _, _, h, _, _ => by simpa only [Repk] using h
  | (k, t) :: ts, _, _, h, h1, h2 => by
    simp only [Repk] at h ⊢
    obtain ⟨v, us, f, g, e1, r, rs, e2⟩ := h
    subst e2
    exact ⟨v, us, f, g, e1, Rep.go e t r (fun b hb => h1 b (List.mem_append_left _ hb)) (fun b hb => h2 b (List.mem_append_left _ hb)), Repk.go e ts rs (fun b hb => h1 b (List.mem_append_right _ hb)) (fun b hb => h2 b (List.mem_append_right _ hb)), rfl⟩
theorem Repf.go (e : Sub F F') : ∀ (ts : List (Str × T)) {vs : List (Str × V)} {fp : List Addr}, Repf K ca F H ts vs fp → (∀ a ∈ fp, H' a = H a) → (∀ a ∈ fp, F' a = none) → Repf K ca F' H' ts vs fp
  | [], _, _, h, _, _ => by simpa only [Repf] using h
  | (k, t) :: ts, _, _, h, h1, h2 => by
    simp only [Repf] at h ⊢
    obtain ⟨v, us, f, g, e1, r, rs, e2⟩ := h
    subst e2
    exact ⟨v, us, f, g, e1, Rep.go e t r (fun b hb => h1 b (List.mem_append_left _ hb)) (fun b hb => h2 b (List.mem_append_left _ hb)), Repf.go e ts rs (fun b hb => h1 b (List.mem_append_right _ hb)) (fun b hb => h2 b (List.mem_append_right _ hb)), rfl⟩
end

mutual
/-- frozen: what it owned is now known as it stands -/
theorem Rep.frz (e : Sub F F') : ∀ (t : T) {v : V} {fp : List Addr}, t.nob = true → Rep K ca F H t v fp → (∀ a ∈ fp, F' a = H a) → Rep K ca F' H' t.fz v []
  | .non, _, _, _, h, _ => by simp only [Rep, T.fz] at h ⊢; exact ⟨h.1, by trivial⟩
  | .bl _, _, _, _, h, _ => by simp only [Rep, T.fz] at h ⊢; exact ⟨h.1, by trivial⟩
  | .int _, _, _, _, h, _ => by simp only [Rep, T.fz] at h ⊢; exact ⟨h.1, by trivial⟩
  | .str _, _, _, _, h, _ => by simp only [Rep, T.fz] at h ⊢; exact ⟨h.1, by trivial⟩
  | .tup xs, _, _, n, h, h1 => by
    simp only [Rep, T.fz, T.nob] at h n ⊢
    obtain ⟨a, vs, e1, s, r⟩ := h
    exact ⟨a, vs, e1, e.sqT s, Reps.frz e xs n r h1⟩
  | .lk xs, _, _, n, h, h1 => by
    simp only [Rep, T.fz, T.nob] at h n ⊢
    obtain ⟨a, vs, e1, s, r, e2⟩ := h
    exact ⟨a, vs, e1, e.sqL s, Reps.frz e xs n r (fun _ z => nomatch z), by trivial⟩
  | .lst false xs, _, _, n, h, h1 => by
    simp only [Rep, T.fz, T.nob] at h n ⊢
    obtain ⟨a, vs, e1, s, r, e2⟩ := h
    exact ⟨a, vs, e1, e _ _ s, Reps.frz e xs n r (fun _ z => nomatch z), by trivial⟩
  | .lst true xs, _, _, n, h, h1 => by
    simp only [Rep, T.fz, T.nob] at h n ⊢
    obtain ⟨a, vs, f, e1, s, _, r, e2⟩ := h
    subst e2
    exact ⟨a, vs, e1, (h1 a List.mem_cons_self).trans s, Reps.frz e xs n r (fun b hb => h1 b (List.mem_cons_of_mem _ hb)), by trivial⟩
  | .dct false kvs, _, _, n, h, h1 => by
    simp only [Rep, T.fz, T.nob] at h n ⊢
    obtain ⟨a, ks, e1, s, r, e2⟩ := h
    exact ⟨a, ks, e1, e.rd s, Repk.frz e kvs n r (fun _ z => nomatch z), by trivial⟩
  | .dct true kvs, _, _, n, h, h1 => by
    simp only [Rep, T.fz, T.nob] at h n ⊢
    obtain ⟨a, ks, f, e1, s, _, r, e2⟩ := h
    subst e2
    exact ⟨a, ks, e1, Rd.of ((h1 a List.mem_cons_self).trans s), Repk.frz e kvs n r (fun b hb => h1 b (List.mem_cons_of_mem _ hb)), by trivial⟩
  | .obj c fs, _, _, n, h, h1 => by simp [T.nob] at n
  | .hole, _, _, n, h, h1 => by simp [T.nob] at n
theorem Reps.frz (e : Sub F F') : ∀ (ts : List T) {vs : List V} {fp : List Addr}, T.nobl ts = true → Reps K ca F H ts vs fp → (∀ a ∈ fp, F' a = H a) → Reps K ca F' H' (T.fzl ts) vs []
  | [], _, _, _, h, _ => by simp only [Reps, T.fzl] at h ⊢; exact ⟨h.1, by trivial⟩
  | t :: ts, _, _, n, h, h1 => by
    simp only [Reps, T.fzl, T.nobl, Bool.and_eq_true] at h n ⊢
    obtain ⟨v, us, f, g, e1, r, rs, e2⟩ := h
    subst e2
    exact ⟨v, us, [], [], e1, Rep.frz e t n.1 r (fun b hb => h1 b (List.mem_append_left _ hb)), Reps.frz e ts n.2 rs (fun b hb => h1 b (List.mem_append_right _ hb)), by trivial⟩
theorem Repk.frz (e : Sub F F') : ∀ (ts : List (Key × T)) {vs : List (Key × V)} {fp : List Addr}, T.nobk ts = true → Repk K ca F H ts vs fp → (∀ a ∈ fp, F' a = H a) → Repk K ca F' H' (T.fzk ts) vs []
  | [], _, _, _, h, _ => by simp only [Repk, T.fzk] at h ⊢; exact ⟨h.1, by trivial⟩
  | (k, t) :: ts, _, _, n, h, h1 => by
    simp only [Repk, T.fzk, T.nobk, Bool.and_eq_true] at h n ⊢
    obtain ⟨v, us, f, g, e1, r, rs, e2⟩ := h
    subst e2
    exact ⟨v, us, [], [], e1, Rep.frz e t n.1 r (fun b hb => h1 b (List.mem_append_left _ hb)), Repk.frz e ts n.2 rs (fun b hb => h1 b (List.mem_append_right _ hb)), by trivial⟩
end

mutual
/-- nothing owned -/
theorem Rep.pure_fp : ∀ (t : T) {v : V} {fp : List Addr}, t.ow = false → Rep K ca F H t v fp → fp = []
  | .non, _, _, _, h => by simp only [Rep] at h; exact h.2
  | .bl _, _, _, _, h => by simp only [Rep] at h; exact h.2
  | .int _, _, _, _, h => by simp only [Rep] at h; exact h.2
  | .str _, _, _, _, h => by simp only [Rep] at h; exact h.2
  | .hole, _, _, _, h => by simp only [Rep] at h; exact h.2
  | .tup xs, _, _, n, h => by
    simp only [Rep, T.ow] at h n
    obtain ⟨a, vs, e1, s, r⟩ := h
    exact Reps.pure_fp xs n r
  | .lk xs, _, _, n, h => by
    simp only [Rep] at h
    obtain ⟨a, vs, e1, s, r, e2⟩ := h
    exact e2
  | .lst false xs, _, _, n, h => by
    simp only [Rep] at h
    obtain ⟨a, vs, e1, s, r, e2⟩ := h
    exact e2
  | .lst true xs, _, _, n, h => by simp [T.ow] at n
  | .dct false kvs, _, _, n, h => by
    simp only [Rep] at h
    obtain ⟨a, vs, e1, s, r, e2⟩ := h
    exact e2
  | .dct true xs, _, _, n, h => by simp [T.ow] at n
  | .obj _ _, _, _, n, h => by simp [T.ow] at n
theorem Reps.pure_fp : ∀ (ts : List T) {vs : List V} {fp : List Addr}, T.owl ts = false → Reps K ca F H ts vs fp → fp = []
  | [], _, _, _, h => by simp only [Reps] at h; exact h.2
  | t :: ts, _, _, n, h => by
    simp only [Reps, T.owl, Bool.or_eq_false_iff] at h n
    obtain ⟨v, us, f, g, e1, r, rs, e2⟩ := h
    rw [e2, Rep.pure_fp t n.1 r, Reps.pure_fp ts n.2 rs]
    rfl
end

mutual
/-- what is owned is tracked and not frozen -/
theorem Rep.alive : ∀ (t : T) {v : V} {fp : List Addr}, Rep K ca F H t v fp → ∀ a ∈ fp, H a ≠ none ∧ F a = none
  | .non, _, _, h, a, ha => by simp only [Rep] at h; rw [h.2] at ha; cases ha
  | .bl _, _, _, h, a, ha => by simp only [Rep] at h; rw [h.2] at ha; cases ha
  | .int _, _, _, h, a, ha => by simp only [Rep] at h; rw [h.2] at ha; cases ha
  | .str _, _, _, h, a, ha => by simp only [Rep] at h; rw [h.2] at ha; cases ha
  | .hole, _, _, h, a, ha => by simp only [Rep] at h; rw [h.2] at ha; cases ha
  | .tup xs, _, _, h, b, hb => by
    simp only [Rep] at h
    obtain ⟨a, vs, e1, s, r⟩ := h
    exact Reps.alive xs r b hb
  | .lk xs, _, _, h, b, hb => by
    simp only [Rep] at h
    obtain ⟨a, vs, e1, s, r, e2⟩ := h
    rw [e2] at hb; cases hb
  | .lst false xs, _, _, h, b, hb => by
    simp only [Rep] at h
    obtain ⟨a, vs, e1, s, r, e2⟩ := h
    rw [e2] at hb; cases hb
  | .lst true xs, _, _, h, b, hb => by
    simp only [Rep] at h
    obtain ⟨a, vs, f, e1, s, n, r, e2⟩ := h
    rw [e2] at hb
    rcases List.mem_cons.mp hb with rfl | hb
    · exact ⟨by rw [s]; simp, n⟩
    · exact Reps.alive xs r b hb
  | .dct false xs, _, _, h, b, hb => by
    simp only [Rep] at h
    obtain ⟨a, vs, e1, s, r, e2⟩ := h
    rw [e2] at hb; cases hb
  | .dct true xs, _, _, h, b, hb => by
    simp only [Rep] at h
    obtain ⟨a, vs, f, e1, s, n, r, e2⟩ := h
    rw [e2] at hb
    rcases List.mem_cons.mp hb with rfl | hb
    · exact ⟨by rw [s]; simp, n⟩
    · exact Repk.alive xs r b hb
  | .obj _ fs, _, _, h, b, hb => by
    simp only [Rep] at h
    obtain ⟨a, dx, vs, f, e1, s, n, r, e2⟩ := h
    rw [e2] at hb
    rcases List.mem_cons.mp hb with rfl | hb
    · exact ⟨by rw [s]; simp, n⟩
    · exact Repf.alive fs r b hb
theorem Reps.alive : ∀ (ts : List T) {vs : List V} {fp : List Addr}, Reps K ca F H ts vs fp → ∀ a ∈ fp, H a ≠ none ∧ F a = none
  | [], _, _, h, a, ha => by simp only [Reps] at h; rw [h.2] at ha; cases ha
  | t :: ts, _, _, h, b, hb => by
    simp only [Reps] at h
    obtain ⟨v, us, f, g, e1, r, rs, e2⟩ := h
    rw [e2] at hb
    rcases List.mem_append.mp hb with hb | hb
    · exact Rep.alive t r b hb
    · exact Reps.alive ts rs b hb
theorem Repk.alive : ∀ (ts : List (Key × T)) {vs : List (Key × V)} {fp : List Addr}, Repk K ca F H ts vs fp → ∀ a ∈ fp, H a ≠ none ∧ F a = none
  | [], _, _, h, a, ha => by simp only [Repk] at h; rw [h.2] at ha; cases ha
  | (k, t) :: ts, _, _, h, b, hb => by
    simp only [Repk] at h
    obtain ⟨v, us, f, g, e1, r, rs, e2⟩ := h
    rw [e2] at hb
    rcases List.mem_append.mp hb with hb | hb
    · exact Rep.alive t r b hb
    · exact Repk.alive ts rs b hb
theorem Repf.alive : ∀ (ts : List (Str × T)) {vs : List (Str × V)} {fp : List Addr}, Repf K ca F H ts vs fp → ∀ a ∈ fp, H a ≠ none ∧ F a = none
  | [], _, _, h, a, ha => by simp only [Repf] at h; rw [h.2] at ha; cases ha
  | (k, t) :: ts, _, _, h, b, hb => by
    simp only [Repf] at h
    obtain ⟨v, us, f, g, e1, r, rs, e2⟩ := h
    rw [e2] at hb
    rcases List.mem_append.mp hb with hb | hb
    · exact Rep.alive t r b hb
    · exact Repf.alive ts rs b hb
end

mutual
/-- what holds no frozen list leans on tuples alone -/
theorem Rep.unb (e : ∀ a xs, Rd F a (.tup xs) → Rd F' a (.tup xs)) : ∀ (t : T) {v : V} {fp : List Addr}, t.nfz = true → Rep K ca F H t v fp → (∀ a ∈ fp, F' a = none) → Rep K ca F' H t v fp
  | .non, _, _, _, h, _ => by simpa only [Rep] using h
  | .bl _, _, _, _, h, _ => by simpa only [Rep] using h
  | .int _, _, _, _, h, _ => by simpa only [Rep] using h
  | .str _, _, _, _, h, _ => by simpa only [Rep] using h
  | .hole, _, _, _, h, _ => by simpa only [Rep] using h
  | .tup xs, _, _, n, h, h2 => by
    simp only [Rep, T.nfz] at h n ⊢
    obtain ⟨a, vs, e1, s, r⟩ := h
    exact ⟨a, vs, e1, s.imp (e _ _) id, Reps.unb e xs n r h2⟩
  | .lk xs, _, _, n, h, h2 => by simp [T.nfz] at n
  | .lst false xs, _, _, n, h, h2 => by simp [T.nfz] at n
  | .lst true xs, _, _, n, h, h2 => by
    simp only [Rep, T.nfz, Bool.true_and] at h n ⊢
    obtain ⟨a, vs, f, e1, s, _, r, e2⟩ := h
    subst e2
    exact ⟨a, vs, f, e1, s, h2 a List.mem_cons_self, Reps.unb e xs n r (fun b hb => h2 b (List.mem_cons_of_mem _ hb)), rfl⟩
  | .dct false kvs, _, _, n, h, h2 => by simp [T.nfz] at n
  | .dct true kvs, _, _, n, h, h2 => by
    simp only [Rep, T.nfz, Bool.true_and] at h n ⊢
    obtain ⟨a, ks, f, e1, s, _, r, e2⟩ := h
    subst e2
    exact ⟨a, ks, f, e1, s, h2 a List.mem_cons_self, Repk.unb e kvs n r (fun b hb => h2 b (List.mem_cons_of_mem _ hb)), rfl⟩
  | .obj c fs, _, _, n, h, h2 => by
    simp only [Rep, T.nfz] at h n ⊢
    obtain ⟨a, dx, gs, f, e1, s, _, r, e2⟩ := h
    subst e2
    exact ⟨a, dx, gs, f, e1, s, h2 a List.mem_cons_self, Repf.unb e fs n r (fun b hb => h2 b (List.mem_cons_of_mem _ hb)), rfl⟩
theorem Reps.unb (e : ∀ a xs, Rd F a (.tup xs) → Rd F' a (.tup xs)) : ∀ (ts : List T) {vs : List V} {fp : List Addr}, T.nfzl ts = true → Reps K ca F H ts vs fp → (∀ a ∈ fp, F' a = none) → Reps K ca F' H ts vs fp
  | [], _, _, _, h, _ => by simpa only [Reps] using h
  | t :: ts, _, _, n, h, h2 => by
    simp only [Reps, T.nfzl, Bool.and_eq_true] at h n ⊢
    obtain ⟨v, us, f, g, e1, r, rs, e2⟩ := h
    subst e2
    exact ⟨v, us, f, g, e1, Rep.unb e t n.1 r (fun b hb => h2 b (List.mem_append_left _ hb)), Reps.unb e ts n.2 rs (fun b hb => h2 b (List.mem_append_right _ hb)), rfl⟩
theorem Repk.unb (e : ∀ a xs, Rd F a (.tup xs) → Rd F' a (.tup xs)) : ∀ (ts : List (Key × T)) {vs : List (Key × V)} {fp : List Addr}, T.nfzk ts = true → Repk K ca F H ts vs fp → (∀ a ∈ fp, F' a = none) → Repk K ca F' H ts vs fp
  | [], _, _, _, h, _ => by simpa only [Repk] using h
  | (k, t) :: ts, _, _, n, h, h2 => by
    simp only [Repk, T.nfzk, Bool.and_eq_true] at h n ⊢
    obtain ⟨v, us, f, g, e1, r, rs, e2⟩ := h
    subst e2
    exact ⟨v, us, f, g, e1, Rep.unb e t n.1 r (fun b hb => h2 b (List.mem_append_left _ hb)), Repk.unb e ts n.2 rs (fun b hb => h2 b (List.mem_append_right _ hb)), rfl⟩
theorem Repf.unb (e : ∀ a xs, Rd F a (.tup xs) → Rd F' a (.tup xs)) : ∀ (ts : List (Str × T)) {vs : List (Str × V)} {fp : List Addr}, T.nfzf ts = true → Repf K ca F H ts vs fp → (∀ a ∈ fp, F' a = none) → Repf K ca F' H ts vs fp
  | [], _, _, _, h, _ => by simpa only [Repf] using h
  | (k, t) :: ts, _, _, n, h, h2 => by
    simp only [Repf, T.nfzf, Bool.and_eq_true] at h n ⊢
    obtain ⟨v, us, f, g, e1, r, rs, e2⟩ := h
    subst e2
    exact ⟨v, us, f, g, e1, Rep.unb e t n.1 r (fun b hb => h2 b (List.mem_append_left _ hb)), Repf.unb e ts n.2 rs (fun b hb => h2 b (List.mem_append_right _ hb)), rfl⟩
end

theorem Reps.length : ∀ {ts : List T} {vs : List V} {fp : List Addr}, Reps K ca F H ts vs fp → vs.length = ts.length
  | [], _, _, h => by simp only [Reps] at h; rw [h.1]; rfl
  | t :: ts, _, _, h => by
    simp only [Reps] at h
    obtain ⟨v, us, f, g, e1, r, rs, e2⟩ := h
    rw [e1, List.length_cons, List.length_cons, Reps.length rs]
theorem Reps.append : ∀ {ts : List T} {vs : List V} {fp : List Addr} {ts' : List T} {vs' : List V} {fp' : List Addr}, Reps K ca F H ts vs fp → Reps K ca F H ts' vs' fp' → Reps K ca F H (ts ++ ts') (vs ++ vs') (fp ++ fp')
  | [], _, _, _, _, _, h, h' => by
    simp only [Reps] at h
    rw [h.1, h.2]
    exact h'
  | t :: ts, _, _, _, _, _, h, h' => by
    simp only [Reps, List.cons_append] at h ⊢
    obtain ⟨v, us, f, g, e1, r, rs, e2⟩ := h
    exact ⟨v, _, f, _, by rw [e1]; rfl, r, rs.append h', by rw [e2, List.append_assoc]⟩
end
end QL
namespace QL
open PySem L2

inductive Er where
  | stuck | exc (c : Str) (fs : List (Str × T))
abbrev R (α : Type) := Except Er α
abbrev En := List (Option T)
abbrev Fp := Nat → List Addr
def stk {α : Type} : R α := .error .stuck
/-- an operand: a value of its own, or what stands in a slot (or within it) -/
inductive Bop where
  | tmp (t : T) | br (t : T) (i : Nat) | io (i : Nat)
abbrev EM := En → R (T × En)
abbrev BM := En → R (Bop × En)
abbrev AM := En → R (List Bop × En)

def Ow (fp : Fp) (a : Addr) : Prop := ∃ i, a ∈ fp i
def OwM (md : List Nat) (fp : Fp) (a : Addr) : Prop := ∃ i, i ∈ md ∧ a ∈ fp i
theorem OwM.ow {md : List Nat} {fp : Fp} {a : Addr} (h : OwM md fp a) : Ow fp a := let ⟨i, _, z⟩ := h; ⟨i, z⟩

structure SR (K : PySem.W.Frag) (ca : Ca) (F H : Hp) (σ : St) (env : En) (fp : Fp) : Prop where
  sub : Sub F H
  slot : ∀ i t, env[i]? = some (some t) → ∃ v, σ[i]? = some (some v) ∧ Rep K ca F H t v (fp i)
  alive : ∀ a, Ow fp a → H a ≠ none ∧ F a = none
  one : ∀ i j a, a ∈ fp i → a ∈ fp j → i = j
  nd : ∀ i, (fp i).Nodup
  len : env.length = σ.length

/-- a step of the heap: O may be changed, O' is owned behind -/
structure Go (F H : Hp) (O : Addr → Prop) (F' H' : Hp) (O' : Addr → Prop) : Prop where
  ext : Sub F F'
  sub : Sub F' H'
  frame : ∀ b o, H b = some o → ¬ O b → H' b = some o
  nofz : ∀ b, F' b ≠ none → F b ≠ none ∨ O b ∨ H b = none
  fresh : ∀ b, O' b → O b ∨ H b = none
theorem Go.refl {F H : Hp} {O O' : Addr → Prop} (s : Sub F H) (h : ∀ b, O' b → O b) : Go F H O F H O' :=
  ⟨Sub.refl F, s, fun _ _ e _ => e, fun _ e => .inl e, fun b e => .inl (h b e)⟩
theorem Go.trans {F H F1 H1 F2 H2 : Hp} {O O1 O1' O2 P : Addr → Prop} (a : Go F H O F1 H1 O1) (b : Go F1 H1 O1' F2 H2 O2) (h1 : ∀ x, O1' x → O1 x) (hP : ∀ x, P x → O2 x ∨ O1 x) : Go F H O F2 H2 P where
  ext := a.ext.trans b.ext
  sub := b.sub
  frame := fun x o e n => b.frame x o (a.frame x o e n) fun z => by
    rcases a.fresh x (h1 x z) with q | q
    · exact n q
    · rw [q] at e; cases e
  nofz := fun x e => by
    rcases b.nofz x e with q | q | q
    · exact a.nofz x q
    · exact .inr (a.fresh x (h1 x q))
    · by_cases z : O x
      · exact .inr (.inl z)
      · refine .inr (.inr ?_)
        cases w : H x with
        | none => rfl
        | some o => rw [a.frame x o w z] at q; cases q
  fresh := fun x e => by
    rcases hP x e with q | q
    · rcases b.fresh x q with q | q
      · exact a.fresh x (h1 x q)
      · by_cases z : O x
        · exact .inl z
        · refine .inr ?_
          cases w : H x with
          | none => rfl
          | some o => rw [a.frame x o w z] at q; cases q
    · exact a.fresh x q
theorem Go.weak {F H F' H' : Hp} {O P O' P' : Addr → Prop} (g : Go F H O F' H' O') (h : ∀ x, O x → P x) (h' : ∀ x, P' x → O' x) : Go F H P F' H' P' :=
  ⟨g.ext, g.sub, fun b o e n => g.frame b o e fun z => n (h b z), fun b e => (g.nofz b e).imp id (Or.imp (h b) id), fun b e => (g.fresh b (h' b e)).imp (h b) id⟩
/-- one new object, known as it stands -/
theorem Go.newF {F H : Hp} {p : Addr} {o : HO} {O O' : Addr → Prop} (s : Sub F H) (hp : H p = none) (hO : ∀ b, O' b → O b ∨ H b = none) : Go F H O (upd F p o) (upd H p o) O' where
  ext := fun a u e => by rw [upd_ne (fun z => by subst z; rw [s _ _ e] at hp; cases hp)]; exact e
  sub := fun a u e => by
    by_cases z : a = p
    · subst z; rw [upd_same] at e ⊢; exact e
    · rw [upd_ne z] at e ⊢; exact s _ _ e
  frame := fun b u e _ => by rw [upd_ne (fun z => by subst z; rw [hp] at e; cases e)]; exact e
  nofz := fun b e => by
    by_cases z : b = p
    · subst z; exact .inr (.inr hp)
    · rw [upd_ne z] at e; exact .inl e
  fresh := hO
/-- one new object, owned -/
theorem Go.newO {F H : Hp} {p : Addr} {o : HO} {O O' : Addr → Prop} (s : Sub F H) (hp : H p = none) (hO : ∀ b, O' b → O b ∨ H b = none) : Go F H O F (upd H p o) O' where
  ext := Sub.refl F
  sub := fun a u e => by rw [upd_ne (fun z => by subst z; rw [s _ _ e] at hp; cases hp)]; exact s _ _ e
  frame := fun b u e _ => by rw [upd_ne (fun z => by subst z; rw [hp] at e; cases e)]; exact e
  nofz := fun b e => .inl e
  fresh := hO
/-- an owned object is changed -/
theorem Go.write {F H : Hp} {p : Addr} {o : HO} {O O' : Addr → Prop} (s : Sub F H) (hp : O p) (hF : F p = none) (hO : ∀ b, O' b → O b ∨ H b = none) : Go F H O F (upd H p o) O' where
  ext := Sub.refl F
  sub := fun a u e => by rw [upd_ne (fun z => by subst z; rw [hF] at e; cases e)]; exact s _ _ e
  frame := fun b u e n => by rw [upd_ne (fun z => n (by rw [z]; exact hp))]; exact e
  nofz := fun b e => .inl e
  fresh := hO

section
variable {K : PySem.W.Frag} {ca : Ca} {F F' F1 H H' H1 : Hp} {O O' : Addr → Prop} {σ : St} {env : En} {fp : Fp} {t : T} {v : V} {fv : List Addr} {ts : List T} {vs : List V}

theorem Rep.of_go (h : Rep K ca F H t v fv) (g : Go F H O F' H' O') (d : ∀ a ∈ fv, ¬ O a) : Rep K ca F' H' t v fv := by
  have al := Rep.alive t h
  refine Rep.go g.ext t h (fun a ha => ?_) (fun a ha => ?_)
  · cases w : H a with
    | none => exact absurd w (al a ha).1
    | some o => exact g.frame a o w (d a ha)
  · cases w : F' a with
    | none => rfl
    | some o =>
      exfalso
      rcases g.nofz a (by rw [w]; simp) with q | q | q
      · exact q (al a ha).2
      · exact d a ha q
      · exact (al a ha).1 q
theorem Reps.of_go (h : Reps K ca F H ts vs fv) (g : Go F H O F' H' O') (d : ∀ a ∈ fv, ¬ O a) : Reps K ca F' H' ts vs fv := by
  have al := Reps.alive ts h
  refine Reps.go g.ext ts h (fun a ha => ?_) (fun a ha => ?_)
  · cases w : H a with
    | none => exact absurd w (al a ha).1
    | some o => exact g.frame a o w (d a ha)
  · cases w : F' a with
    | none => rfl
    | some o =>
      exfalso
      rcases g.nofz a (by rw [w]; simp) with q | q | q
      · exact q (al a ha).2
      · exact d a ha q
      · exact (al a ha).1 q
theorem SR.of_go (s : SR K ca F H σ env fp) (g : Go F H O F' H' O') (d : ∀ a, Ow fp a → ¬ O a) : SR K ca F' H' σ env fp where
  sub := g.sub
  slot := fun i t e => by
    obtain ⟨v, e1, r⟩ := s.slot i t e
    exact ⟨v, e1, r.of_go g fun a ha => d a ⟨i, ha⟩⟩
  alive := fun a ha => by
    obtain ⟨h1, h2⟩ := s.alive a ha
    constructor
    · cases w : H a with
      | none => exact absurd w h1
      | some o => rw [g.frame a o w (d a ha)]; simp
    · cases w : F' a with
      | none => rfl
      | some o =>
        exfalso
        rcases g.nofz a (by rw [w]; simp) with q | q | q
        · exact q h2
        · exact d a ha q
        · exact h1 q
  one := s.one
  nd := s.nd
  len := s.len

/-- a value of its own -/
structure Tm (K : PySem.W.Frag) (ca : Ca) (F H : Hp) (fp : Fp) (t : T) (v : V) (fv : List Addr) : Prop where
  rep : Rep K ca F H t v fv
  nd : fv.Nodup
  off : ∀ a ∈ fv, ¬ Ow fp a
/-- operands: ft what they own -/
def Op1 (K : PySem.W.Frag) (ca : Ca) (md : List Nat) (F H : Hp) (σ : St) (fp : Fp) (v : V) (f : List Addr) : Bop → Prop
  | .tmp t => Rep K ca F H t v f
  | .br t i => i ∉ md ∧ f = [] ∧ ∃ fb, Rep K ca F H t v fb ∧ ∀ a ∈ fb, a ∈ fp i
  | .io i => f = [] ∧ σ[i]? = some (some v)
def Ops (K : PySem.W.Frag) (ca : Ca) (md : List Nat) (F H : Hp) (σ : St) (fp : Fp) : List Bop → List V → List Addr → Prop
  | [], vs, ft => vs = [] ∧ ft = []
  | b :: bs, vs, ft => ∃ v us f g, vs = v :: us ∧ Op1 K ca md F H σ fp v f b ∧ Ops K ca md F H σ fp bs us g ∧ ft = f ++ g
structure Keep (md : List Nat) (env : En) (fp : Fp) (env' : En) (fp' : Fp) : Prop where
  fp : ∀ i, i ∉ md → fp' i = fp i
  env : ∀ i, i ∉ md → env'[i]? = env[i]?
theorem Keep.refl {md : List Nat} : Keep md env fp env fp := ⟨fun _ _ => rfl, fun _ _ => rfl⟩
theorem Keep.trans {md : List Nat} {env1 env2 : En} {fp1 fp2 : Fp} (a : Keep md env fp env1 fp1) (b : Keep md env1 fp1 env2 fp2) : Keep md env fp env2 fp2 :=
  ⟨fun i h => (b.fp i h).trans (a.fp i h), fun i h => (b.env i h).trans (a.env i h)⟩
theorem Keep.mono {md md' : List Nat} {env1 : En} {fp1 : Fp} (a : Keep md env fp env1 fp1) (h : ∀ i, i ∈ md → i ∈ md') : Keep md' env fp env1 fp1 :=
  ⟨fun i n => a.fp i fun z => n (h i z), fun i n => a.env i fun z => n (h i z)⟩

def TEof (K : PySem.W.Frag) (ca : Ca) (md : List Nat) (f : EM) : TE := fun σ H Q => ∃ F env fp t env', SR K ca F H σ env fp ∧ f env = .ok (t, env') ∧
  ∀ v H' F' fp' fv, Go F H (OwM md fp) F' H' (fun a => OwM md fp' a ∨ a ∈ fv) → Keep md env fp env' fp' → SR K ca F' H' σ env' fp' → Tm K ca F' H' fp' t v fv → Q v H'
def TBof (K : PySem.W.Frag) (ca : Ca) (md : List Nat) (f : BM) : TE := fun σ H Q => ∃ F env fp b env', SR K ca F H σ env fp ∧ f env = .ok (b, env') ∧
  ∀ v H' F' fp' ft, Go F H (OwM md fp) F' H' (fun a => OwM md fp' a ∨ a ∈ ft) → Keep md env fp env' fp' → SR K ca F' H' σ env' fp' → Ops K ca md F' H' σ fp' [b] [v] ft → ft.Nodup → (∀ a ∈ ft, ¬ Ow fp' a) → Q v H'
def TAof (K : PySem.W.Frag) (ca : Ca) (md : List Nat) (f : AM) : TA := fun σ H Q => ∃ F env fp bs env', SR K ca F H σ env fp ∧ f env = .ok (bs, env') ∧
  ∀ vs H' F' fp' ft, Go F H (OwM md fp) F' H' (fun a => OwM md fp' a ∨ a ∈ ft) → Keep md env fp env' fp' → SR K ca F' H' σ env' fp' → Ops K ca md F' H' σ fp' bs vs ft → ft.Nodup → (∀ a ∈ ft, ¬ Ow fp' a) → Q vs H'
def TTof (K : PySem.W.Frag) (ca : Ca) (md : List Nat) (f : En → R (Bool × En)) : TT := fun σ H Q => ∃ F env fp b env', SR K ca F H σ env fp ∧ f env = .ok (b, env') ∧
  ∀ H' F' fp', Go F H (OwM md fp) F' H' (OwM md fp') → Keep md env fp env' fp' → SR K ca F' H' σ env' fp' → Q b H'

/-- operands stay while others are reckoned -/
theorem Ops.of_go {md : List Nat} {env1 : En} {fp1 : Fp} (g : Go F H (OwM md fp) F' H' O') (k : Keep md env fp env1 fp1) : ∀ {bs : List Bop} {vs : List V} {ft : List Addr}, Ops K ca md F H σ fp bs vs ft → (∀ i j a, a ∈ fp i → a ∈ fp j → i = j) → (∀ a ∈ ft, ¬ OwM md fp a) →
    Ops K ca md F' H' σ fp1 bs vs ft
  | [], _, _, h, _, _ => h
  | b :: bs, _, _, h, on, d => by
    simp only [Ops] at h ⊢
    obtain ⟨v, us, f, g', e1, r, rs, e2⟩ := h
    subst e2
    refine ⟨v, us, f, g', e1, ?_, Ops.of_go g k rs on (fun a ha => d a (List.mem_append_right _ ha)), rfl⟩
    cases b with
    | tmp t => exact Rep.of_go (show Rep K ca F H t v f from r) g fun a ha => d a (List.mem_append_left _ ha)
    | br t i =>
      obtain ⟨r1, r2, fb, r3, r4⟩ := r
      refine ⟨r1, r2, fb, r3.of_go g fun a ha ⟨j, hj, hj2⟩ => ?_, fun a ha => ?_⟩
      · have := on i j a (r4 a ha) hj2
        subst this
        exact r1 hj
      · rw [k.fp i r1]
        exact r4 a ha
    | io i => exact r

/-- a check -/
def ck (b : Bool) : R Unit := if b then .ok () else stk
theorem ck_ok {b : Bool} {u : Unit} (h : ck b = .ok u) : b = true := by
  cases b with
  | true => rfl
  | false => cases h
/-- lists of operands, from the left -/
def aNil : AM := fun env => .ok ([], env)
def aCons (f : BM) (g : AM) : AM := fun env => do
  let (b, env1) ← f env
  let (bs, env2) ← g env1
  .ok (b :: bs, env2)
theorem bind_ok {α β : Type} {x : R α} {f : α → R β} {z : β} (h : (x >>= f) = .ok z) : ∃ a, x = .ok a ∧ f a = .ok z := by
  cases x with
  | error e => cases h
  | ok a => exact ⟨a, rfl, h⟩
theorem ta_nil {md : List Nat} {Q : List V → Hp → Prop} (h : TAof K ca md aNil σ H Q) : tNil σ H Q := by
  obtain ⟨F, env, fp, bs, env', s, e, k⟩ := h
  cases e
  exact k [] H F fp [] (Go.refl s.sub fun b z => z.elim id (fun z => nomatch z)) Keep.refl s ⟨rfl, rfl⟩ List.nodup_nil (fun _ z => nomatch z)
theorem ta_cons {md : List Nat} {f : BM} {g : AM} {Q : List V → Hp → Prop} (h : TAof K ca md (aCons f g) σ H Q) : tCons (TBof K ca md f) (TAof K ca md g) σ H Q := by
  obtain ⟨F, env, fp, bs, env', s, e, k⟩ := h
  obtain ⟨⟨b, env1⟩, e1, e⟩ := bind_ok e
  obtain ⟨⟨bs2, env2⟩, e2, e⟩ := bind_ok e
  cases e
  refine ⟨F, env, fp, b, env1, s, e1, fun v H1 F1 fp1 ft1 g1 k1 s1 o1 n1 d1 => ?_⟩
  refine ⟨F1, env1, fp1, bs2, env', s1, e2, fun vs H2 F2 fp2 ft2 g2 k2 s2 o2 n2 d2 => ?_⟩
  have o1' := Ops.of_go g2 k2 o1 s1.one (fun a ha z => d1 a ha z.ow)
  simp only [Ops] at o1'
  obtain ⟨v', us, f1, f2, h1, r, ⟨h2, h3⟩, h4⟩ := o1'
  injection h1 with h1 h1'
  subst h1 h1' h3 h4
  rw [List.append_nil] at *
  have al1 : ∀ a ∈ f1, H1 a ≠ none := fun a ha => by
    simp only [Ops] at o1
    obtain ⟨v', us, f3, f4, q1, r', ⟨q2, q3⟩, q4⟩ := o1
    subst q3
    rw [List.append_nil] at q4
    subst q4
    cases b with
    | tmp t => exact (Rep.alive t r' a ha).1
    | br t i => rw [r'.2.1] at ha; cases ha
    | io i => rw [r'.1] at ha; cases ha
  have off1 : ∀ a ∈ f1, ¬ Ow fp2 a := fun a ha ⟨i, hi⟩ => by
    by_cases hm : i ∈ md
    · rcases g2.fresh a (.inl ⟨i, hm, hi⟩) with q | q
      · exact d1 a ha q.ow
      · exact al1 a ha q
    · rw [k2.fp i hm] at hi
      exact d1 a ha ⟨i, hi⟩
  refine k (v :: vs) H2 F2 fp2 (f1 ++ ft2) (g1.trans g2 (fun a z => .inl z) fun a z => ?_) (k1.trans k2) s2 ?_ ?_ ?_
  · rcases z with z | z
    · exact .inl (.inl z)
    · rcases List.mem_append.mp z with z | z
      · exact .inr (.inr z)
      · exact .inl (.inr z)
  · simp only [Ops]
    exact ⟨v, vs, f1, ft2, rfl, r, o2, rfl⟩
  · refine List.nodup_append.mpr ⟨n1, n2, fun a ha c hc z => ?_⟩
    subst z
    rcases g2.fresh a (.inr hc) with q | q
    · exact d1 a ha q.ow
    · exact al1 a ha q
  · intro a ha
    rcases List.mem_append.mp ha with ha | ha
    · exact off1 a ha
    · exact d2 a ha
/-- a value as an operand -/
def bE (f : EM) : BM := fun env => do
  let (t, env1) ← f env
  .ok (.tmp t, env1)
theorem tb_e {md : List Nat} {f : EM} {Q : VK} (h : TBof K ca md (bE f) σ H Q) : TEof K ca md f σ H Q := by
  obtain ⟨F, env, fp, b, env', s, e, k⟩ := h
  obtain ⟨⟨t, env1⟩, e1, e⟩ := bind_ok e
  cases e
  refine ⟨F, env, fp, t, env', s, e1, fun v H' F' fp' fv g kp s' tm => k v H' F' fp' fv g kp s' ?_ tm.nd tm.off⟩
  simp only [Ops]
  exact ⟨v, [], fv, [], rfl, tm.rep, ⟨rfl, rfl⟩, by rw [List.append_nil]⟩
/-- what stands in a slot as an operand -/
def bV (i : Nat) : BM := fun env => match env[i]? with
  | some (some t) => .ok (.br t i, env)
  | _ => stk
theorem tb_v {md : List Nat} {i : Nat} {Q : VK} (hi : i ∉ md) (h : TBof K ca md (bV i) σ H Q) : tVar i σ H Q := by
  obtain ⟨F, env, fp, b, env', s, e, k⟩ := h
  unfold bV at e
  split at e
  case h_2 => cases e
  case h_1 t et =>
    cases e
    obtain ⟨v, e1, r⟩ := s.slot i t et
    refine ⟨v, e1, k v H F fp [] (Go.refl s.sub fun b z => z.elim id (fun z => nomatch z)) Keep.refl s ?_ List.nodup_nil (fun _ z => nomatch z)⟩
    simp only [Ops]
    exact ⟨v, [], [], [], rfl, ⟨hi, rfl, fp i, r, fun _ z => z⟩, ⟨rfl, rfl⟩, rfl⟩

def Bop.res : Bop → T
  | .tmp t => t
  | .br t _ => if t.ow then t.fz else t
  | .io _ => .non
/-- borrowed and owned -/
def Bop.bo : Bop → Bool
  | .br t _ => t.ow
  | _ => false
/-- may be borrowed -/
def Bop.fit : Bop → Bool
  | .tmp _ => true
  | .br t _ => !t.ow || t.nob
  | .io _ => false
def opApp (o : List T → R T) (bs : List Bop) : R T := do
  let _ ← ck (bs.all Bop.fit)
  let t ← o (bs.map Bop.res)
  let _ ← ck (!bs.any Bop.bo || t.nfz)
  .ok t
/-- what is asked of a call of values -/
def CallS (K : PySem.W.Frag) (ca : Ca) (r : List V → Hp → VK → Prop) (o : List T → R T) : Prop :=
  ∀ (F H : Hp) (ts : List T) (vs : List V) (f : List Addr) (t : T) (Q : VK), Sub F H → Reps K ca F H ts vs f → f.Nodup → o ts = .ok t →
    (∀ v H' F' k, Go F H (· ∈ f) F' H' (· ∈ k) → Rep K ca F' H' t v k → k.Nodup → Q v H') → r vs H Q

mutual
theorem Rep.kind : ∀ (t : T) {v : V} {fp : List Addr}, Rep K ca F H t v fp → ∀ a ∈ fp, ∀ o, H a = some o → (∀ xs, o ≠ .tup xs) ∧ ∀ ob u, o ≠ .frz ob u
  | .non, _, _, h, a, ha, _, _ => by simp only [Rep] at h; rw [h.2] at ha; cases ha
  | .bl _, _, _, h, a, ha, _, _ => by simp only [Rep] at h; rw [h.2] at ha; cases ha
  | .int _, _, _, h, a, ha, _, _ => by simp only [Rep] at h; rw [h.2] at ha; cases ha
  | .str _, _, _, h, a, ha, _, _ => by simp only [Rep] at h; rw [h.2] at ha; cases ha
  | .hole, _, _, h, a, ha, _, _ => by simp only [Rep] at h; rw [h.2] at ha; cases ha
  | .tup xs, _, _, h, b, hb, o, eo => by
    simp only [Rep] at h
    obtain ⟨a, vs, e1, s, r⟩ := h
    exact Reps.kind xs r b hb o eo
  | .lk xs, _, _, h, b, hb, o, eo => by
    simp only [Rep] at h
    obtain ⟨a, vs, e1, s, r, e2⟩ := h
    rw [e2] at hb; cases hb
  | .lst false xs, _, _, h, b, hb, o, eo => by
    simp only [Rep] at h
    obtain ⟨a, vs, e1, s, r, e2⟩ := h
    rw [e2] at hb; cases hb
  | .lst true xs, _, _, h, b, hb, o, eo => by
    simp only [Rep] at h
    obtain ⟨a, vs, f, e1, s, n, r, e2⟩ := h
    rw [e2] at hb
    rcases List.mem_cons.mp hb with rfl | hb
    · (rw [s] at eo; cases eo; exact ⟨fun _ => by simp, fun _ _ => by simp⟩)
    · exact Reps.kind xs r b hb o eo
  | .dct false xs, _, _, h, b, hb, o, eo => by
    simp only [Rep] at h
    obtain ⟨a, vs, e1, s, r, e2⟩ := h
    rw [e2] at hb; cases hb
  | .dct true xs, _, _, h, b, hb, o, eo => by
    simp only [Rep] at h
    obtain ⟨a, vs, f, e1, s, n, r, e2⟩ := h
    rw [e2] at hb
    rcases List.mem_cons.mp hb with rfl | hb
    · (rw [s] at eo; cases eo; exact ⟨fun _ => by simp, fun _ _ => by simp⟩)
    · exact Repk.kind xs r b hb o eo
  | .obj _ fs, _, _, h, b, hb, o, eo => by
    simp only [Rep] at h
    obtain ⟨a, dx, vs, f, e1, s, n, r, e2⟩ := h
    rw [e2] at hb
    rcases List.mem_cons.mp hb with rfl | hb
    · (rw [s] at eo; cases eo; exact ⟨fun _ => by simp, fun _ _ => by simp⟩)
    · exact Repf.kind fs r b hb o eo
theorem Reps.kind : ∀ (ts : List T) {vs : List V} {fp : List Addr}, Reps K ca F H ts vs fp → ∀ a ∈ fp, ∀ o, H a = some o → (∀ xs, o ≠ .tup xs) ∧ ∀ ob u, o ≠ .frz ob u
  | [], _, _, h, a, ha, _, _ => by simp only [Reps] at h; rw [h.2] at ha; cases ha
  | t :: ts, _, _, h, b, hb, o, eo => by
    simp only [Reps] at h
    obtain ⟨v, us, f, g, e1, r, rs, e2⟩ := h
    rw [e2] at hb
    rcases List.mem_append.mp hb with hb | hb
    · exact Rep.kind t r b hb o eo
    · exact Reps.kind ts rs b hb o eo
theorem Repk.kind : ∀ (ts : List (Key × T)) {vs : List (Key × V)} {fp : List Addr}, Repk K ca F H ts vs fp → ∀ a ∈ fp, ∀ o, H a = some o → (∀ xs, o ≠ .tup xs) ∧ ∀ ob u, o ≠ .frz ob u
  | [], _, _, h, a, ha, _, _ => by simp only [Repk] at h; rw [h.2] at ha; cases ha
  | (k, t) :: ts, _, _, h, b, hb, o, eo => by
    simp only [Repk] at h
    obtain ⟨v, us, f, g, e1, r, rs, e2⟩ := h
    rw [e2] at hb
    rcases List.mem_append.mp hb with hb | hb
    · exact Rep.kind t r b hb o eo
    · exact Repk.kind ts rs b hb o eo
theorem Repf.kind : ∀ (ts : List (Str × T)) {vs : List (Str × V)} {fp : List Addr}, Repf K ca F H ts vs fp → ∀ a ∈ fp, ∀ o, H a = some o → (∀ xs, o ≠ .tup xs) ∧ ∀ ob u, o ≠ .frz ob u
  | [], _, _, h, a, ha, _, _ => by simp only [Repf] at h; rw [h.2] at ha; cases ha
  | (k, t) :: ts, _, _, h, b, hb, o, eo => by
    simp only [Repf] at h
    obtain ⟨v, us, f, g, e1, r, rs, e2⟩ := h
    rw [e2] at hb
    rcases List.mem_append.mp hb with hb | hb
    · exact Rep.kind t r b hb o eo
    · exact Repf.kind ts rs b hb o eo
end

/-- the borrowed addresses -/
theorem Ops.view {md : List Nat} (hs : SR K ca F H σ env fp) : ∀ {bs : List Bop} {vs : List V} {ft : List Addr}, Ops K ca md F H σ fp bs vs ft → bs.all Bop.fit = true →
    ∃ B : List Addr, (∀ a ∈ B, Ow fp a ∧ ∀ o, H a = some o → (∀ xs, o ≠ .tup xs) ∧ ∀ ob u, o ≠ .frz ob u) ∧ (bs.any Bop.bo = false → B = []) ∧
      ∀ F1, Sub F F1 → (∀ a ∈ B, F1 a = H a) → (∀ a ∈ ft, F1 a = none) → Reps K ca F1 H (bs.map Bop.res) vs ft
  | [], _, _, h, _ => ⟨[], fun _ z => absurd z (by simp), fun _ => rfl, fun F1 _ _ _ => by simpa only [Ops, Reps, List.map] using h⟩
  | b :: bs, _, _, h, hn => by
    simp only [Ops] at h
    obtain ⟨v, us, f, g, e1, r, rs, e2⟩ := h
    rw [List.all_cons, Bool.and_eq_true] at hn
    obtain ⟨B, hB1, hB2, hB3⟩ := Ops.view hs rs hn.2
    subst e2
    cases b with
    | io i => exact absurd hn.1 (by simp [Bop.fit])
    | tmp t =>
      have r' : Rep K ca F H t v f := r
      refine ⟨B, hB1, fun z => hB2 ?_, fun F1 s1 q1 q2 => ?_⟩
      · rw [List.any_cons, Bool.or_eq_false_iff] at z; exact z.2
      · simp only [List.map, Reps]
        exact ⟨v, us, f, g, e1, Rep.go s1 t r' (fun _ _ => rfl) fun a ha => q2 a (List.mem_append_left _ ha), hB3 F1 s1 q1 (fun a ha => q2 a (List.mem_append_right _ ha)), rfl⟩
    | br t i =>
      obtain ⟨r1, r2, fb, r3, r4⟩ := r
      subst r2
      by_cases how : t.ow = true
      · have hnob : t.nob = true := by
          have := hn.1
          simp only [Bop.fit, how, Bool.not_true, Bool.false_or] at this
          exact this
        refine ⟨fb ++ B, fun a ha => ?_, fun z => ?_, fun F1 s1 q1 q2 => ?_⟩
        · rcases List.mem_append.mp ha with ha | ha
          · exact ⟨⟨i, r4 a ha⟩, Rep.kind t r3 a ha⟩
          · exact hB1 a ha
        · rw [List.any_cons, show Bop.bo (.br t i) = t.ow from rfl, how] at z; cases z
        · simp only [List.map, Reps]
          refine ⟨v, us, [], g, e1, ?_, hB3 F1 s1 (fun a ha => q1 a (List.mem_append_right _ ha)) (fun a ha => q2 a (List.mem_append_right _ ha)), rfl⟩
          have : Bop.res (.br t i) = t.fz := by unfold Bop.res; simp [how]
          rw [this]
          exact Rep.frz s1 t hnob r3 fun a ha => q1 a (List.mem_append_left _ ha)
      · have how : t.ow = false := by simpa using how
        have hfb := Rep.pure_fp t how r3
        subst hfb
        refine ⟨B, hB1, fun z => hB2 ?_, fun F1 s1 q1 q2 => ?_⟩
        · rw [List.any_cons, Bool.or_eq_false_iff] at z; exact z.2
        · simp only [List.map, Reps]
          refine ⟨v, us, [], g, e1, ?_, hB3 F1 s1 q1 (fun a ha => q2 a (List.mem_append_right _ ha)), rfl⟩
          have : Bop.res (.br t i) = t := by unfold Bop.res; simp [how]
          rw [this]
          exact Rep.go s1 t r3 (fun _ z => nomatch z) (fun _ z => nomatch z)

theorem Ops.alive {md : List Nat} : ∀ {bs : List Bop} {vs : List V} {ft : List Addr}, Ops K ca md F H σ fp bs vs ft → ∀ a ∈ ft, H a ≠ none ∧ F a = none
  | [], _, _, h, a, ha => by simp only [Ops] at h; rw [h.2] at ha; cases ha
  | b :: bs, _, _, h, a, ha => by
    simp only [Ops] at h
    obtain ⟨v, us, f, g, q1, r, rs, q2⟩ := h
    subst q2
    rcases List.mem_append.mp ha with ha | ha
    · cases b with
      | tmp t => exact Rep.alive t r a ha
      | br t i => rw [r.2.1] at ha; cases ha
      | io i => rw [r.1] at ha; cases ha
    · exact Ops.alive rs a ha
def eOp (o : List T → R T) (f : AM) : EM := fun env => do
  let (bs, env1) ← f env
  let t ← opApp o bs
  .ok (t, env1)
open Classical in
/-- an operation's answer on operands: back to the holder's view -/
theorem op_back {md : List Nat} {r : List V → Hp → VK → Prop} {o : List T → R T} (hc : CallS K ca r o) {bs : List Bop} {vs : List V} {ft : List Addr} {t : T} {Q : VK} (s : SR K ca F H σ env fp) (h : Ops K ca md F H σ fp bs vs ft)
    (nd : ft.Nodup) (off : ∀ a ∈ ft, ¬ Ow fp a) (e : opApp o bs = .ok t) (q : ∀ v H' F' k, Go F H (· ∈ ft) F' H' (· ∈ k) → Tm K ca F' H' fp t v k → SR K ca F' H' σ env fp → Q v H') : r vs H Q := by
  unfold opApp at e
  obtain ⟨_, c1, e⟩ := bind_ok e
  have hnob := ck_ok c1
  obtain ⟨t', e1, e⟩ := bind_ok e
  obtain ⟨_, c2, e⟩ := bind_ok e
  have hnfz := ck_ok c2
  cases e
  obtain ⟨B, hB1, hB2, hB3⟩ := Ops.view s h hnob
  have alft := h.alive
  -- the view
  have hv := hB3 (fun a => if a ∈ B then H a else F a) (fun a o ea => by
      show (if a ∈ B then H a else F a) = some o
      by_cases z : a ∈ B
      · rw [if_pos z]; exact s.sub a o ea
      · rw [if_neg z]; exact ea) (fun a ha => if_pos ha) (fun a ha => by
      show (if a ∈ B then H a else F a) = none
      rw [if_neg (fun z => off a ha (hB1 a z).1)]
      exact (alft a ha).2)
  refine hc _ H _ vs ft t Q (fun a o ea => ?_) hv nd e1 fun v H' F' k g rp nk => ?_
  · have ea : (if a ∈ B then H a else F a) = some o := ea
    by_cases z : a ∈ B
    · rw [if_pos z] at ea; exact ea
    · rw [if_neg z] at ea; exact s.sub a o ea
  -- back
  have gB : ∀ a ∈ B, F' a = H a := fun a ha => by
    cases w : H a with
    | none => exact absurd w (s.alive a (hB1 a ha).1).1
    | some o => exact g.ext a o (by show (if a ∈ B then H a else F a) = some o; rw [if_pos ha]; exact w)
  have kB : ∀ a ∈ k, a ∉ B := fun a ha z => by
    have := (Rep.alive t rp a ha).2
    rw [gB a z] at this
    exact (s.alive a (hB1 a z).1).1 this
  have g2 : Go F H (· ∈ ft) (fun a => if a ∈ B then none else F' a) H' (· ∈ k) := by
    refine ⟨fun a o ea => ?_, fun a o ea => ?_, g.frame, fun b eb => ?_, g.fresh⟩
    · show (if a ∈ B then none else F' a) = some o
      have nB : a ∉ B := fun z => by
        have := (s.alive a (hB1 a z).1).2
        rw [this] at ea; cases ea
      rw [if_neg nB]
      exact g.ext a o (by show (if a ∈ B then H a else F a) = some o; rw [if_neg nB]; exact ea)
    · have ea : (if a ∈ B then none else F' a) = some o := ea
      by_cases z : a ∈ B
      · rw [if_pos z] at ea; cases ea
      · rw [if_neg z] at ea; exact g.sub a o ea
    · have eb : (if b ∈ B then none else F' b) ≠ none := eb
      by_cases z : b ∈ B
      · rw [if_pos z] at eb; exact absurd rfl eb
      · rw [if_neg z] at eb
        rcases g.nofz b eb with q | q | q
        · have q : (if b ∈ B then H b else F b) ≠ none := q
          rw [if_neg z] at q
          exact .inl q
        · exact .inr (.inl q)
        · exact .inr (.inr q)
  have rp2 : Rep K ca (fun a => if a ∈ B then none else F' a) H' t v k := by
    by_cases hB : B = []
    · subst hB
      have : (fun a => if a ∈ ([] : List Addr) then none else F' a) = F' := funext fun a => if_neg (fun z => nomatch z)
      rw [this]
      exact rp
    · have hn : t.nfz = true := by
        have : bs.any Bop.bo = true := by
          cases w : bs.any Bop.bo with
          | true => rfl
          | false => exact absurd (hB2 w) hB
        rw [this] at hnfz
        simpa using hnfz
      refine Rep.unb (fun a xs z => ?_) t hn rp (fun a ha => ?_)
      · have nB : a ∉ B := fun zb => by
          cases w : H a with
          | none => exact absurd w (s.alive a (hB1 a zb).1).1
          | some o =>
            have := (hB1 a zb).2 o w
            rcases z with z | ⟨ob, z⟩
            · rw [gB a zb, w] at z; cases z; exact this.1 xs rfl
            · rw [gB a zb, w] at z; cases z; exact this.2 ob _ rfl
        rcases z with z | ⟨ob, z⟩
        · exact .inl (by show (if a ∈ B then none else F' a) = _; rw [if_neg nB]; exact z)
        · exact .inr ⟨ob, by show (if a ∈ B then none else F' a) = _; rw [if_neg nB]; exact z⟩
      · show (if a ∈ B then none else F' a) = none
        by_cases z : a ∈ B
        · rw [if_pos z]
        · rw [if_neg z]; exact (Rep.alive t rp a ha).2
  refine q v H' _ k g2 ⟨rp2, nk, fun a ha z => ?_⟩ (s.of_go g2 fun a ha z => off a z ha)
  rcases g.fresh a ha with w | w
  · exact off a w z
  · exact (s.alive a z).1 w
theorem te_op {md : List Nat} {r : List V → Hp → VK → Prop} {o : List T → R T} {f : AM} {Q : VK} (hc : CallS K ca r o) (h : TEof K ca md (eOp o f) σ H Q) : TAof K ca md f σ H (fun vs H1 => r vs H1 Q) := by
  obtain ⟨F, env, fp, t, env', s, e, k⟩ := h
  obtain ⟨⟨bs, env1⟩, e1, e⟩ := bind_ok e
  obtain ⟨t', e2, e⟩ := bind_ok e
  cases e
  refine ⟨F, env, fp, bs, env', s, e1, fun vs H1 F1 fp1 ft g1 k1 s1 o1 n1 d1 => ?_⟩
  refine op_back hc s1 o1 n1 d1 e2 fun v H2 F2 kk g2 tm s2 => ?_
  refine k v H2 F2 fp1 kk (g1.trans g2 (fun a z => .inr z) fun a z => ?_) k1 s2 tm
  rcases z with z | z
  · exact .inr (.inl z)
  · exact .inl z
end
end QL
namespace QL
open PySem L2

inductive Fl where
  | nx | bk | ct | rt (t : T)
abbrev SM := En → R (Fl × En)
def fpSet (fp : Fp) (i : Nat) (f : List Addr) : Fp := fun j => if j = i then f else fp j
theorem fpSet_same {fp : Fp} {i : Nat} {f : List Addr} : fpSet fp i f i = f := if_pos rfl
theorem fpSet_ne {fp : Fp} {i j : Nat} {f : List Addr} (h : j ≠ i) : fpSet fp i f j = fp j := if_neg h
theorem ow_fpSet {fp : Fp} {i : Nat} {f : List Addr} {a : Addr} (h : Ow (fpSet fp i f) a) : Ow fp a ∨ a ∈ f := by
  obtain ⟨j, hj⟩ := h
  by_cases e : j = i
  · subst e; rw [fpSet_same] at hj; exact .inr hj
  · rw [fpSet_ne e] at hj; exact .inl ⟨j, hj⟩
def Pin (pn : List Nat) (σ σ' : St) : Prop := ∀ i, i ∈ pn → σ'[i]? = σ[i]?
theorem Pin.refl {pn : List Nat} {σ : St} : Pin pn σ σ := fun _ _ => rfl
theorem Pin.trans {pn : List Nat} {σ σ1 σ2 : St} (a : Pin pn σ σ1) (b : Pin pn σ1 σ2) : Pin pn σ σ2 := fun i h => (b i h).trans (a i h)

section
variable {K : PySem.W.Frag} {ca : Ca} {F F' F1 H H' H1 : Hp} {O O' : Addr → Prop} {σ : St} {env : En} {fp : Fp} {t : T} {v : V} {fv : List Addr} {ts : List T} {vs : List V}

theorem SR.put {i : Nat} (s : SR K ca F H σ env fp) (m : Tm K ca F H fp t v fv) (hi : i < env.length) : SR K ca F H (σ.set i (some v)) (env.set i (some t)) (fpSet fp i fv) where
  sub := s.sub
  slot := fun j u e => by
    by_cases h : j = i
    · subst h
      rw [List.getElem?_set_self hi] at e
      cases e
      exact ⟨v, List.getElem?_set_self (by rw [← s.len]; exact hi), by rw [fpSet_same]; exact m.rep⟩
    · rw [List.getElem?_set_ne (Ne.symm h)] at e
      obtain ⟨w, e1, r⟩ := s.slot j u e
      exact ⟨w, by rw [List.getElem?_set_ne (Ne.symm h)]; exact e1, by rw [fpSet_ne h]; exact r⟩
  alive := fun a ha => by
    rcases ow_fpSet ha with h | h
    · exact s.alive a h
    · exact Rep.alive t m.rep a h
  one := fun j k a hj hk => by
    by_cases h : j = i
    · by_cases h' : k = i
      · rw [h, h']
      · subst h
        rw [fpSet_same] at hj
        rw [fpSet_ne h'] at hk
        exact absurd ⟨k, hk⟩ (m.off a hj)
    · by_cases h' : k = i
      · subst h'
        rw [fpSet_same] at hk
        rw [fpSet_ne h] at hj
        exact absurd ⟨j, hj⟩ (m.off a hk)
      · rw [fpSet_ne h] at hj
        rw [fpSet_ne h'] at hk
        exact s.one j k a hj hk
  nd := fun j => by
    by_cases h : j = i
    · subst h; rw [fpSet_same]; exact m.nd
    · rw [fpSet_ne h]; exact s.nd j
  len := by rw [List.length_set, List.length_set]; exact s.len
/-- a slot is no longer told of -/
theorem SR.drop {i : Nat} (s : SR K ca F H σ env fp) : SR K ca F H σ (env.set i none) (fpSet fp i []) where
  sub := s.sub
  slot := fun j u e => by
    by_cases h : j = i
    · subst h
      by_cases hi : j < env.length
      · rw [List.getElem?_set_self hi] at e; cases e
      · rw [List.getElem?_eq_none (by rw [List.length_set]; omega)] at e; cases e
    · rw [List.getElem?_set_ne (Ne.symm h)] at e
      obtain ⟨w, e1, r⟩ := s.slot j u e
      exact ⟨w, e1, by rw [fpSet_ne h]; exact r⟩
  alive := fun a ha => by
    rcases ow_fpSet ha with h | h
    · exact s.alive a h
    · cases h
  one := fun j k a hj hk => by
    by_cases h : j = i
    · subst h; rw [fpSet_same] at hj; cases hj
    · by_cases h' : k = i
      · subst h'; rw [fpSet_same] at hk; cases hk
      · rw [fpSet_ne h] at hj
        rw [fpSet_ne h'] at hk
        exact s.one j k a hj hk
  nd := fun j => by
    by_cases h : j = i
    · subst h; rw [fpSet_same]; exact List.nodup_nil
    · rw [fpSet_ne h]; exact s.nd j
  len := by rw [List.length_set]; exact s.len

/-- the ends of a statement, wanted from a later state -/
def EndsFrom (K : PySem.W.Frag) (ca : Ca) (pn : List Nat) (F H : Hp) (σ : St) (fp : Fp) (D : Ends) (fl : Fl) (env' : En) : Prop :=
  match fl with
  | .nx => ∀ σ' H' F' fp', Go F H (Ow fp) F' H' (Ow fp') → SR K ca F' H' σ' env' fp' → Pin pn σ σ' → D.nx σ' H'
  | .bk => ∀ σ' H' F' fp', Go F H (Ow fp) F' H' (Ow fp') → SR K ca F' H' σ' env' fp' → Pin pn σ σ' → D.bk σ' H'
  | .ct => ∀ σ' H' F' fp', Go F H (Ow fp) F' H' (Ow fp') → SR K ca F' H' σ' env' fp' → Pin pn σ σ' → D.ct σ' H'
  | .rt t => ∀ σ' H' F' fp' v fv, Go F H (Ow fp) F' H' (fun a => Ow fp' a ∨ a ∈ fv) → SR K ca F' H' σ' env' fp' → Pin pn σ σ' → Tm K ca F' H' fp' t v fv → D.rt v H'
theorem EndsFrom.shift {pn : List Nat} {D : Ends} {σ1 : St} {fp1 : Fp} {env' : En} {fl : Fl} (k : EndsFrom K ca pn F H σ fp D fl env') (g1 : Go F H (Ow fp) F1 H1 (Ow fp1)) (p1 : Pin pn σ σ1) : EndsFrom K ca pn F1 H1 σ1 fp1 D fl env' := by
  cases fl with
  | nx => exact fun σ2 H2 F2 fp2 g2 s2 p2 => k σ2 H2 F2 fp2 (g1.trans g2 (fun _ z => z) fun _ z => .inl z) s2 (p1.trans p2)
  | bk => exact fun σ2 H2 F2 fp2 g2 s2 p2 => k σ2 H2 F2 fp2 (g1.trans g2 (fun _ z => z) fun _ z => .inl z) s2 (p1.trans p2)
  | ct => exact fun σ2 H2 F2 fp2 g2 s2 p2 => k σ2 H2 F2 fp2 (g1.trans g2 (fun _ z => z) fun _ z => .inl z) s2 (p1.trans p2)
  | rt t => exact fun σ2 H2 F2 fp2 v fv g2 s2 p2 => k σ2 H2 F2 fp2 v fv (g1.trans g2 (fun _ z => z) fun _ z => .inl z) s2 (p1.trans p2)
def TSof (K : PySem.W.Frag) (ca : Ca) (pn : List Nat) (f : SM) : TS := fun D σ H => ∃ F env fp fl env', SR K ca F H σ env fp ∧ f env = .ok (fl, env') ∧ EndsFrom K ca pn F H σ fp D fl env'

def sNil : SM := fun env => .ok (.nx, env)
def sSeq (f g : SM) : SM := fun env => do
  let (fl, env1) ← f env
  match fl with
  | .nx => g env1
  | fl => .ok (fl, env1)
theorem ts_nil {pn : List Nat} {D : Ends} (h : TSof K ca pn sNil D σ H) : tNext D σ H := by
  obtain ⟨F, env, fp, fl, env', s, e, k⟩ := h
  cases e
  exact k σ H F fp (Go.refl s.sub fun _ z => z) s Pin.refl
theorem ts_pass {pn : List Nat} {D : Ends} (h : TSof K ca pn sNil D σ H) : tNext D σ H := ts_nil h
def sBreak : SM := fun env => .ok (.bk, env)
def sCont : SM := fun env => .ok (.ct, env)
theorem ts_break {pn : List Nat} {D : Ends} (h : TSof K ca pn sBreak D σ H) : tBreak D σ H := by
  obtain ⟨F, env, fp, fl, env', s, e, k⟩ := h
  cases e
  exact k σ H F fp (Go.refl s.sub fun _ z => z) s Pin.refl
theorem ts_cont {pn : List Nat} {D : Ends} (h : TSof K ca pn sCont D σ H) : tCont D σ H := by
  obtain ⟨F, env, fp, fl, env', s, e, k⟩ := h
  cases e
  exact k σ H F fp (Go.refl s.sub fun _ z => z) s Pin.refl
theorem ts_seq {pn : List Nat} {f g : SM} {D : Ends} (h : TSof K ca pn (sSeq f g) D σ H) : tSeq (TSof K ca pn f) (TSof K ca pn g) D σ H := by
  obtain ⟨F, env, fp, fl, env', s, e, k⟩ := h
  obtain ⟨⟨fl1, env1⟩, e1, e⟩ := bind_ok e
  refine ⟨F, env, fp, fl1, env1, s, e1, ?_⟩
  cases fl1 with
  | nx =>
    intro σ1 H1 F1 fp1 g1 s1 p1
    exact ⟨F1, env1, fp1, fl, env', s1, e, k.shift g1 p1⟩
  | bk => cases e; exact k
  | ct => cases e; exact k
  | rt t => cases e; exact k
theorem Go.full {md : List Nat} {env' : En} {fp' : Fp} {P : Addr → Prop} (g : Go F H (OwM md fp) F' H' (fun a => OwM md fp' a ∨ P a)) (k : Keep md env fp env' fp') : Go F H (Ow fp) F' H' (fun a => Ow fp' a ∨ P a) where
  ext := g.ext
  sub := g.sub
  frame := fun b o e n => g.frame b o e fun z => n z.ow
  nofz := fun b e => (g.nofz b e).imp id (Or.imp OwM.ow id)
  fresh := fun b e => by
    rcases e with ⟨i, hi⟩ | e
    · by_cases hm : i ∈ md
      · exact (g.fresh b (.inl ⟨i, hm, hi⟩)).imp OwM.ow id
      · rw [k.fp i hm] at hi
        exact .inl ⟨i, hi⟩
    · exact (g.fresh b (.inr e)).imp OwM.ow id
theorem Go.full0 {md : List Nat} {env' : En} {fp' : Fp} (g : Go F H (OwM md fp) F' H' (OwM md fp')) (k : Keep md env fp env' fp') : Go F H (Ow fp) F' H' (Ow fp') :=
  (Go.full (P := fun _ => False) (g.weak (fun _ z => z) fun _ z => z.elim id False.elim) k).weak (fun _ z => z) fun _ z => .inl z

def sIf (c : En → R (Bool × En)) (f g : SM) : SM := fun env => do
  let (b, env1) ← c env
  if b then f env1 else g env1
theorem ts_if {pn md : List Nat} {c : En → R (Bool × En)} {f g : SM} {D : Ends} (h : TSof K ca pn (sIf c f g) D σ H) : tIfS (TTof K ca md c) (TSof K ca pn f) (TSof K ca pn g) D σ H := by
  obtain ⟨F, env, fp, fl, env', s, e, k⟩ := h
  obtain ⟨⟨b, env1⟩, e1, e⟩ := bind_ok e
  refine ⟨F, env, fp, b, env1, s, e1, fun H1 F1 fp1 g1 k1 s1 => ?_⟩
  cases b with
  | true => exact ⟨F1, env1, fp1, fl, env', s1, e, k.shift (g1.full0 k1) Pin.refl⟩
  | false => exact ⟨F1, env1, fp1, fl, env', s1, e, k.shift (g1.full0 k1) Pin.refl⟩
def sDrop (f : EM) : SM := fun env => do
  let (_, env1) ← f env
  .ok (.nx, env1)
theorem ts_drop {pn md : List Nat} {f : EM} {D : Ends} (h : TSof K ca pn (sDrop f) D σ H) : tDrop (TEof K ca md f) D σ H := by
  obtain ⟨F, env, fp, fl, env', s, e, k⟩ := h
  obtain ⟨⟨t, env1⟩, e1, e⟩ := bind_ok e
  cases e
  exact ⟨F, env, fp, t, env', s, e1, fun v H1 F1 fp1 fv g1 k1 s1 _ => k σ H1 F1 fp1 ((g1.full k1).weak (fun _ z => z) fun _ z => .inl z) s1 Pin.refl⟩
def sRet (f : EM) : SM := fun env => do
  let (t, env1) ← f env
  .ok (.rt t, env1)
theorem ts_ret {pn md : List Nat} {f : EM} {D : Ends} (h : TSof K ca pn (sRet f) D σ H) : tRet (TEof K ca md f) D σ H := by
  obtain ⟨F, env, fp, fl, env', s, e, k⟩ := h
  obtain ⟨⟨t, env1⟩, e1, e⟩ := bind_ok e
  cases e
  exact ⟨F, env, fp, t, env', s, e1, fun v H1 F1 fp1 fv g1 k1 s1 m => k σ H1 F1 fp1 v fv (g1.full k1) s1 Pin.refl m⟩
def sRetN : SM := fun env => .ok (.rt .non, env)
theorem ts_retN {pn : List Nat} {D : Ends} (h : TSof K ca pn sRetN D σ H) : tRetN D σ H := by
  obtain ⟨F, env, fp, fl, env', s, e, k⟩ := h
  cases e
  exact k σ H F fp .non [] (Go.refl s.sub fun _ z => z.elim id (fun q => nomatch q)) s Pin.refl ⟨by simp only [Rep]; trivial, List.nodup_nil, fun _ z => nomatch z⟩

def GTof (K : PySem.W.Frag) (ca : Ca) (tv : List Nat) (tg : T → En → R En) : TG := fun v σ H Q => ∃ F env fp t fv env', SR K ca F H σ env fp ∧ Tm K ca F H fp t v fv ∧ tg t env = .ok env' ∧
  ∀ σ' fp', (∀ a, Ow fp' a → Ow fp a ∨ a ∈ fv) → SR K ca F H σ' env' fp' → Keep tv env fp env' fp' → (∀ i, i ∉ tv → σ'[i]? = σ[i]?) → σ'.length = σ.length → Q σ' H
def GLof (K : PySem.W.Frag) (ca : Ca) (tv : List Nat) (tg : List T → En → R En) : TGs := fun vs σ H Q => ∃ F env fp ts fv env', SR K ca F H σ env fp ∧ Reps K ca F H ts vs fv ∧ fv.Nodup ∧ (∀ a ∈ fv, ¬ Ow fp a) ∧ tg ts env = .ok env' ∧
  ∀ σ' fp', (∀ a, Ow fp' a → Ow fp a ∨ a ∈ fv) → SR K ca F H σ' env' fp' → Keep tv env fp env' fp' → (∀ i, i ∉ tv → σ'[i]? = σ[i]?) → σ'.length = σ.length → Q σ' H
def gN (i : Nat) : T → En → R En := fun t env => if i < env.length then .ok (env.set i (some t)) else stk
theorem tg_name {tv : List Nat} {i : Nat} {Q : St → Hp → Prop} (hp : i ∈ tv) (h : GTof K ca tv (gN i) v σ H Q) : gName i v σ H Q := by
  obtain ⟨F, env, fp, t, fv, env', s, m, e, k⟩ := h
  unfold gN at e
  split at e
  case isFalse => cases e
  case isTrue hi =>
    cases e
    exact k (σ.set i (some v)) (fpSet fp i fv) (fun a => ow_fpSet) (s.put m hi) ⟨fun j hj => fpSet_ne fun z => hj (by rw [z]; exact hp), fun j hj => List.getElem?_set_ne fun z => hj (by rw [← z]; exact hp)⟩ (fun j hj => List.getElem?_set_ne fun z => hj (by rw [← z]; exact hp)) (List.length_set ..)
def gsN : List T → En → R En := fun ts env => match ts with
  | [] => .ok env
  | _ => stk
def gsC (g : T → En → R En) (r : List T → En → R En) : List T → En → R En := fun ts env => match ts with
  | t :: ts => do
    let env1 ← g t env
    r ts env1
  | _ => stk
theorem tgs_nil {tv : List Nat} {Q : St → Hp → Prop} (h : GLof K ca tv gsN vs σ H Q) : gNil vs σ H Q := by
  obtain ⟨F, env, fp, ts, fv, env', s, r, n, o, e, k⟩ := h
  cases ts with
  | nil =>
    cases e
    simp only [Reps] at r
    exact ⟨r.1, k σ fp (fun a z => .inl z) s Keep.refl (fun _ _ => rfl) rfl⟩
  | cons t ts => cases e
theorem tgs_cons {tv : List Nat} {g : T → En → R En} {r : List T → En → R En} {Q : St → Hp → Prop} (h : GLof K ca tv (gsC g r) vs σ H Q) : gCons (GTof K ca tv g) (GLof K ca tv r) vs σ H Q := by
  obtain ⟨F, env, fp, ts, fv, env', s, rp, n, o, e, k⟩ := h
  cases ts with
  | nil => cases e
  | cons t ts =>
    obtain ⟨env1, e1, e⟩ := bind_ok e
    simp only [Reps] at rp
    obtain ⟨v, us, f, f', h1, r1, r2, h2⟩ := rp
    subst h2
    have hn := List.nodup_append.mp n
    refine ⟨v, us, h1, F, env, fp, t, f, env1, s, ⟨r1, hn.1, fun a ha => o a (List.mem_append_left _ ha)⟩, e1, fun σ1 fp1 q1 s1 k1 p1 l1 => ?_⟩
    refine ⟨F, env1, fp1, ts, f', env', s1, r2, hn.2.1, fun a ha z => ?_, e, fun σ2 fp2 q2 s2 k2 p2 l2 => k σ2 fp2 (fun a z => ?_) s2 (k1.trans k2) (fun i hi => (p2 i hi).trans (p1 i hi)) (l2.trans l1)⟩
    · rcases q1 a z with w | w
      · exact o a (List.mem_append_right _ ha) w
      · exact hn.2.2 a w a ha rfl
    · rcases q2 a z with w | w
      · exact (q1 a w).imp id fun q => List.mem_append_left _ q
      · exact .inr (List.mem_append_right _ w)
def gT (n : Nat) (r : List T → En → R En) : T → En → R En := fun t env => match t with
  | .tup ts => if ts.length = n then r ts env else stk
  | _ => stk
theorem tg_tup {tv : List Nat} {n : Nat} {r : List T → En → R En} {Q : St → Hp → Prop} (h : GTof K ca tv (gT n r) v σ H Q) : gTup K n (GLof K ca tv r) v σ H Q := by
  obtain ⟨F, env, fp, t, fv, env', s, m, e, k⟩ := h
  cases t with
  | tup ts =>
    have e : (if ts.length = n then r ts env else stk) = .ok env' := e
    split at e
    case isFalse => cases e
    case isTrue hl =>
      have rp := m.rep
      simp only [Rep] at rp
      obtain ⟨a, us, h1, h2, h3⟩ := rp
      exact ⟨a, us, h1, s.sub.sqT h2, by rw [Reps.length h3, hl], F, env, fp, ts, fv, env', s, h3, m.nd, m.off, e, k⟩
  | _ => cases e
/-- nothing pinned is stored to -/
abbrev Apt (tv pn : List Nat) : Prop := ∀ i, i ∈ pn → i ∉ tv

def sAsg (f : EM) (g : T → En → R En) : SM := fun env => do
  let (t, env1) ← f env
  let env2 ← g t env1
  .ok (.nx, env2)
theorem ts_asg {pn md tv : List Nat} {f : EM} {g : T → En → R En} {D : Ends} (hp : Apt tv pn) (h : TSof K ca pn (sAsg f g) D σ H) : tAsg (TEof K ca md f) (GTof K ca tv g) D σ H := by
  obtain ⟨F, env, fp, fl, env', s, e, k⟩ := h
  obtain ⟨⟨t, env1⟩, e1, e⟩ := bind_ok e
  obtain ⟨env2, e2, e⟩ := bind_ok e
  cases e
  refine ⟨F, env, fp, t, env1, s, e1, fun v H1 F1 fp1 fv g1 k1 s1 m => ?_⟩
  refine ⟨F1, env1, fp1, t, fv, env', s1, m, e2, fun σ2 fp2 q2 s2 _ p2 _ => ?_⟩
  exact k σ2 H1 F1 fp2 ((g1.full k1).weak (fun _ z => z) fun a z => (q2 a z)) s2 fun i hi => p2 i (hp i hi)
def two : List Bop → Option (T × T)
  | [.tmp x, .tmp y] => some (x, y)
  | _ => none
theorem two_some {bs : List Bop} {x y : T} (h : two bs = some (x, y)) : bs = [.tmp x, .tmp y] := by
  unfold two at h
  split at h
  · cases h; rfl
  · cases h
/-- a, b = x, y -/
def sPar (f : AM) (i j : Nat) : SM := fun env => do
  let (bs, env1) ← f env
  match two bs with
  | some (x, y) => if i < env1.length ∧ j < env1.length then .ok (.nx, (env1.set i (some x)).set j (some y)) else stk
  | none => stk
theorem ts_par {pn md : List Nat} {f : AM} {i j : Nat} {D : Ends} (hi : i ∉ pn) (hj : j ∉ pn) (hij : i ≠ j) (h : TSof K ca pn (sPar f i j) D σ H) : tPar i j (TAof K ca md f) D σ H := by
  obtain ⟨F, env, fp, fl, env', s, e, k⟩ := h
  obtain ⟨⟨bs, env1⟩, e1, e⟩ := bind_ok e
  cases hbs : two bs with
  | none => simp only [hbs] at e; cases e
  | some xy =>
    obtain ⟨x, y⟩ := xy
    simp only [hbs] at e
    split at e
    case isFalse => cases e
    case isTrue hl =>
      cases e
      have hbs := two_some hbs
      subst hbs
      refine ⟨F, env, fp, _, env1, s, e1, fun vs H1 F1 fp1 ft g1 k1 s1 o n1 d1 => ?_⟩
      simp only [Ops] at o
      obtain ⟨v, us, f1, f2, h1, r1, ⟨w, us2, f3, f4, h2, r2, ⟨h3, h4⟩, h5⟩, h6⟩ := o
      subst h3 h4 h5 h6 h2 h1
      rw [List.append_nil] at *
      have hn := List.nodup_append.mp n1
      refine ⟨v, w, rfl, ?_⟩
      have s2 := s1.put (i := i) (t := x) (v := v) (fv := f1) ⟨r1, hn.1, fun a ha => d1 a (List.mem_append_left _ ha)⟩ hl.1
      have s3 := s2.put (i := j) (t := y) (v := w) (fv := f3) ⟨r2, hn.2.1, fun a ha z => by
        rcases ow_fpSet z with z | z
        · exact d1 a (List.mem_append_right _ ha) z
        · exact hn.2.2 a z a ha rfl⟩ (by rw [List.length_set]; exact hl.2)
      refine k _ H1 F1 _ ((g1.full k1).weak (fun _ z => z) fun a z => ?_) s3 fun q hq => ?_
      · rcases ow_fpSet z with z | z
        · rcases ow_fpSet z with z | z
          · exact .inl z
          · exact .inr (List.mem_append_left _ z)
        · exact .inr (List.mem_append_right _ z)
      · rw [List.getElem?_set_ne (fun z => hj (by rw [z]; exact hq)), List.getElem?_set_ne (fun z => hi (by rw [z]; exact hq))]
def three : List Bop → Option (T × T × T)
  | [.tmp x, .tmp y, .tmp z] => some (x, y, z)
  | _ => none
theorem three_some {bs : List Bop} {x y z : T} (h : three bs = some (x, y, z)) : bs = [.tmp x, .tmp y, .tmp z] := by
  unfold three at h
  split at h
  · cases h; rfl
  · cases h
/-- a, b, c = x, y, z -/
def sPar3 (f : AM) (i j l : Nat) : SM := fun env => do
  let (bs, env1) ← f env
  match three bs with
  | some (x, y, z) => if i < env1.length ∧ j < env1.length ∧ l < env1.length then .ok (.nx, ((env1.set i (some x)).set j (some y)).set l (some z)) else stk
  | none => stk
theorem ts_par3 {pn md : List Nat} {f : AM} {i j l : Nat} {D : Ends} (hi : i ∉ pn) (hj : j ∉ pn) (hk : l ∉ pn) (h : TSof K ca pn (sPar3 f i j l) D σ H) : (fun D σ H => TAof K ca md f σ H fun vs H1 => ∃ u v w, vs = [u, v, w] ∧ D.nx (((σ.set i (some u)).set j (some v)).set l (some w)) H1 : TS) D σ H := by
  obtain ⟨F, env, fp, fl, env', s, e, k⟩ := h
  obtain ⟨⟨bs, env1⟩, e1, e⟩ := bind_ok e
  cases hbs : three bs with
  | none => simp only [hbs] at e; cases e
  | some xyz =>
    obtain ⟨x, y, z⟩ := xyz
    simp only [hbs] at e
    split at e
    case isFalse => cases e
    case isTrue hl =>
      cases e
      have hbs := three_some hbs
      subst hbs
      refine ⟨F, env, fp, _, env1, s, e1, fun vs H1 F1 fp1 ft g1 k1 s1 o n1 d1 => ?_⟩
      simp only [Ops] at o
      obtain ⟨u, us, f1, f2, h1, r1, ⟨v, us2, f3, f4, h2, r2, ⟨w, us3, f5, f6, h3, r3, ⟨h4, h5⟩, h6⟩, h7⟩, h8⟩ := o
      subst h4 h5 h6 h7 h8 h3 h2 h1
      rw [List.append_nil] at *
      have hn := List.nodup_append.mp n1
      have hn2 := List.nodup_append.mp hn.2.1
      refine ⟨u, v, w, rfl, ?_⟩
      have s2 := s1.put (i := i) (t := x) (v := u) (fv := f1) ⟨r1, hn.1, fun a ha => d1 a (List.mem_append_left _ ha)⟩ hl.1
      have s3 := s2.put (i := j) (t := y) (v := v) (fv := f3) ⟨r2, hn2.1, fun a ha z => by
        rcases ow_fpSet z with z | z
        · exact d1 a (List.mem_append_right _ (List.mem_append_left _ ha)) z
        · exact hn.2.2 a z a (List.mem_append_left _ ha) rfl⟩ (by rw [List.length_set]; exact hl.2.1)
      have s4 := s3.put (i := l) (t := z) (v := w) (fv := f5) ⟨r3, hn2.2.1, fun a ha z => by
        rcases ow_fpSet z with z | z
        · rcases ow_fpSet z with z | z
          · exact d1 a (List.mem_append_right _ (List.mem_append_right _ ha)) z
          · exact hn.2.2 a z a (List.mem_append_right _ ha) rfl
        · exact hn2.2.2 a z a ha rfl⟩ (by rw [List.length_set, List.length_set]; exact hl.2.2)
      refine k _ H1 F1 _ ((g1.full k1).weak (fun _ z => z) fun a z => ?_) s4 fun q hq => ?_
      · rcases ow_fpSet z with z | z
        · rcases ow_fpSet z with z | z
          · rcases ow_fpSet z with z | z
            · exact .inl z
            · exact .inr (List.mem_append_left _ z)
          · exact .inr (List.mem_append_right _ (List.mem_append_left _ z))
        · exact .inr (List.mem_append_right _ (List.mem_append_right _ z))
      · rw [List.getElem?_set_ne (fun z => hk (by rw [z]; exact hq)), List.getElem?_set_ne (fun z => hj (by rw [z]; exact hq)), List.getElem?_set_ne (fun z => hi (by rw [z]; exact hq))]
def whileGo (c : En → R (Bool × En)) (body : SM) : Nat → SM
  | 0 => fun _ => stk
  | n + 1 => fun env => do
    let (b, env1) ← c env
    if b then do
      let (fl, env2) ← body env1
      match fl with
      | .nx => whileGo c body n env2
      | .ct => whileGo c body n env2
      | .bk => .ok (.nx, env2)
      | .rt t => .ok (.rt t, env2)
    else .ok (.nx, env1)
def sWhile (n : Nat) (c : En → R (Bool × En)) (body : SM) : SM := whileGo c body n
theorem ts_while {pn md : List Nat} {n : Nat} {c : En → R (Bool × En)} {body : SM} {D : Ends} (h : TSof K ca pn (sWhile n c body) D σ H) : tWhile (TTof K ca md c) (TSof K ca pn body) D σ H := by
  obtain ⟨F, env, fp, fl, env', s, e, k⟩ := h
  refine ⟨fun m σ1 H1 => ∃ F1 env1 fp1, SR K ca F1 H1 σ1 env1 fp1 ∧ whileGo c body m env1 = .ok (fl, env') ∧ EndsFrom K ca pn F1 H1 σ1 fp1 D fl env', ⟨n, F, env, fp, s, e, k⟩, ?_⟩
  rintro m σ1 H1 ⟨F1, env1, fp1, s1, e1, k1⟩
  cases m with
  | zero => cases e1
  | succ m =>
    obtain ⟨⟨b, env2⟩, e2, e3⟩ := bind_ok e1
    refine ⟨F1, env1, fp1, b, env2, s1, e2, fun H2 F2 fp2 g2 kp2 s2 => ?_⟩
    have g2' := g2.full0 kp2
    cases b with
    | false =>
      have e3 : Except.ok (Fl.nx, env2) = Except.ok (fl, env') := e3
      cases e3
      exact k1 σ1 H2 F2 fp2 g2' s2 Pin.refl
    | true =>
      obtain ⟨⟨fl3, env3⟩, e4, e5⟩ := bind_ok (show (body env2 >>= fun z => match z with
        | (fl, env2) => match fl with
          | .nx => whileGo c body m env2
          | .ct => whileGo c body m env2
          | .bk => .ok (.nx, env2)
          | .rt t => .ok (.rt t, env2)) = .ok (fl, env') from e3)
      refine ⟨fun σ4 H4 => ∃ F4 env4 fp4, SR K ca F4 H4 σ4 env4 fp4 ∧ whileGo c body m env4 = .ok (fl, env') ∧ EndsFrom K ca pn F4 H4 σ4 fp4 D fl env', fun σ' H' w => ⟨m, Nat.lt_succ_self m, w⟩, F2, env2, fp2, fl3, env3, s2, e4, ?_⟩
      cases fl3 with
      | nx => exact fun σ4 H4 F4 fp4 g4 s4 p4 => ⟨F4, env3, fp4, s4, e5, (k1.shift g2' Pin.refl).shift g4 p4⟩
      | ct => exact fun σ4 H4 F4 fp4 g4 s4 p4 => ⟨F4, env3, fp4, s4, e5, (k1.shift g2' Pin.refl).shift g4 p4⟩
      | bk =>
        have e5 : Except.ok (Fl.nx, env3) = Except.ok (fl, env') := e5
        cases e5
        exact fun σ4 H4 F4 fp4 g4 s4 p4 => (k1.shift g2' Pin.refl) σ4 H4 F4 fp4 g4 s4 p4
      | rt t =>
        have e5 : Except.ok (Fl.rt t, env3) = Except.ok (fl, env') := e5
        cases e5
        exact fun σ4 H4 F4 fp4 v fv g4 s4 p4 m4 => (k1.shift g2' Pin.refl) σ4 H4 F4 fp4 v fv g4 s4 p4 m4

/-- an iterator that gives these, once -/
def Iter (K : PySem.W.Frag) (ca : Ca) (J : It) (ts : List T) (F : Hp) : Prop :=
  ∃ G Y, L2.Walk J ts.length G Y ∧ (∀ H, Sub F H → G H) ∧ ∀ i t F1 H1 x H2, ts[i]? = some t → Sub F F1 → Sub F1 H1 → Y i H1 x H2 → ∃ F2, Go F1 H1 (fun _ => False) F2 H2 (fun _ => False) ∧ Rep K ca F2 H2 t x []
def ISof (K : PySem.W.Frag) (ca : Ca) (md : List Nat) (f : En → R (List T × En)) : TI := fun σ H Rr => ∃ F env fp ts env', SR K ca F H σ env fp ∧ f env = .ok (ts, env') ∧
  ∀ J H' F' fp', Go F H (OwM md fp) F' H' (OwM md fp') → Keep md env fp env' fp' → SR K ca F' H' σ env' fp' → Iter K ca J ts F' → Rr J H'
def forGo (g : T → En → R En) (body : SM) : List T → SM
  | [] => fun env => .ok (.nx, env)
  | t :: ts => fun env => do
    let env1 ← g t env
    let (fl, env2) ← body env1
    match fl with
    | .nx => forGo g body ts env2
    | .ct => forGo g body ts env2
    | .bk => .ok (.nx, env2)
    | .rt t => .ok (.rt t, env2)
def sFor (src : En → R (List T × En)) (g : T → En → R En) (body : SM) : SM := fun env => do
  let (ts, env1) ← src env
  forGo g body ts env1
theorem ts_for {pn md tv : List Nat} {src : En → R (List T × En)} {g : T → En → R En} {body : SM} {D : Ends} (hp : Apt tv pn) (h : TSof K ca pn (sFor src g body) D σ H) : tFor (ISof K ca md src) (GTof K ca tv g) (TSof K ca pn body) D σ H := by
  obtain ⟨F, env, fp, fl, env', s, e, k⟩ := h
  obtain ⟨⟨ts, env1⟩, e1, e⟩ := bind_ok e
  refine ⟨F, env, fp, ts, env1, s, e1, fun J H1 F1 fp1 g1 kp1 s1 it => ?_⟩
  obtain ⟨G, Y, w, hG, hY⟩ := it
  have k1 := k.shift (g1.full0 kp1) Pin.refl
  have e : forGo g body ts env1 = .ok (fl, env') := e
  refine for_it w (fun i σ2 H2 => (∃ F2 env2 fp2, SR K ca F2 H2 σ2 env2 fp2 ∧ Sub F1 F2 ∧ forGo g body (ts.drop i) env2 = .ok (fl, env') ∧ EndsFrom K ca pn F2 H2 σ2 fp2 D fl env')) ⟨F1, env1, fp1, s1, Sub.refl _, e, k1⟩ (fun i σ2 H2 _ ⟨F2, _, _, s2, sb, _⟩ => hG H2 (sb.trans s2.sub)) ?_ ?_
  · rintro i x σ2 H2 H3 hi ⟨F2, env2, fp2, s2, sb, e2, k2⟩ y
    have hd : ts.drop i = ts[i] :: ts.drop (i + 1) := List.drop_eq_getElem_cons hi
    rw [hd] at e2
    obtain ⟨env3, e3, e4⟩ := bind_ok e2
    obtain ⟨⟨fl5, env5⟩, e5, e6⟩ := bind_ok e4
    obtain ⟨F3, g3, r3⟩ := hY i ts[i] F2 H2 x H3 (by simp [hi]) sb s2.sub y
    have s3 := s2.of_go g3 (fun _ _ z => z)
    refine ⟨F3, env2, fp2, ts[i], [], env3, s3, ⟨r3, List.nodup_nil, fun _ z => nomatch z⟩, e3, fun σ4 fp4 q4 s4 _ p4' _ => ?_⟩
    have p4 : Pin pn σ2 σ4 := fun i hi => p4' i (hp i hi)
    have q4' : ∀ a, Ow fp4 a → Ow fp2 a := fun a z => (q4 a z).elim id (fun w => nomatch w)
    have g24 : Go F2 H2 (Ow fp2) F3 H3 (Ow fp4) := (Go.weak (P := Ow fp2) (P' := fun a => Ow fp2 a ∨ False) ⟨g3.ext, g3.sub, fun b o e n => g3.frame b o e (fun z => z), fun b e => (g3.nofz b e).imp id (Or.imp False.elim id), fun b (z : Ow fp2 b) => .inl z⟩ (fun _ z => z) fun _ z => z.elim id False.elim).weak (fun _ z => z) fun a z => .inl (q4' a z)
    have k4 := k2.shift g24 p4
    refine ⟨F3, env3, fp4, fl5, env5, s4, e5, ?_⟩
    cases fl5 with
    | nx => exact fun σ6 H6 F6 fp6 g6 s6 p6 => ⟨F6, env5, fp6, s6, (sb.trans g3.ext).trans g6.ext, e6, k4.shift g6 p6⟩
    | ct => exact fun σ6 H6 F6 fp6 g6 s6 p6 => ⟨F6, env5, fp6, s6, (sb.trans g3.ext).trans g6.ext, e6, k4.shift g6 p6⟩
    | bk =>
      have e6 : Except.ok (Fl.nx, env5) = Except.ok (fl, env') := e6
      cases e6
      exact fun σ6 H6 F6 fp6 g6 s6 p6 => k4 σ6 H6 F6 fp6 g6 s6 p6
    | rt t =>
      have e6 : Except.ok (Fl.rt t, env5) = Except.ok (fl, env') := e6
      cases e6
      exact fun σ6 H6 F6 fp6 v fv g6 s6 p6 m6 => k4 σ6 H6 F6 fp6 v fv g6 s6 p6 m6
  · rintro σ2 H2 ⟨F2, env2, fp2, s2, sb, e2, k2⟩
    rw [List.drop_length] at e2
    have e2 : Except.ok (Fl.nx, env2) = Except.ok (fl, env') := e2
    cases e2
    exact k2 σ2 H2 F2 fp2 (Go.refl s2.sub fun _ z => z) s2 Pin.refl
end
end QL
namespace QL
open PySem L2
/-- how long a made list may be -/
def big : Nat := 1000000
theorem big_le {n : Nat} (h : n ≤ big) : n ≤ sizeLine := Nat.le_trans h (by decide)
theorem big_lt {n : Nat} (h : n < big) : n < sizeLine := Nat.lt_of_lt_of_le h (by decide)

def wipeE (env : En) : List Nat → En
  | [] => env
  | v :: vs => (wipeE env vs).set v none
def restE (env1 env2 : En) : List Nat → En
  | [] => env2
  | v :: vs => (restE env1 env2 vs).set v (env1[v]?.join)
def fpW (fp : Fp) (vs : List Nat) : Fp := fun j => if j ∈ vs then [] else fp j
theorem fpW_in {fp : Fp} {vs : List Nat} {j : Nat} (h : j ∈ vs) : fpW fp vs j = [] := if_pos h
theorem fpW_out {fp : Fp} {vs : List Nat} {j : Nat} (h : j ∉ vs) : fpW fp vs j = fp j := if_neg h
theorem ow_fpW {fp : Fp} {vs : List Nat} {a : Addr} (h : Ow (fpW fp vs) a) : Ow fp a := by
  obtain ⟨j, hj⟩ := h
  by_cases z : j ∈ vs
  · rw [fpW_in z] at hj; cases hj
  · rw [fpW_out z] at hj; exact ⟨j, hj⟩
theorem wipeE_length (env : En) : ∀ vs : List Nat, (wipeE env vs).length = env.length
  | [] => rfl
  | v :: vs => by unfold wipeE; rw [List.length_set, wipeE_length env vs]
theorem restE_length (env1 env2 : En) : ∀ vs : List Nat, (restE env1 env2 vs).length = env2.length
  | [] => rfl
  | v :: vs => by unfold restE; rw [List.length_set, restE_length env1 env2 vs]
theorem wipeE_out {env : En} {j : Nat} : ∀ {vs : List Nat}, j ∉ vs → (wipeE env vs)[j]? = env[j]?
  | [], _ => rfl
  | v :: vs, h => by
    unfold wipeE
    rw [List.getElem?_set_ne (fun z => h (by rw [z]; exact List.mem_cons_self)), wipeE_out fun z => h (List.mem_cons_of_mem _ z)]
theorem wipeE_in {env : En} {j : Nat} : ∀ {vs : List Nat}, j ∈ vs → ∀ t, (wipeE env vs)[j]? ≠ some (some t)
  | [], h, _ => nomatch h
  | v :: vs, h, t => by
    unfold wipeE
    by_cases z : v = j
    · subst z
      by_cases hl : v < (wipeE env vs).length
      · rw [List.getElem?_set_self hl]; simp
      · rw [List.getElem?_eq_none (by rw [List.length_set]; omega)]; simp
    · rw [List.getElem?_set_ne z]
      rcases List.mem_cons.mp h with h | h
      · exact absurd h.symm z
      · exact wipeE_in h t
theorem restE_out {env1 env2 : En} {j : Nat} : ∀ {vs : List Nat}, j ∉ vs → (restE env1 env2 vs)[j]? = env2[j]?
  | [], _ => rfl
  | v :: vs, h => by
    unfold restE
    rw [List.getElem?_set_ne (fun z => h (by rw [z]; exact List.mem_cons_self)), restE_out fun z => h (List.mem_cons_of_mem _ z)]
theorem restE_in {env1 env2 : En} {j : Nat} (hl : env1.length = env2.length) : ∀ {vs : List Nat}, j ∈ vs → (restE env1 env2 vs)[j]? = env1[j]?
  | [], h => nomatch h
  | v :: vs, h => by
    unfold restE
    by_cases z : v = j
    · subst z
      by_cases hv : v < env2.length
      · rw [List.getElem?_set_self (by rw [restE_length]; exact hv), List.getElem?_eq_getElem (by omega : v < env1.length)]
        rfl
      · rw [List.getElem?_eq_none (by rw [List.length_set, restE_length]; omega), List.getElem?_eq_none (by omega)]
    · rw [List.getElem?_set_ne z]
      rcases List.mem_cons.mp h with h | h
      · exact absurd h.symm z
      · exact restE_in hl h
theorem wipe_out {σ : St} {j : Nat} : ∀ {vs : List Nat}, j ∉ vs → (wipe σ vs)[j]? = σ[j]?
  | [], _ => rfl
  | v :: vs, h => by
    unfold wipe
    rw [List.getElem?_set_ne (fun z => h (by rw [z]; exact List.mem_cons_self)), wipe_out fun z => h (List.mem_cons_of_mem _ z)]
theorem wipe_in {σ : St} {j : Nat} : ∀ {vs : List Nat}, j ∈ vs → (wipe σ vs)[j]? = if j < σ.length then some none else none
  | [], h => nomatch h
  | v :: vs, h => by
    unfold wipe
    by_cases z : v = j
    · subst z
      by_cases hv : v < σ.length
      · rw [List.getElem?_set_self (by rw [wipe_length]; exact hv), if_pos hv]
      · rw [List.getElem?_eq_none (by rw [List.length_set, wipe_length]; omega), if_neg hv]
    · rw [List.getElem?_set_ne z]
      rcases List.mem_cons.mp h with h | h
      · exact absurd h.symm z
      · exact wipe_in h
theorem wipe_eq {σ σ' : St} {vs : List Nat} (hl : σ'.length = σ.length) (h : ∀ i, i ∉ vs → σ'[i]? = (wipe σ vs)[i]?) : wipe σ' vs = wipe σ vs := by
  apply List.ext_getElem?
  intro i
  by_cases hi : i ∈ vs
  · rw [wipe_in hi, wipe_in hi, hl]
  · rw [wipe_out hi, h i hi]
section
variable {K : PySem.W.Frag} {ca : Ca} {F F' F1 H H' H1 : Hp} {O O' : Addr → Prop} {σ : St} {env : En} {fp : Fp} {t : T} {v : V} {fv : List Addr} {ts : List T} {vs : List Nat}
theorem SR.wiped (s : SR K ca F H σ env fp) (vs : List Nat) : SR K ca F H (wipe σ vs) (wipeE env vs) (fpW fp vs) where
  sub := s.sub
  slot := fun i t e => by
    have hi : i ∉ vs := fun z => wipeE_in z t e
    rw [wipeE_out hi] at e
    obtain ⟨v, e1, r⟩ := s.slot i t e
    exact ⟨v, by rw [wipe_out hi]; exact e1, by rw [fpW_out hi]; exact r⟩
  alive := fun a ha => s.alive a (ow_fpW ha)
  one := fun i j a hi hj => by
    by_cases z : i ∈ vs
    · rw [fpW_in z] at hi; cases hi
    · by_cases w : j ∈ vs
      · rw [fpW_in w] at hj; cases hj
      · rw [fpW_out z] at hi
        rw [fpW_out w] at hj
        exact s.one i j a hi hj
  nd := fun i => by
    by_cases z : i ∈ vs
    · rw [fpW_in z]; exact List.nodup_nil
    · rw [fpW_out z]; exact s.nd i
  len := by rw [wipeE_length, wipe_length]; exact s.len
/-- back from a block -/
theorem SR.rest {md : List Nat} {env2 : En} {fp2 : Fp} {F2 H2 : Hp} (s : SR K ca F H σ env fp) (s2 : SR K ca F2 H2 (wipe σ vs) env2 fp2) (g : Go F H (OwM md (fpW fp vs)) F2 H2 O') (hO : ∀ a, OwM md fp2 a → O' a)
    (k : ∀ i, i ∉ md → i ∉ vs → fp2 i = fp i) : SR K ca F2 H2 σ (restE env env2 vs) (fun j => if j ∈ vs then fp j else fp2 j) where
  sub := s2.sub
  slot := fun i t e => by
    by_cases z : i ∈ vs
    · rw [restE_in (by rw [s.len, s2.len, wipe_length]) z] at e
      obtain ⟨v, e1, r⟩ := s.slot i t e
      refine ⟨v, e1, ?_⟩
      rw [if_pos z]
      refine r.of_go g fun a ha ⟨j, hj, hj2⟩ => ?_
      by_cases w : j ∈ vs
      · rw [fpW_in w] at hj2; cases hj2
      · rw [fpW_out w] at hj2
        have := s.one i j a ha hj2
        subst this
        exact w z
    · rw [restE_out z] at e
      obtain ⟨v, e1, r⟩ := s2.slot i t e
      exact ⟨v, by rw [wipe_out z] at e1; exact e1, by rw [if_neg z]; exact r⟩
  alive := fun a ⟨i, hi⟩ => by
    have hi : a ∈ (if i ∈ vs then fp i else fp2 i) := hi
    by_cases z : i ∈ vs
    · rw [if_pos z] at hi
      obtain ⟨h1, h2⟩ := s.alive a ⟨i, hi⟩
      have nO : ¬ OwM md (fpW fp vs) a := fun ⟨j, hj, hj2⟩ => by
        by_cases w : j ∈ vs
        · rw [fpW_in w] at hj2; cases hj2
        · rw [fpW_out w] at hj2
          have := s.one i j a hi hj2
          subst this
          exact w z
      constructor
      · cases w : H a with
        | none => exact absurd w h1
        | some o => rw [g.frame a o w nO]; simp
      · cases w : F2 a with
        | none => rfl
        | some o =>
          exfalso
          rcases g.nofz a (by rw [w]; simp) with q | q | q
          · exact q h2
          · exact nO q
          · exact h1 q
    · rw [if_neg z] at hi
      exact s2.alive a ⟨i, hi⟩
  one := fun i j a hi hj => by
    have hi : a ∈ (if i ∈ vs then fp i else fp2 i) := hi
    have hj : a ∈ (if j ∈ vs then fp j else fp2 j) := hj
    have cross : ∀ i j, i ∈ vs → j ∉ vs → a ∈ fp i → a ∈ fp2 j → False := fun i j z w hi hj => by
      by_cases m : j ∈ md
      · rcases g.fresh a (hO a ⟨j, m, hj⟩) with q | q
        · obtain ⟨j', hj', hj2⟩ := q
          by_cases w' : j' ∈ vs
          · rw [fpW_in w'] at hj2; cases hj2
          · rw [fpW_out w'] at hj2
            have := s.one i j' a hi hj2
            subst this
            exact w' z
        · exact (s.alive a ⟨i, hi⟩).1 q
      · rw [k j m w] at hj
        have := s.one i j a hi hj
        subst this
        exact w z
    by_cases z : i ∈ vs
    · rw [if_pos z] at hi
      by_cases w : j ∈ vs
      · rw [if_pos w] at hj; exact s.one i j a hi hj
      · rw [if_neg w] at hj; exact (cross i j z w hi hj).elim
    · rw [if_neg z] at hi
      by_cases w : j ∈ vs
      · rw [if_pos w] at hj; exact (cross j i w z hj hi).elim
      · rw [if_neg w] at hj; exact s2.one i j a hi hj
  nd := fun i => by
    show (if i ∈ vs then fp i else fp2 i).Nodup
    by_cases z : i ∈ vs
    · rw [if_pos z]; exact s.nd i
    · rw [if_neg z]; exact s2.nd i
  len := by rw [restE_length, s2.len, wipe_length]

def lcGo (g : T → En → R En) (c : En → R (Bool × En)) (f : EM) (vs : List Nat) : List T → En → R (List T × En)
  | [], env => .ok ([], env)
  | t :: ts, env => do
    let env1 ← g t env
    let (b, env2) ← c env1
    if b then do
      let (y, env3) ← f env2
      let (ys, env4) ← lcGo g c f vs ts (wipeE env3 vs)
      .ok (y :: ys, env4)
    else lcGo g c f vs ts (wipeE env2 vs)
def eLc (src : En → R (List T × En)) (g : T → En → R En) (c : En → R (Bool × En)) (f : EM) (vs : List Nat) : EM := fun env => do
  let (ts, env1) ← src env
  let _ ← ck (decide (ts.length ≤ big))
  let (ys, env2) ← lcGo g c f vs ts (wipeE env1 vs)
  .ok (.lst true ys, restE env1 env2 vs)
def cYes : En → R (Bool × En) := fun env => .ok (true, env)
theorem tt_yes {md : List Nat} {Q : Bool → Hp → Prop} (h : TTof K ca md cYes σ H Q) : tYes σ H Q := by
  obtain ⟨F, env, fp, b, env', s, e, k⟩ := h
  cases e
  exact k H F fp (Go.refl s.sub fun _ z => z) Keep.refl s
theorem te_lc {md : List Nat} {src : En → R (List T × En)} {g : T → En → R En} {c : En → R (Bool × En)} {f : EM} {Q : VK} (hm : ∀ i, i ∈ vs → i ∉ md) (h : TEof K ca md (eLc src g c f vs) σ H Q) :
    tLc (ISof K ca md src) (GTof K ca vs g) (TTof K ca md c) (TEof K ca md f) vs σ H Q := by
  obtain ⟨F, env, fp, t, env', s, e, k⟩ := h
  obtain ⟨⟨ts, env1⟩, e1, e⟩ := bind_ok e
  obtain ⟨_, hbig, e⟩ := bind_ok e
  have hbig : ts.length ≤ big := of_decide_eq_true (ck_ok hbig)
  obtain ⟨⟨ys, env2⟩, e2, e⟩ := bind_ok e
  cases e
  refine ⟨F, env, fp, ts, env1, s, e1, fun J H1 F1 fp1 g1 kp1 s1 it D hD => ?_⟩
  obtain ⟨G, Y, w, hG, hY⟩ := it
  have hDF : F1 D = none := by
    cases q : F1 D with
    | none => rfl
    | some o => rw [s1.sub D o q] at hD; cases hD
  have notD : ∀ a, Ow fp1 a → a ≠ D := fun a ha z => by subst z; exact (s1.alive _ ha).1 hD
  -- the invariant: turn i, heap
  refine lc_it w (fun i H2 => ∃ F2 env3 fp3 acc us fa ys', SR K ca F2 H2 (wipe σ vs) env3 fp3 ∧ Sub F1 F2 ∧ H2 D = some (.lst us) ∧ F2 D = none ∧ Reps K ca F2 H2 acc us fa ∧ (D :: fa).Nodup ∧ (∀ a ∈ D :: fa, ¬ Ow fp3 a) ∧
      (∀ i, i ∉ md → i ∉ vs → fp3 i = fp1 i ∧ env3[i]? = env1[i]?) ∧ Go F1 H1 (OwM md (fpW fp1 vs)) F2 H2 (fun a => OwM md fp3 a ∨ a ∈ D :: fa) ∧ lcGo g c f vs (ts.drop i) env3 = .ok (ys', env2) ∧ ys = acc ++ ys' ∧ acc.length ≤ i ∧ i ≤ ts.length)
    ⟨F1, wipeE env1 vs, fpW fp1 vs, [], [], [], ys, ?_, Sub.refl _, upd_same, hDF, ⟨rfl, rfl⟩, by simp, ?_, fun i hi hv => ⟨fpW_out hv, wipeE_out hv⟩, ?_, e2, rfl, Nat.le_refl _, Nat.zero_le _⟩ (fun i H2 _ ⟨F2, _, _, _, _, _, _, s2, sb, _⟩ => hG H2 (sb.trans s2.sub)) ?_ ?_
  · exact (s1.wiped vs).of_go (Go.newO (O := fun _ => False) (O' := fun _ => False) s1.sub hD fun _ z => z.elim) fun _ _ z => z
  · intro a ha z
    have ha : a = D := by simpa using ha
    exact notD a (ow_fpW z) ha
  · exact Go.newO s1.sub hD fun a z => by
      rcases z with z | z
      · exact .inl z
      · have : a = D := by simpa using z
        subst this; exact .inr hD
  · rintro i x H2 H3 hi ⟨F2, env3, fp3, acc, us, fa, ys', s2, sb, hd, hdF, ra, nda, offa, kp, gg, e3, hys, hai, _⟩ y
    have hdr : ts.drop i = ts[i] :: ts.drop (i + 1) := List.drop_eq_getElem_cons hi
    rw [hdr] at e3
    obtain ⟨env4, e4, e5⟩ := bind_ok e3
    obtain ⟨⟨b, env5⟩, e6, e7⟩ := bind_ok e5
    obtain ⟨F3, g3, r3⟩ := hY i ts[i] F2 H2 x H3 (by simp [hi]) sb s2.sub y
    have s3 := s2.of_go g3 (fun _ _ z => z)
    have hd3 : H3 D = some (.lst us) := g3.frame D _ hd (fun z => z)
    have nz : ∀ b, b ∈ D :: fa → H2 b ≠ none ∧ F2 b = none := fun b hb => by
      rcases List.mem_cons.mp hb with rfl | hb
      · exact ⟨by rw [hd]; simp, hdF⟩
      · exact Reps.alive acc ra b hb
    have hdF3 : F3 D = none := by
      cases q : F3 D with
      | none => rfl
      | some o =>
        exfalso
        rcases g3.nofz D (by rw [q]; simp) with z | z | z
        · exact z hdF
        · exact z
        · rw [hd] at z; cases z
    have ra3 := Reps.of_go ra g3 (fun _ _ z => z)
    have gg3 : Go F1 H1 (OwM md (fpW fp1 vs)) F3 H3 (fun a => OwM md fp3 a ∨ a ∈ D :: fa) := gg.trans g3 (fun _ z => z.elim) fun a z => .inr z
    refine ⟨F3, env3, fp3, ts[i], [], env4, s3, ⟨r3, List.nodup_nil, fun _ z => nomatch z⟩, e4, fun σ4 fp4 q4 s4 kp4 p4 l4 => ⟨?_, ?_⟩⟩
    · exact wipe_eq (by rw [l4, wipe_length]) p4
    have eσ : wipe σ4 vs = wipe σ vs := wipe_eq (by rw [l4, wipe_length]) p4
    have q4' : ∀ a, Ow fp4 a → Ow fp3 a := fun a z => (q4 a z).elim id (fun w => nomatch w)
    have gg4 : Go F1 H1 (OwM md (fpW fp1 vs)) F3 H3 (fun a => OwM md fp4 a ∨ a ∈ D :: fa) := gg3.weak (fun _ z => z) fun a z => by
      rcases z with ⟨j, hj, hj2⟩ | z
      · refine .inl ⟨j, hj, ?_⟩
        have hv : j ∉ vs := fun z => hm j z hj
        rw [kp4.fp j hv] at hj2
        exact hj2
      · exact .inr z
    refine ⟨F3, env4, fp4, b, env5, s4, e6, fun H5 F5 fp5 g5 kp5 s5 => ?_⟩
    have off4 : ∀ a ∈ D :: fa, ¬ OwM md fp4 a := fun a ha z => offa a ha (q4' a z.ow)
    have hd5 : H5 D = some (.lst us) := g5.frame D _ hd3 (off4 D List.mem_cons_self)
    have nz3 : ∀ b, b ∈ D :: fa → H3 b ≠ none ∧ F3 b = none := fun b hb => by
      rcases List.mem_cons.mp hb with rfl | hb
      · exact ⟨by rw [hd3]; simp, hdF3⟩
      · exact Reps.alive acc ra3 b hb
    have hdF5 : F5 D = none := by
      cases q : F5 D with
      | none => rfl
      | some o =>
        exfalso
        rcases g5.nofz D (by rw [q]; simp) with z | z | z
        · exact z hdF3
        · exact off4 D List.mem_cons_self z
        · rw [hd3] at z; cases z
    have ra5 := Reps.of_go ra3 g5 (fun a ha => off4 a (List.mem_cons_of_mem _ ha))
    have off5 : ∀ a ∈ D :: fa, ¬ Ow fp5 a := fun a ha ⟨j, hj⟩ => by
      by_cases m : j ∈ md
      · rcases g5.fresh a ⟨j, m, hj⟩ with z | z
        · exact off4 a ha z
        · exact (nz3 a ha).1 z
      · rw [kp5.fp j m] at hj
        exact offa a ha (q4' a ⟨j, hj⟩)
    have gg5 : Go F1 H1 (OwM md (fpW fp1 vs)) F5 H5 (fun a => OwM md fp5 a ∨ a ∈ D :: fa) := gg4.trans g5 (fun a z => .inl z) fun a z => z.elim .inl fun z => .inr (.inr z)
    have kp5' : ∀ i, i ∉ md → i ∉ vs → fp5 i = fp1 i ∧ env5[i]? = env1[i]? := fun i h1 h2 => ⟨((kp5.fp i h1).trans (kp4.fp i h2)).trans (kp i h1 h2).1, ((kp5.env i h1).trans (kp4.env i h2)).trans (kp i h1 h2).2⟩
    have gw : ∀ {F6 H6 : Hp} {fp6 : Fp} {P : Addr → Prop}, Go F1 H1 (OwM md (fpW fp1 vs)) F6 H6 (fun a => OwM md fp6 a ∨ P a) → Go F1 H1 (OwM md (fpW fp1 vs)) F6 H6 (fun a => OwM md (fpW fp6 vs) a ∨ P a) := fun g => g.weak (fun _ z => z) fun a z => z.imp (fun ⟨j, hj, hj2⟩ => ⟨j, hj, by
      by_cases hv : j ∈ vs
      · rw [fpW_in hv] at hj2; cases hj2
      · rw [fpW_out hv] at hj2; exact hj2⟩) id
    cases b with
    | false =>
      have e7 : lcGo g c f vs (ts.drop (i + 1)) (wipeE env5 vs) = .ok (ys', env2) := e7
      exact ⟨F5, wipeE env5 vs, fpW fp5 vs, acc, us, fa, ys', eσ ▸ s5.wiped vs, (sb.trans g3.ext).trans g5.ext, hd5, hdF5, ra5, nda, fun a ha z => off5 a ha (ow_fpW z), fun i h1 h2 => ⟨(fpW_out h2).trans (kp5' i h1 h2).1, (wipeE_out h2).trans (kp5' i h1 h2).2⟩, gw gg5, e7, hys, by omega, by omega⟩
    | true =>
      obtain ⟨⟨y', env6⟩, e8, e9⟩ := bind_ok (show (f env5 >>= fun z => match z with
        | (y, env3) => lcGo g c f vs (ts.drop (i + 1)) (wipeE env3 vs) >>= fun z => match z with
          | (ys, env4) => .ok (y :: ys, env4)) = .ok (ys', env2) from e7)
      obtain ⟨⟨ys2, env7⟩, e10, e11⟩ := bind_ok e9
      cases e11
      refine ⟨F5, env5, fp5, y', env6, s5, e8, fun u H6 F6 fp6 fu g6 kp6 s6 m6 => ?_⟩
      have off5m : ∀ a ∈ D :: fa, ¬ OwM md fp5 a := fun a ha z => off5 a ha z.ow
      have nz5 : ∀ b, b ∈ D :: fa → H5 b ≠ none ∧ F5 b = none := fun b hb => by
        rcases List.mem_cons.mp hb with rfl | hb
        · exact ⟨by rw [hd5]; simp, hdF5⟩
        · exact Reps.alive acc ra5 b hb
      have hd6 : H6 D = some (.lst us) := g6.frame D _ hd5 (off5m D List.mem_cons_self)
      have ra6 := Reps.of_go ra5 g6 (fun a ha => off5m a (List.mem_cons_of_mem _ ha))
      have hdF6 : F6 D = none := by
        cases q : F6 D with
        | none => rfl
        | some o =>
          exfalso
          rcases g6.nofz D (by rw [q]; simp) with z | z | z
          · exact z hdF5
          · exact off5m D List.mem_cons_self z
          · rw [hd5] at z; cases z
      have off6 : ∀ a ∈ D :: fa, ¬ Ow fp6 a := fun a ha ⟨j, hj⟩ => by
        by_cases m : j ∈ md
        · rcases g6.fresh a (.inl ⟨j, m, hj⟩) with z | z
          · exact off5m a ha z
          · exact (nz5 a ha).1 z
        · rw [kp6.fp j m] at hj
          exact off5 a ha ⟨j, hj⟩
      have offu : ∀ a ∈ D :: fa, a ∉ fu := fun a ha z => by
        rcases g6.fresh a (.inr z) with q | q
        · exact off5m a ha q
        · exact (nz5 a ha).1 q
      have hal : us.length = acc.length := Reps.length ra6
      refine ⟨us, hd6, by rw [hal]; exact big_lt (by omega), ?_⟩
      have gW : Go F6 H6 (· = D) F6 (upd H6 D (.lst (us ++ [u]))) (· = D) := Go.write s6.sub rfl hdF6 fun b z => .inl z
      have ra7 : Reps K ca F6 (upd H6 D (.lst (us ++ [u]))) (acc ++ [y']) (us ++ [u]) (fa ++ fu) := by
        refine Reps.append (ra6.of_go gW fun a ha z => ?_) ?_
        · subst z
          exact (List.nodup_cons.mp nda).1 ha
        · simp only [Reps]
          exact ⟨u, [], fu, [], rfl, m6.rep.of_go gW fun a ha z => by subst z; exact offu _ List.mem_cons_self ha, ⟨rfl, rfl⟩, by rw [List.append_nil]⟩
      refine ⟨F6, wipeE env6 vs, fpW fp6 vs, acc ++ [y'], us ++ [u], fa ++ fu, ys2, ?_, ((sb.trans g3.ext).trans g5.ext).trans g6.ext, upd_same, hdF6, ra7, ?_, ?_, fun i h1 h2 => ⟨(fpW_out h2).trans ((kp6.fp i h1).trans (kp5' i h1 h2).1), (wipeE_out h2).trans ((kp6.env i h1).trans (kp5' i h1 h2).2)⟩, ?_, e10, by rw [hys, List.append_assoc]; rfl, by rw [List.length_append]; show acc.length + 1 ≤ i + 1; omega, by omega⟩
      · rw [← eσ]
        exact (s6.wiped vs).of_go gW fun a z w => by subst w; exact off6 _ List.mem_cons_self (ow_fpW z)
      · rw [← List.cons_append]
        exact List.nodup_append.mpr ⟨nda, m6.nd, fun a ha b hb z => by subst z; exact offu a ha hb⟩
      · intro a ha z
        rw [← List.cons_append] at ha
        rcases List.mem_append.mp ha with ha | ha
        · exact off6 a ha (ow_fpW z)
        · exact m6.off a ha (ow_fpW z)
      · have g56 : Go F1 H1 (OwM md (fpW fp1 vs)) F6 H6 (fun a => OwM md fp6 a ∨ (a ∈ D :: (fa ++ fu))) := gg5.trans g6 (fun a z => .inl z) fun a z => by
          rcases z with z | z
          · exact .inl (.inl z)
          · rw [← List.cons_append] at z
            rcases List.mem_append.mp z with z | z
            · exact .inr (.inr z)
            · exact .inl (.inr z)
        refine gw (g56.trans gW (fun a z => by subst z; exact .inr List.mem_cons_self) fun a z => .inr z)
  · rintro H2 ⟨F2, env3, fp3, acc, us, fa, ys', s2, sb, hd, hdF, ra, nda, offa, kp, gg, e3, hys, hai, _⟩
    rw [List.drop_length] at e3
    have e3 : Except.ok (([] : List T), env3) = Except.ok (ys', env2) := e3
    cases e3
    rw [List.append_nil] at hys
    subst hys
    have sR := s1.rest (md := md) s2 gg (fun a z => .inl z) (fun i h1 h2 => (kp i h1 h2).1)
    refine k (.ref D) H2 F2 (fun j => if j ∈ vs then fp1 j else fp3 j) (D :: fa) (g1.trans (O1' := OwM md (fpW fp1 vs)) (O2 := fun a => OwM md fp3 a ∨ a ∈ D :: fa) gg (fun a ⟨j, hj, hj2⟩ => ⟨j, hj, by
      by_cases hv : j ∈ vs
      · rw [fpW_in hv] at hj2; cases hj2
      · rw [fpW_out hv] at hj2; exact hj2⟩) fun a z => ?_) ?_ sR ⟨?_, nda, ?_⟩
    · rcases z with ⟨j, hj, hj2⟩ | z
      · have hv : j ∉ vs := fun z => hm j z hj
        have hj2 : a ∈ (if j ∈ vs then fp1 j else fp3 j) := hj2
        rw [if_neg hv] at hj2
        exact .inl (.inl ⟨j, hj, hj2⟩)
      · exact .inl (.inr z)
    · refine ⟨fun i hi => ?_, fun i hi => ?_⟩
      · show (if i ∈ vs then fp1 i else fp3 i) = fp i
        by_cases hv : i ∈ vs
        · rw [if_pos hv]; exact kp1.fp i hi
        · rw [if_neg hv]; exact (kp i hi hv).1.trans (kp1.fp i hi)
      · by_cases hv : i ∈ vs
        · rw [restE_in (by rw [s1.len, s2.len, wipe_length]) hv]; exact kp1.env i hi
        · rw [restE_out hv]; exact (kp i hi hv).2.trans (kp1.env i hi)
    · simp only [Rep]
      exact ⟨D, us, fa, rfl, hd, hdF, ra, rfl⟩
    · intro a ha ⟨j, hj⟩
      have hj : a ∈ (if j ∈ vs then fp1 j else fp3 j) := hj
      by_cases hv : j ∈ vs
      · rw [if_pos hv] at hj
        rcases gg.fresh a (.inr ha) with z | z
        · obtain ⟨j', hj', hj2⟩ := z
          by_cases w' : j' ∈ vs
          · rw [fpW_in w'] at hj2; cases hj2
          · rw [fpW_out w'] at hj2
            have := s1.one j j' a hj hj2
            subst this
            exact w' hv
        · exact (s1.alive a ⟨j, hj⟩).1 z
      · rw [if_neg hv] at hj
        exact offa a ha ⟨j, hj⟩
end
end QL
namespace QL
open PySem L2
def fpI (io : Option Nat) (f : List Addr) : Fp := fun i => if io = some i then f else []
theorem ow_fpI {io : Option Nat} {f : List Addr} {a : Addr} (h : Ow (fpI io f) a) : a ∈ f := by
  obtain ⟨i, hi⟩ := h
  unfold fpI at hi
  split at hi
  · exact hi
  · cases hi
/-- what a def is worth: of its arguments, the answer, and what the argument that it may change is behind it -/
abbrev Fn := List T → R (T × Option T)
/-- a def's promise -/
def spOf (K : PySem.W.Frag) (ca : Ca) (io : Option Nat) (g : Fn) : Sp := fun vs H Q _ => ∃ F ts fi t out, SR K ca F H (vs.map some) (ts.map some) (fpI io fi) ∧ g ts = .ok (t, out) ∧
  ∀ v H' F' fi' fv, Go F H (· ∈ fi) F' H' (fun a => a ∈ fi' ∨ a ∈ fv) → Rep K ca F' H' t v fv → fv.Nodup → fi'.Nodup → (∀ a ∈ fv, a ∉ fi') → (∀ p, io = some p → ∃ t' w, out = some t' ∧ vs[p]? = some w ∧ Rep K ca F' H' t' w fi') → (io = none → fi' = []) → Q v H'

def retOf : Fl → R T
  | .nx => .ok .non
  | .rt t => .ok t
  | _ => stk
/-- a def by its body: n slots, io the argument that it may change -/
def fnOf (n : Nat) (io : Option Nat) (body : SM) : Fn := fun ts => do
  let (fl, env) ← body (ts.map some ++ List.replicate (n - ts.length) none)
  let t ← retOf fl
  match io with
  | none => .ok (t, none)
  | some p => match env[p]? with
    | some (some u) => .ok (t, some u)
    | _ => stk

section
variable {K : PySem.W.Frag} {ca : Ca} {F F' F1 H H' H1 : Hp} {O O' : Addr → Prop} {σ : St} {env : En} {fp : Fp} {t : T} {v : V} {fv : List Addr} {ts : List T} {vs : List V}

def ioPins (io : Option Nat) : List Nat := match io with
  | none => []
  | some p => [p]
/-- the reading of a body, from the promise -/
theorem body_ok {N : List Str} {n : Nat} {io : Option Nat} {body : SM} {Q : VK} {E : XK} (hn : N.length = n) (h : spOf K ca io (fnOf n io body) vs H Q E) :
    TSof K ca (ioPins io) body { nx := fun _ H' => Q .non H', rt := Q } (L2.start N vs) H := by
  obtain ⟨F, ts, fi, t, out, s, e, k⟩ := h
  obtain ⟨⟨fl, env'⟩, e1, e⟩ := bind_ok e
  obtain ⟨t', e2, e⟩ := bind_ok e
  have hl : vs.length = ts.length := by have := s.len; simpa using this.symm
  have s0 : SR K ca F H (L2.start N vs) (ts.map some ++ List.replicate (n - ts.length) none) (fpI io fi) := by
    refine ⟨s.sub, fun i u eu => ?_, s.alive, s.one, s.nd, by unfold L2.start; simp [hn, hl]⟩
    by_cases hi : i < ts.length
    · rw [List.getElem?_append_left (by simpa using hi)] at eu
      obtain ⟨w, ew, r⟩ := s.slot i u eu
      refine ⟨w, ?_, r⟩
      unfold L2.start
      rw [List.getElem?_append_left (by simpa [hl] using hi)]
      exact ew
    · rw [List.getElem?_append_right (by simpa using hi)] at eu
      rw [List.getElem?_replicate] at eu
      split at eu <;> cases eu
  refine ⟨F, _, fpI io fi, fl, env', s0, e1, ?_⟩
  have fin : ∀ σ' H' F' fp' v fv, Go F H (Ow (fpI io fi)) F' H' (fun a => Ow fp' a ∨ a ∈ fv) → SR K ca F' H' σ' env' fp' → Pin (ioPins io) (L2.start N vs) σ' → Tm K ca F' H' fp' t' v fv → Q v H' := by
    intro σ' H' F' fp' v fv g s' p m
    cases io with
    | none =>
      cases e
      exact k v H' F' [] fv (g.weak (fun a z => ow_fpI z) fun a z => .inr (z.elim (fun w => nomatch w) id)) m.rep m.nd List.nodup_nil (fun a _ w => nomatch w) (fun p z => nomatch z) (fun _ => rfl)
    | some q =>
      have e : (match env'[q]? with
        | some (some u) => Except.ok (t', some u)
        | _ => stk) = Except.ok (t, out) := e
      split at e
      case h_2 => cases e
      case h_1 u hu =>
        cases e
        obtain ⟨w, ew, rw'⟩ := s'.slot q u hu
        refine k v H' F' (fp' q) fv (g.weak (fun a z => ow_fpI z) fun a z => z.imp (fun w => ⟨q, w⟩) id) m.rep m.nd (s'.nd q) (fun a ha z => m.off a ha ⟨q, z⟩) (fun p hp => ?_) (fun z => nomatch z)
        cases hp
        have hw := p q (by unfold ioPins; exact List.mem_singleton.mpr rfl)
        rw [hw] at ew
        refine ⟨u, w, rfl, ?_, rw'⟩
        unfold L2.start at ew
        by_cases hq : q < vs.length
        · rw [List.getElem?_append_left (by simpa using hq)] at ew
          simpa using ew
        · rw [List.getElem?_append_right (by simpa using hq), List.getElem?_replicate] at ew
          split at ew <;> cases ew
  cases fl with
  | nx =>
    cases e2
    intro σ' H' F' fp' g s' p
    exact fin σ' H' F' fp' .non [] (g.weak (fun _ z => z) fun a z => z.elim id (fun w => nomatch w)) s' p ⟨by simp only [Rep]; trivial, List.nodup_nil, fun _ z => nomatch z⟩
  | bk => cases e2
  | ct => cases e2
  | rt u =>
    cases e2
    intro σ' H' F' fp' v fv g s' p m
    exact fin σ' H' F' fp' v fv g s' p m

def argT (env : En) : Bop → R T
  | .tmp t => do
    let _ ← ck (!t.ow || t.nob)
    .ok (if t.ow then t.fz else t)
  | .br t _ => do
    let _ ← ck (!t.ow || t.nob)
    .ok (if t.ow then t.fz else t)
  | .io i => match env[i]? with
    | some (some t) => .ok t
    | _ => stk
def argsT (env : En) : List Bop → R (List T)
  | [] => .ok []
  | b :: bs => do
    let t ← argT env b
    let ts ← argsT env bs
    .ok (t :: ts)
/-- the one operand that may be changed: its place, its slot -/
def ioFind : List Bop → Nat → Option (Nat × Nat)
  | [], _ => none
  | .io i :: _, p => some (p, i)
  | _ :: bs, p => ioFind bs (p + 1)
def ioCount : List Bop → Nat
  | [] => 0
  | .io _ :: bs => ioCount bs + 1
  | _ :: bs => ioCount bs
def ioOk (io : Option Nat) (bs : List Bop) : Bool := match io, ioFind bs 0 with
  | none, none => true
  | some p, some (q, _) => decide (p = q) && decide (ioCount bs = 1)
  | _, _ => false
def brOk (i : Nat) (bs : List Bop) : Bool := bs.all fun b => match b with
  | .br t j => !t.ow || j != i
  | _ => true
def callApp (io : Option Nat) (g : Fn) (bs : List Bop) (env : En) : R (T × En) := do
  let ts ← argsT env bs
  let _ ← ck (ioOk io bs)
  let (t, out) ← g ts
  let _ ← ck (!bs.any Bop.bo || (t.nfz && (match out with | some u => u.nfz | none => true)))
  match ioFind bs 0, out with
  | none, _ => .ok (t, env)
  | some (_, i), some u => do
    let _ ← ck (brOk i bs)
    .ok (t, env.set i (some u))
  | _, _ => stk
def eCall (io : Option Nat) (sl : Option Nat) (g : Fn) (f : AM) : EM := fun env => do
  let (bs, env1) ← f env
  let _ ← ck (decide ((ioFind bs 0).map (·.2) = sl))
  callApp io g bs env1

/-- operands as arguments -/
theorem Ops.args {md : List Nat} (hs : SR K ca F H σ env fp) : ∀ {bs : List Bop} {vs : List V} {ft : List Addr} {ts : List T}, Ops K ca md F H σ fp bs vs ft → argsT env bs = .ok ts →
    ∃ B : List Addr, (∀ a ∈ B, ∃ j t, a ∈ fp j ∧ Bop.br t j ∈ bs ∧ t.ow = true ∧ ∀ o, H a = some o → (∀ xs, o ≠ .tup xs) ∧ ∀ ob u, o ≠ .frz ob u) ∧ (bs.any Bop.bo = false → B = []) ∧
      ∀ F1, Sub F F1 → (∀ a ∈ B, F1 a = H a) → (∀ a ∈ ft, F1 a = H a) → (∀ i, Bop.io i ∈ bs → ∀ a ∈ fp i, F1 a = none) → ts.length = bs.length ∧ vs.length = bs.length ∧
        ∀ (p : Nat) (t : T), ts[p]? = some t → ∃ v, vs[p]? = some v ∧ ((∃ i : Nat, bs[p]? = some (Bop.io i) ∧ σ[i]? = some (some v) ∧ Rep K ca F1 H t v (fp i)) ∨ ((∀ i : Nat, bs[p]? ≠ some (Bop.io i)) ∧ Rep K ca F1 H t v []))
  | [], _, _, _, h, e => by
    cases e
    simp only [Ops] at h
    exact ⟨[], fun _ z => absurd z (by simp), fun _ => rfl, fun F1 _ _ _ _ => ⟨rfl, by rw [h.1]; rfl, fun p t z => by simp at z⟩⟩
  | b :: bs, _, _, _, h, e => by
    simp only [Ops] at h
    obtain ⟨v, us, f, g, e1, r, rs, e2⟩ := h
    obtain ⟨t, et, e⟩ := bind_ok e
    obtain ⟨ts, ets, e⟩ := bind_ok e
    cases e
    obtain ⟨B, hB1, hB2, hB3⟩ := Ops.args hs rs ets
    subst e1 e2
    have step : ∀ {B' : List Addr} {F1 : Hp}, Sub F F1 → (∀ a ∈ B ++ B', F1 a = H a) → (∀ a ∈ f ++ g, F1 a = H a) → (∀ i, Bop.io i ∈ b :: bs → ∀ a ∈ fp i, F1 a = none) →
        ((∃ i, b = Bop.io i ∧ σ[i]? = some (some v) ∧ Rep K ca F1 H t v (fp i)) ∨ ((∀ i, b ≠ Bop.io i) ∧ Rep K ca F1 H t v [])) →
        (t :: ts).length = (b :: bs).length ∧ (v :: us).length = (b :: bs).length ∧ ∀ (p : Nat) (u : T), (t :: ts)[p]? = some u → ∃ w, (v :: us)[p]? = some w ∧ ((∃ i, (b :: bs)[p]? = some (Bop.io i) ∧ σ[i]? = some (some w) ∧ Rep K ca F1 H u w (fp i)) ∨ ((∀ i, (b :: bs)[p]? ≠ some (Bop.io i)) ∧ Rep K ca F1 H u w [])) := by
      intro B' F1 s1 q1 q2 q3 hh
      obtain ⟨l1, l2, hr⟩ := hB3 F1 s1 (fun a ha => q1 a (List.mem_append_left _ ha)) (fun a ha => q2 a (List.mem_append_right _ ha)) (fun i hi => q3 i (List.mem_cons_of_mem _ hi))
      refine ⟨by simp [l1], by simp [l2], fun p u eu => ?_⟩
      cases p with
      | zero =>
        simp only [List.getElem?_cons_zero, Option.some.injEq] at eu ⊢
        subst eu
        exact ⟨v, rfl, hh.imp id fun z => ⟨fun i w => z.1 i (Option.some.inj w), z.2⟩⟩
      | succ p =>
        simp only [List.getElem?_cons_succ] at eu ⊢
        exact hr p u eu
    have val : ∀ (u : T), argT env b = .ok t → (argT env b = (do
        let _ ← ck (!u.ow || u.nob)
        .ok (if u.ow then u.fz else u))) → (u.ow = true → u.nob = true) ∧ t = (if u.ow then u.fz else u) := by
      intro u h1 h2
      rw [h2] at h1
      obtain ⟨_, c, h1⟩ := bind_ok h1
      cases h1
      have := ck_ok c
      exact ⟨fun z => by rw [z] at this; simpa using this, rfl⟩
    cases b with
    | io i =>
      obtain ⟨r1, r2⟩ := r
      subst r1
      refine ⟨B, fun a ha => ?_, fun z => hB2 (by rw [List.any_cons, Bool.or_eq_false_iff] at z; exact z.2), fun F1 s1 q1 q2 q3 => step (B' := []) s1 (by simpa using q1) q2 q3 (.inl ⟨i, rfl, r2, ?_⟩)⟩
      · obtain ⟨j, u, h1, h2, h3⟩ := hB1 a ha
        exact ⟨j, u, h1, List.mem_cons_of_mem _ h2, h3⟩
      · have et : (match env[i]? with
          | some (some t) => Except.ok t
          | _ => stk) = Except.ok t := et
        split at et
        case h_2 => cases et
        case h_1 u hu =>
          cases et
          obtain ⟨w, ew, rw'⟩ := hs.slot i t hu
          rw [r2] at ew
          cases ew
          exact Rep.go s1 t rw' (fun _ _ => rfl) (q3 i List.mem_cons_self)
    | tmp u =>
      obtain ⟨n1, n2⟩ := val u et rfl
      have r' : Rep K ca F H u v f := r
      refine ⟨B, fun a ha => ?_, fun z => hB2 (by rw [List.any_cons, Bool.or_eq_false_iff] at z; exact z.2), fun F1 s1 q1 q2 q3 => step (B' := []) s1 (by simpa using q1) q2 q3 (.inr ⟨fun i z => (by cases z), ?_⟩)⟩
      · obtain ⟨j, u, h1, h2, h3⟩ := hB1 a ha
        exact ⟨j, u, h1, List.mem_cons_of_mem _ h2, h3⟩
      · rw [n2]
        by_cases how : u.ow = true
        · rw [if_pos how]
          exact Rep.frz s1 u (n1 how) r' fun a ha => q2 a (List.mem_append_left _ ha)
        · rw [if_neg how]
          have how : u.ow = false := by simpa using how
          have := Rep.pure_fp u how r'
          subst this
          exact Rep.go s1 u r' (fun _ z => absurd z (by simp)) (fun _ z => absurd z (by simp))
    | br u i =>
      obtain ⟨n1, n2⟩ := val u et rfl
      obtain ⟨r1, r2, fb, r3, r4⟩ := r
      subst r2
      by_cases how : u.ow = true
      · refine ⟨B ++ fb, fun a ha => ?_, fun z => ?_, fun F1 s1 q1 q2 q3 => step (B' := fb) s1 q1 q2 q3 (.inr ⟨fun i z => (by cases z), ?_⟩)⟩
        · rcases List.mem_append.mp ha with ha | ha
          · obtain ⟨j, u, h1, h2, h3⟩ := hB1 a ha
            exact ⟨j, u, h1, List.mem_cons_of_mem _ h2, h3⟩
          · exact ⟨i, u, r4 a ha, List.mem_cons_self, how, Rep.kind u r3 a ha⟩
        · rw [List.any_cons, show Bop.bo (.br u i) = u.ow from rfl, how] at z; cases z
        · rw [n2, if_pos how]
          exact Rep.frz s1 u (n1 how) r3 fun a ha => q1 a (List.mem_append_right _ ha)
      · have how' : u.ow = false := by simpa using how
        have := Rep.pure_fp u how' r3
        subst this
        refine ⟨B, fun a ha => ?_, fun z => hB2 (by rw [List.any_cons, Bool.or_eq_false_iff] at z; exact z.2), fun F1 s1 q1 q2 q3 => step (B' := []) s1 (by simpa using q1) q2 q3 (.inr ⟨fun i z => (by cases z), ?_⟩)⟩
        · obtain ⟨j, u, h1, h2, h3⟩ := hB1 a ha
          exact ⟨j, u, h1, List.mem_cons_of_mem _ h2, h3⟩
        · rw [n2, if_neg how]
          exact Rep.go s1 u r3 (fun _ z => absurd z (by simp)) (fun _ z => absurd z (by simp))

theorem ioFind_none : ∀ {bs : List Bop} {p : Nat}, ioFind bs p = none → ∀ i, Bop.io i ∉ bs
  | [], _, _, _ => by simp
  | .io j :: bs, p, h, i => by simp [ioFind] at h
  | .tmp t :: bs, p, h, i => by
    have := ioFind_none (bs := bs) (p := p + 1) h i
    simpa using this
  | .br t j :: bs, p, h, i => by
    have := ioFind_none (bs := bs) (p := p + 1) h i
    simpa using this
theorem ioCount_zero : ∀ {bs : List Bop}, ioCount bs = 0 → ∀ i, Bop.io i ∉ bs
  | [], _, _ => by simp
  | .io j :: bs, h, i => by simp [ioCount] at h
  | .tmp t :: bs, h, i => by
    have := ioCount_zero (bs := bs) h i
    simpa using this
  | .br t j :: bs, h, i => by
    have := ioCount_zero (bs := bs) h i
    simpa using this
theorem ioFind_some : ∀ {bs : List Bop} {p q i : Nat}, ioFind bs p = some (q, i) → ioCount bs = 1 → ∃ k, q = p + k ∧ bs[k]? = some (Bop.io i) ∧ ∀ (k' i' : Nat), bs[k']? = some (Bop.io i') → k' = k
  | [], _, _, _, h, _ => by simp [ioFind] at h
  | .io j :: bs, p, q, i, h, c => by
    simp only [ioFind, Option.some.injEq, Prod.mk.injEq] at h
    obtain ⟨rfl, rfl⟩ := h
    refine ⟨0, rfl, rfl, fun k' i' z => ?_⟩
    cases k' with
    | zero => rfl
    | succ k' =>
      rw [List.getElem?_cons_succ] at z
      exact absurd (List.mem_of_getElem? z) (ioCount_zero (by simpa [ioCount] using c) i')
  | .tmp t :: bs, p, q, i, h, c => by
    obtain ⟨k, h1, h2, h3⟩ := ioFind_some (bs := bs) (p := p + 1) h c
    refine ⟨k + 1, by omega, h2, fun k' i' z => ?_⟩
    cases k' with
    | zero => simp at z
    | succ k' => rw [h3 k' i' (by simpa using z)]
  | .br t j :: bs, p, q, i, h, c => by
    obtain ⟨k, h1, h2, h3⟩ := ioFind_some (bs := bs) (p := p + 1) h c
    refine ⟨k + 1, by omega, h2, fun k' i' z => ?_⟩
    cases k' with
    | zero => simp at z
    | succ k' => rw [h3 k' i' (by simpa using z)]
theorem Go.full_md {md md0 : List Nat} {env' : En} {fp' : Fp} {P : Addr → Prop} (g : Go F H (OwM md0 fp) F' H' (fun a => OwM md0 fp' a ∨ P a)) (k : Keep md0 env fp env' fp') (hm : ∀ i, i ∈ md0 → i ∈ md) : Go F H (OwM md fp) F' H' (fun a => OwM md fp' a ∨ P a) where
  ext := g.ext
  sub := g.sub
  frame := fun b o e n => g.frame b o e fun ⟨j, hj, hj2⟩ => n ⟨j, hm j hj, hj2⟩
  nofz := fun b e => (g.nofz b e).imp id (Or.imp (fun ⟨j, hj, hj2⟩ => ⟨j, hm j hj, hj2⟩) id)
  fresh := fun b e => by
    rcases e with ⟨i, h0, hi⟩ | e
    · by_cases hmi : i ∈ md0
      · exact (g.fresh b (.inl ⟨i, hmi, hi⟩)).imp (fun ⟨j, hj, hj2⟩ => ⟨j, hm j hj, hj2⟩) id
      · rw [k.fp i hmi] at hi
        exact .inl ⟨i, h0, hi⟩
    · exact (g.fresh b (.inr e)).imp (fun ⟨j, hj, hj2⟩ => ⟨j, hm j hj, hj2⟩) id
open Classical in
theorem te_call {md md0 : List Nat} {io sl : Option Nat} {g : Fn} {f : AM} {Q : VK} {E : XK} (hm : ∀ i, i ∈ md0 → i ∈ md) (hsl : ∀ i, sl = some i → i ∈ md)
    (h : TEof K ca md (eCall io sl g f) σ H Q) : tCall (spOf K ca io g) [] E (TAof K ca md0 f) σ H Q := by
  obtain ⟨F, env, fp, t, env', s, e, k⟩ := h
  obtain ⟨⟨bs, env1⟩, e1, e⟩ := bind_ok e
  obtain ⟨_, csl, e⟩ := bind_ok e
  have csl := of_decide_eq_true (ck_ok csl)
  have hio : ∀ p i, ioFind bs 0 = some (p, i) → i ∈ md := fun p i w => hsl i (by rw [← csl, w]; rfl)
  refine ⟨F, env, fp, bs, env1, s, e1, fun vs H1 F1 fp1 ft g1 k1 s1 o1 n1 d1 => ?_⟩
  obtain ⟨ts, ea, e⟩ := bind_ok e
  obtain ⟨_, c1, e⟩ := bind_ok e
  have c1 := ck_ok c1
  obtain ⟨⟨t', out⟩, eg, e⟩ := bind_ok e
  obtain ⟨_, c2, e⟩ := bind_ok e
  have c2 := ck_ok c2
  rw [List.append_nil]
  obtain ⟨B, hB1, hB2, hB3⟩ := Ops.args s1 o1 ea
  have alft := o1.alive
  -- the slot that may be changed
  have hfi : ∃ fi : List Addr, (∀ p i, ioFind bs 0 = some (p, i) → fi = fp1 i) ∧ (ioFind bs 0 = none → fi = []) := by
    cases w : ioFind bs 0 with
    | none => exact ⟨[], fun _ _ z => (by cases z), fun _ => rfl⟩
    | some pi => exact ⟨fp1 pi.2, fun p i z => (by cases z; rfl), fun z => (by cases z)⟩
  obtain ⟨fi, hfi1, hfi2⟩ := hfi
  have hfiO : ∀ a ∈ fi, Ow fp1 a := fun a ha => by
    cases w : ioFind bs 0 with
    | none => rw [hfi2 w] at ha; cases ha
    | some pi => rw [hfi1 pi.1 pi.2 w] at ha; exact ⟨_, ha⟩
  have hfiB : ∀ a ∈ fi, a ∉ B := fun a ha z => by
    cases w : ioFind bs 0 with
    | none => rw [hfi2 w] at ha; cases ha
    | some pi =>
      rw [hfi1 pi.1 pi.2 w] at ha
      obtain ⟨j, u, h1, h2, h3, _⟩ := hB1 a z
      have hj := s1.one j pi.2 a h1 ha
      subst hj
      rw [w] at e
      cases out with
      | none => cases e
      | some u' =>
        obtain ⟨_, c3, e⟩ := bind_ok (show (ck (brOk pi.2 bs) >>= fun _ => Except.ok (t', env1.set pi.2 (some u'))) = .ok (t, env') from e)
        have c3 := List.all_eq_true.mp (ck_ok c3) _ h2
        simp only [h3, Bool.not_true, Bool.false_or, bne_self_eq_false] at c3
        cases c3
  -- the view
  have view : ∃ Fv : Hp, (∀ a, a ∈ B ∨ a ∈ ft → Fv a = H1 a) ∧ (∀ a, ¬ (a ∈ B ∨ a ∈ ft) → Fv a = F1 a) := ⟨fun a => if a ∈ B ∨ a ∈ ft then H1 a else F1 a, fun a z => if_pos z, fun a z => if_neg z⟩
  obtain ⟨Fv, v1, v2⟩ := view
  have sv : Sub F1 Fv := fun a o ea => by
    by_cases z : a ∈ B ∨ a ∈ ft
    · rw [v1 a z]; exact s1.sub a o ea
    · rw [v2 a z]; exact ea
  have svH : Sub Fv H1 := fun a o ea => by
    by_cases z : a ∈ B ∨ a ∈ ft
    · rw [v1 a z] at ea; exact ea
    · rw [v2 a z] at ea; exact s1.sub a o ea
  have fiF : ∀ a ∈ fi, Fv a = none := fun a ha => by
    rw [v2 a (fun z => z.elim (hfiB a ha) fun z => d1 a z (hfiO a ha))]
    exact (s1.alive a (hfiO a ha)).2
  have ioAll : ∀ i, Bop.io i ∈ bs → ∃ p, ioFind bs 0 = some (p, i) ∧ io = some p ∧ bs[p]? = some (Bop.io i) ∧ ∀ (k' i' : Nat), bs[k']? = some (Bop.io i') → k' = p := fun i hi => by
    cases w : ioFind bs 0 with
    | none => exact absurd hi (ioFind_none w i)
    | some pi =>
      obtain ⟨p, j⟩ := pi
      unfold ioOk at c1
      rw [w] at c1
      cases io with
      | none => cases c1
      | some q =>
        simp only [Bool.and_eq_true, decide_eq_true_eq] at c1
        obtain ⟨kk, h1, h2, h3⟩ := ioFind_some w c1.2
        have hp : p = kk := by omega
        subst hp
        obtain ⟨k2, hk2⟩ := List.getElem?_of_mem hi
        have := h3 k2 i hk2
        subst this
        rw [h2] at hk2
        cases hk2
        exact ⟨_, rfl, by rw [c1.1], h2, h3⟩
  obtain ⟨l1, l2, hr⟩ := hB3 Fv sv (fun a ha => v1 a (.inl ha)) (fun a ha => v1 a (.inr ha)) (fun i hi a ha => by
    obtain ⟨p, hp, _⟩ := ioAll i hi
    exact fiF a (by rw [hfi1 p i hp]; exact ha))
  have srv : SR K ca Fv H1 (vs.map some) (ts.map some) (fpI io fi) := by
    have own : ∀ a, Ow (fpI io fi) a → a ∈ fi := fun a z => ow_fpI z
    refine ⟨svH, fun p u eu => ?_, fun a ha => ⟨(s1.alive a (hfiO a (own a ha))).1, fiF a (own a ha)⟩, fun i j a hi hj => ?_, fun i => ?_, by simp [l1, l2]⟩
    · have eu' : ts[p]? = some u := by simpa using eu
      obtain ⟨w, ew, hw⟩ := hr p u eu'
      refine ⟨w, by simpa using ew, ?_⟩
      rcases hw with ⟨i, h1, h2, h3⟩ | ⟨h1, h2⟩
      · obtain ⟨p', q1, q2, q3, q4⟩ := ioAll i (List.mem_of_getElem? h1)
        have := q4 p i h1
        subst this
        unfold fpI
        rw [if_pos q2, hfi1 p i q1]
        exact h3
      · unfold fpI
        by_cases z : io = some p
        · subst z
          cases w : ioFind bs 0 with
          | none => rw [hfi2 w, if_pos rfl]; exact h2
          | some pi =>
            obtain ⟨p', j⟩ := pi
            unfold ioOk at c1
            rw [w] at c1
            simp only [Bool.and_eq_true, decide_eq_true_eq] at c1
            obtain ⟨kk, q1, q2, q3⟩ := ioFind_some w c1.2
            have : p = kk := by omega
            subst this
            exact absurd q2 (h1 j)
        · rw [if_neg z]; exact h2
    · unfold fpI at hi hj
      split at hi
      case isFalse => cases hi
      case isTrue w1 =>
        split at hj
        case isFalse => cases hj
        case isTrue w2 => rw [w1] at w2; exact Option.some.inj w2
    · unfold fpI
      split
      · cases w : ioFind bs 0 with
        | none => rw [hfi2 w]; exact List.nodup_nil
        | some pi => rw [hfi1 pi.1 pi.2 w]; exact s1.nd _
      · exact List.nodup_nil
  refine ⟨Fv, ts, fi, t', out, srv, eg, fun v H2 F2 fi' fv g2 rv ndv ndi offv hout hnone => ?_⟩
  -- back
  have back : ∃ F3 : Hp, (∀ a ∈ B, F3 a = none) ∧ (∀ a, a ∉ B → F3 a = F2 a) := ⟨fun a => if a ∈ B then none else F2 a, fun a z => if_pos z, fun a z => if_neg z⟩
  obtain ⟨F3, b1, b2⟩ := back
  have Bal : ∀ a ∈ B, Ow fp1 a := fun a ha => let ⟨j, _, h1, _⟩ := hB1 a ha; ⟨j, h1⟩
  have gB : ∀ a ∈ B, F2 a = H1 a := fun a ha => by
    cases w : H1 a with
    | none => exact absurd w (s1.alive a (Bal a ha)).1
    | some o => exact g2.ext a o (by rw [v1 a (.inl ha)]; exact w)
  have g3 : Go F1 H1 (fun a => a ∈ fi ∨ a ∈ ft) F3 H2 (fun a => a ∈ fi' ∨ a ∈ fv) := by
    refine ⟨fun a o ea => ?_, fun a o ea => ?_, fun b o e n => g2.frame b o e fun z => n (.inl z), fun b eb => ?_, fun b z => (g2.fresh b z).imp .inl id⟩
    · have nB : a ∉ B := fun z => by
        rw [(s1.alive a (Bal a z)).2] at ea; cases ea
      rw [b2 a nB]
      exact g2.ext a o (sv a o ea)
    · by_cases z : a ∈ B
      · rw [b1 a z] at ea; cases ea
      · rw [b2 a z] at ea; exact g2.sub a o ea
    · by_cases z : b ∈ B
      · rw [b1 b z] at eb; exact absurd rfl eb
      · rw [b2 b z] at eb
        rcases g2.nofz b eb with q | q | q
        · by_cases z2 : b ∈ ft
          · exact .inr (.inl (.inr z2))
          · rw [v2 b (fun w => w.elim z z2)] at q
            exact .inl q
        · exact .inr (.inl (.inl q))
        · exact .inr (.inr q)
  have unb : ∀ {u : T} {w : V} {fu : List Addr}, Rep K ca F2 H2 u w fu → (bs.any Bop.bo = true → u.nfz = true) → Rep K ca F3 H2 u w fu := by
    intro u w fu ru hu
    by_cases hB : B = []
    · have : F3 = F2 := funext fun a => b2 a (by rw [hB]; simp)
      rw [this]
      exact ru
    · have hbo : bs.any Bop.bo = true := by
        cases w : bs.any Bop.bo with
        | true => rfl
        | false => exact absurd (hB2 w) hB
      refine Rep.unb (fun a xs z => ?_) u (hu hbo) ru (fun a ha => ?_)
      · have nB : a ∉ B := fun zb => by
          obtain ⟨j, t, h1, h2, h3, h4⟩ := hB1 a zb
          cases w : H1 a with
          | none => exact absurd w (s1.alive a (Bal a zb)).1
          | some o =>
            have := h4 o w
            rcases z with z | ⟨ob, z⟩
            · rw [gB a zb, w] at z; cases z; exact this.1 xs rfl
            · rw [gB a zb, w] at z; cases z; exact this.2 ob _ rfl
        rcases z with z | ⟨ob, z⟩
        · exact .inl (by rw [b2 a nB]; exact z)
        · exact .inr ⟨ob, by rw [b2 a nB]; exact z⟩
      · by_cases z : a ∈ B
        · exact b1 a z
        · rw [b2 a z]; exact (Rep.alive u ru a ha).2
  have nfz1 : bs.any Bop.bo = true → t'.nfz = true := fun z => by
    rw [z] at c2
    simp only [Bool.not_true, Bool.false_or, Bool.and_eq_true] at c2
    exact c2.1
  have rv3 := unb rv nfz1
  -- the slots behind
  cases w : ioFind bs 0 with
  | none =>
    rw [w] at e
    have e : Except.ok (t', env1) = Except.ok (t, env') := e
    cases e
    have hfi := hfi2 w
    subst hfi
    have hio0 : io = none := by
      unfold ioOk at c1
      rw [w] at c1
      cases io with
      | none => rfl
      | some q => cases c1
    have hfi'0 := hnone hio0
    subst hfi'0
    have s3 : SR K ca F3 H2 σ env' fp1 := s1.of_go g3 fun a ha z => z.elim (fun z => nomatch z) fun z => d1 a z ha
    refine k v H2 F3 fp1 fv ?_ (k1.mono hm) s3 ⟨rv3, ndv, fun a ha z => ?_⟩
    · refine ((g1.trans g3 (fun a z => z.elim (fun z => nomatch z) .inr) (P := fun a => OwM md0 fp1 a ∨ a ∈ fv) fun a z => ?_)).full_md k1 hm
      rcases z with z | z
      · exact .inr (.inl z)
      · exact .inl (.inr z)
    · rcases g3.fresh a (.inr ha) with q | q
      · rcases q with q | q
        · cases q
        · exact d1 a q z
      · exact (s1.alive a z).1 q
  | some pi =>
    obtain ⟨p, i⟩ := pi
    rw [w] at e
    cases out with
    | none => cases e
    | some u' =>
      obtain ⟨_, c3, e⟩ := bind_ok (show (ck (brOk i bs) >>= fun _ => Except.ok (t', env1.set i (some u'))) = .ok (t, env') from e)
      cases e
      have hfi := hfi1 p i w
      subst hfi
      have hpio : io = some p ∧ ioCount bs = 1 := by
        unfold ioOk at c1
        rw [w] at c1
        cases io with
        | none => cases c1
        | some q =>
          simp only [Bool.and_eq_true, decide_eq_true_eq] at c1
          exact ⟨by rw [c1.1], c1.2⟩
      obtain ⟨kk, q1, q2, q3⟩ := ioFind_some w hpio.2
      have hpk : p = kk := by omega
      subst hpk
      obtain ⟨t2, w2, h1, h2, h3⟩ := hout p hpio.1
      cases h1
      have nfz2 : bs.any Bop.bo = true → u'.nfz = true := fun z => by
        rw [z] at c2
        simp only [Bool.not_true, Bool.false_or, Bool.and_eq_true] at c2
        exact c2.2
      have ru3 := unb h3 nfz2
      have hp : p < ts.length := by rw [l1]; exact (List.getElem?_eq_some_iff.mp q2).1
      obtain ⟨w3, ew3, hw3⟩ := hr p ts[p] (by simp [hp])
      rw [h2] at ew3
      cases ew3
      have hσ : σ[i]? = some (some w2) := by
        rcases hw3 with ⟨i', h1, h2, _⟩ | ⟨h1, _⟩
        · rw [q2] at h1
          cases h1
          exact h2
        · exact absurd q2 (h1 i)
      have hil : i < env1.length := by rw [s1.len]; exact (List.getElem?_eq_some_iff.mp hσ).1
      have him := hio p i w
      have offi : ∀ a ∈ fi', ∀ j, j ≠ i → a ∉ fp1 j := fun a ha j hj z => by
        rcases g3.fresh a (.inl ha) with q | q
        · rcases q with q | q
          · exact hj (s1.one j i a z q)
          · exact d1 a q ⟨j, z⟩
        · exact (s1.alive a ⟨j, z⟩).1 q
      have offv2 : ∀ a ∈ fv, ∀ j, j ≠ i → a ∉ fp1 j := fun a ha j hj z => by
        rcases g3.fresh a (.inr ha) with q | q
        · rcases q with q | q
          · exact hj (s1.one j i a z q)
          · exact d1 a q ⟨j, z⟩
        · exact (s1.alive a ⟨j, z⟩).1 q
      -- the state without the slot, then with it again
      have sD : SR K ca F3 H2 σ (env1.set i none) (fpSet fp1 i []) := s1.drop.of_go g3 fun a ha z => by
        obtain ⟨j, hj⟩ := ha
        by_cases hji : j = i
        · subst hji; rw [fpSet_same] at hj; cases hj
        · rw [fpSet_ne hji] at hj
          rcases z with z | z
          · exact hji (s1.one j i a hj z)
          · exact d1 a z ⟨j, hj⟩
      have sP := sD.put (i := i) (t := u') (v := w2) (fv := fi') ⟨ru3, ndi, fun a ha ⟨j, hj⟩ => by
        by_cases hji : j = i
        · subst hji; rw [fpSet_same] at hj; cases hj
        · rw [fpSet_ne hji] at hj; exact offi a ha j hji hj⟩ (by rw [List.length_set]; exact hil)
      have e1' : σ.set i (some w2) = σ := List.ext_getElem? fun j => by
        by_cases hji : i = j
        · subst hji; rw [List.getElem?_set_self (by rw [← s1.len]; exact hil), hσ]
        · rw [List.getElem?_set_ne hji]
      have e2' : (env1.set i none).set i (some u') = env1.set i (some u') := List.set_set ..
      have e3' : fpSet (fpSet fp1 i []) i fi' = fpSet fp1 i fi' := funext fun j => by
        unfold fpSet
        split <;> rfl
      rw [e1', e2', e3'] at sP
      refine k v H2 F3 (fpSet fp1 i fi') fv ?_ ?_ sP ⟨rv3, ndv, fun a ha ⟨j, hj⟩ => ?_⟩
      · have g13 := ((g1.full k1).trans g3 (fun a z => z.elim (fun z => .inl ⟨i, z⟩) .inr) (P := fun a => Ow fp1 a ∨ a ∈ fi' ∨ a ∈ fv) fun a z => ?_)
        · refine ⟨g13.ext, g13.sub, fun b o eb n => ?_, fun b eb => ?_, fun b z => ?_⟩
          · -- what md does not own is kept
            have n1 : ¬ OwM md0 fp b := fun ⟨j, hj, hj2⟩ => n ⟨j, hm j hj, hj2⟩
            have h1b := g1.frame b o eb n1
            refine g3.frame b o h1b fun z => ?_
            rcases z with z | z
            · by_cases hmi : i ∈ md0
              · rcases g1.fresh b (.inl ⟨i, hmi, z⟩) with q | q
                · exact n1 q
                · rw [q] at eb; cases eb
              · rw [k1.fp i hmi] at z
                exact n ⟨i, him, z⟩
            · rcases g1.fresh b (.inr z) with q | q
              · exact n1 q
              · rw [q] at eb; cases eb
          · rcases g3.nofz b eb with q | q | q
            · rcases g1.nofz b q with q | q | q
              · exact .inl q
              · exact .inr (.inl (let ⟨j, hj, hj2⟩ := q; ⟨j, hm j hj, hj2⟩))
              · exact .inr (.inr q)
            · rcases q with z | z
              · by_cases hmi : i ∈ md0
                · rcases g1.fresh b (.inl ⟨i, hmi, z⟩) with q | q
                  · exact .inr (.inl (let ⟨j, hj, hj2⟩ := q; ⟨j, hm j hj, hj2⟩))
                  · exact .inr (.inr q)
                · rw [k1.fp i hmi] at z
                  exact .inr (.inl ⟨i, him, z⟩)
              · rcases g1.fresh b (.inr z) with q | q
                · exact .inr (.inl (let ⟨j, hj, hj2⟩ := q; ⟨j, hm j hj, hj2⟩))
                · exact .inr (.inr q)
            · cases wH : H b with
              | none => exact .inr (.inr rfl)
              | some o =>
                by_cases n1 : OwM md0 fp b
                · exact .inr (.inl (let ⟨j, hj, hj2⟩ := n1; ⟨j, hm j hj, hj2⟩))
                · rw [g1.frame b o wH n1] at q; cases q
          · have back1 : ∀ b, (b ∈ fp1 i ∨ b ∈ ft) ∨ H1 b = none → OwM md fp b ∨ H b = none := fun b z => by
              rcases z with (z | z) | z
              · by_cases hmi : i ∈ md0
                · exact (g1.fresh b (.inl ⟨i, hmi, z⟩)).imp (fun ⟨j, hj, hj2⟩ => ⟨j, hm j hj, hj2⟩) id
                · rw [k1.fp i hmi] at z
                  exact .inl ⟨i, him, z⟩
              · exact (g1.fresh b (.inr z)).imp (fun ⟨j, hj, hj2⟩ => ⟨j, hm j hj, hj2⟩) id
              · cases wH : H b with
                | none => exact .inr rfl
                | some o =>
                  by_cases n1 : OwM md0 fp b
                  · exact .inl (let ⟨j, hj, hj2⟩ := n1; ⟨j, hm j hj, hj2⟩)
                  · rw [g1.frame b o wH n1] at z; cases z
            rcases z with ⟨j, hj, hj2⟩ | z
            · by_cases hji : j = i
              · subst hji
                rw [fpSet_same] at hj2
                exact back1 b (g3.fresh b (.inl hj2))
              · rw [fpSet_ne hji] at hj2
                by_cases hmj : j ∈ md0
                · exact (g1.fresh b (.inl ⟨j, hmj, hj2⟩)).imp (fun ⟨j, hj, hj2⟩ => ⟨j, hm j hj, hj2⟩) id
                · rw [k1.fp j hmj] at hj2
                  exact .inl ⟨j, hj, hj2⟩
            · exact back1 b (g3.fresh b (.inr z))
        · rcases z with z | z | z
          · exact .inr (.inl z)
          · exact .inl (.inl z)
          · exact .inl (.inr z)
      · refine ⟨fun j hj => ?_, fun j hj => ?_⟩
        · have hji : j ≠ i := fun z => hj (by rw [z]; exact him)
          rw [fpSet_ne hji]
          exact k1.fp j fun z => hj (hm j z)
        · have hji : i ≠ j := fun z => hj (by rw [← z]; exact him)
          rw [List.getElem?_set_ne hji]
          exact k1.env j fun z => hj (hm j z)
      · by_cases hji : j = i
        · subst hji; rw [fpSet_same] at hj; exact offv a ha hj
        · rw [fpSet_ne hji] at hj; exact offv2 a ha j hji hj
end
end QL
namespace QL
open PySem L2

theorem PEm {X : Cx} {e : Expr} {t t' : TE} (h : PE X e t) (m : ∀ σ H Q, t' σ H Q → t σ H Q) : PE X e t' := ⟨fun pins s σ H Q I q => h.run pins s σ H Q I (m σ H Q q)⟩
theorem PTm {X : Cx} {e : Expr} {t t' : TT} (h : PT X e t) (m : ∀ σ H Q, t' σ H Q → t σ H Q) : PT X e t' := ⟨fun pins s σ H Q I q => h.run pins s σ H Q I (m σ H Q q)⟩
theorem PWm {X : Cx} {e : Expr} {t t' : TT} (h : PW X e t) (m : ∀ σ H Q, t' σ H Q → t σ H Q) : PW X e t' := ⟨fun w pins s σ H Q I q => h.run w pins s σ H Q I (m σ H Q q)⟩
theorem PAm {X : Cx} {e : List Expr} {t t' : TA} (h : PA X e t) (m : ∀ σ H Q, t' σ H Q → t σ H Q) : PA X e t' := ⟨fun pos pins s σ H Q I q => h.run pos pins s σ H Q I (m σ H Q q)⟩
theorem PSm {X : Cx} {e : Stmt} {t t' : TS} (h : PS X e t) (m : ∀ D σ H, t' D σ H → t D σ H) : PS X e t' := ⟨fun pins s σ H D I q => h.run pins s σ H D I (m D σ H q)⟩
theorem PSsm {X : Cx} {e : List Stmt} {t t' : TS} (h : PSs X e t) (m : ∀ D σ H, t' D σ H → t D σ H) : PSs X e t' := ⟨fun pins s σ H D I q => h.run pins s σ H D I (m D σ H q)⟩
theorem PGm {X : Cx} {e : Expr} {t t' : TG} (h : PG X e t) (m : ∀ v σ H Q, t' v σ H Q → t v σ H Q) : PG X e t' := ⟨fun pins s σ H v u Q I r q => h.run pins s σ H v u Q I r (m v σ H Q q)⟩
theorem PGsm {X : Cx} {e : List Expr} {t t' : TGs} (h : PGs X e t) (m : ∀ v σ H Q, t' v σ H Q → t v σ H Q) : PGs X e t' := ⟨fun pins s σ H v u Q I r q => h.run pins s σ H v u Q I r (m v σ H Q q)⟩
theorem PIm {X : Cx} {g e : Expr} {t t' : TI} (h : PI X g e t) (m : ∀ σ H Q, t' σ H Q → t σ H Q) : PI X g e t' := ⟨fun pins s σ H Q I q => h.run pins s σ H Q I (m σ H Q q)⟩
theorem PTsm {X : Cx} {e : List Expr} {t t' : TT} (h : PTs X e t) (m : ∀ σ H Q, t' σ H Q → t σ H Q) : PTs X e t' := ⟨fun pins s σ H Q I q => h.run pins s σ H Q I (m σ H Q q)⟩

section
variable {K : PySem.W.Frag} {ca : Ca} {F F' F1 H H' H1 : Hp} {O O' : Addr → Prop} {σ : St} {env : En} {fp : Fp} {t : T} {v : V} {fv : List Addr} {ts : List T} {vs : List V} {md : List Nat}

theorem TEof.mono {f : EM} {Q Q' : VK} (h : TEof K ca md f σ H Q) (m : ∀ v H, Q v H → Q' v H) : TEof K ca md f σ H Q' := by
  obtain ⟨F, env, fp, t, env', s, e, k⟩ := h
  exact ⟨F, env, fp, t, env', s, e, fun v H1 F1 fp1 fv g kp s1 tm => m _ _ (k v H1 F1 fp1 fv g kp s1 tm)⟩
theorem TBof.mono {f : BM} {Q Q' : VK} (h : TBof K ca md f σ H Q) (m : ∀ v H, Q v H → Q' v H) : TBof K ca md f σ H Q' := by
  obtain ⟨F, env, fp, t, env', s, e, k⟩ := h
  exact ⟨F, env, fp, t, env', s, e, fun v H1 F1 fp1 fv g kp s1 o n d => m _ _ (k v H1 F1 fp1 fv g kp s1 o n d)⟩
theorem TAof.mono {f : AM} {Q Q' : List V → Hp → Prop} (h : TAof K ca md f σ H Q) (m : ∀ v H, Q v H → Q' v H) : TAof K ca md f σ H Q' := by
  obtain ⟨F, env, fp, t, env', s, e, k⟩ := h
  exact ⟨F, env, fp, t, env', s, e, fun v H1 F1 fp1 fv g kp s1 o n d => m _ _ (k v H1 F1 fp1 fv g kp s1 o n d)⟩

def eVar (i : Nat) : EM := fun env => match env[i]? with
  | some (some t) => do
    let _ ← ck (!t.ow)
    .ok (t, env)
  | _ => stk
theorem te_var {i : Nat} {Q : VK} (h : TEof K ca md (eVar i) σ H Q) : tVar i σ H Q := by
  obtain ⟨F, env, fp, t, env', s, e, k⟩ := h
  unfold eVar at e
  split at e
  case h_2 => cases e
  case h_1 u eu =>
    obtain ⟨_, c, e⟩ := bind_ok e
    cases e
    obtain ⟨v, e1, r⟩ := s.slot i t eu
    have hf := Rep.pure_fp t (by simpa using ck_ok c) r
    rw [hf] at r
    exact ⟨v, e1, k v H F fp [] (Go.refl s.sub fun b z => z.elim id (fun z => nomatch z)) Keep.refl s ⟨r, List.nodup_nil, fun _ z => nomatch z⟩⟩
/-- the slot is given up -/
def eMv (i : Nat) : EM := fun env => match env[i]? with
  | some (some t) => .ok (t, env.set i none)
  | _ => stk
theorem te_mv {i : Nat} {Q : VK} (hi : i ∈ md) (h : TEof K ca md (eMv i) σ H Q) : tVar i σ H Q := by
  obtain ⟨F, env, fp, t, env', s, e, k⟩ := h
  unfold eMv at e
  split at e
  case h_2 => cases e
  case h_1 u eu =>
    cases e
    obtain ⟨v, e1, r⟩ := s.slot i t eu
    refine ⟨v, e1, k v H F (fpSet fp i []) (fp i) (Go.refl s.sub fun b z => ?_) ⟨fun j hj => fpSet_ne fun z => hj (by rw [z]; exact hi), fun j hj => List.getElem?_set_ne fun z => hj (by rw [← z]; exact hi)⟩ s.drop ⟨r, s.nd i, fun a ha z => ?_⟩⟩
    · rcases z with ⟨j, hj, hj2⟩ | z
      · by_cases w : j = i
        · subst w; rw [fpSet_same] at hj2; cases hj2
        · rw [fpSet_ne w] at hj2; exact ⟨j, hj, hj2⟩
      · exact ⟨i, hi, z⟩
    · obtain ⟨j, hj⟩ := z
      by_cases w : j = i
      · subst w; rw [fpSet_same] at hj; cases hj
      · rw [fpSet_ne w] at hj; exact w (s.one j i a hj ha)
open Classical in
/-- the slot is frozen -/
def eFz (i : Nat) : EM := fun env => match env[i]? with
  | some (some t) => do
    let _ ← ck t.nob
    .ok (t.fz, env.set i (some t.fz))
  | _ => stk
open Classical in
theorem te_fz {i : Nat} {Q : VK} (hi : i ∈ md) (h : TEof K ca md (eFz i) σ H Q) : tVar i σ H Q := by
  obtain ⟨F, env, fp, t, env', s, e, k⟩ := h
  unfold eFz at e
  split at e
  case h_2 => cases e
  case h_1 u eu =>
    obtain ⟨_, c, e⟩ := bind_ok e
    cases e
    obtain ⟨v, e1, r⟩ := s.slot i u eu
    have view : ∃ Fv : Hp, (∀ a, a ∈ fp i → Fv a = H a) ∧ (∀ a, a ∉ fp i → Fv a = F a) := ⟨fun a => if a ∈ fp i then H a else F a, fun a z => if_pos z, fun a z => if_neg z⟩
    obtain ⟨Fv, v1, v2⟩ := view
    have sv : Sub F Fv := fun a o ea => by
      by_cases z : a ∈ fp i
      · rw [v1 a z]; exact s.sub a o ea
      · rw [v2 a z]; exact ea
    have svH : Sub Fv H := fun a o ea => by
      by_cases z : a ∈ fp i
      · rw [v1 a z] at ea; exact ea
      · rw [v2 a z] at ea; exact s.sub a o ea
    have g : Go F H (· ∈ fp i) Fv H (fun _ => False) := ⟨sv, svH, fun _ _ e _ => e, fun b e => by
      by_cases z : b ∈ fp i
      · exact .inr (.inl z)
      · rw [v2 b z] at e; exact .inl e, fun _ z => z.elim⟩
    have rv := Rep.frz (H' := H) sv u (ck_ok c) r v1
    have sD : SR K ca Fv H σ (env.set i none) (fpSet fp i []) := s.drop.of_go g fun a ⟨j, hj⟩ z => by
      by_cases w : j = i
      · subst w; rw [fpSet_same] at hj; cases hj
      · rw [fpSet_ne w] at hj; exact w (s.one j i a hj z)
    have hil : i < env.length := (List.getElem?_eq_some_iff.mp eu).1
    have sP := sD.put (i := i) (t := u.fz) (v := v) (fv := []) ⟨rv, List.nodup_nil, fun _ z => nomatch z⟩ (by rw [List.length_set]; exact hil)
    have e1' : σ.set i (some v) = σ := List.ext_getElem? fun j => by
      by_cases hji : i = j
      · subst hji; rw [List.getElem?_set_self (by rw [← s.len]; exact hil), e1]
      · rw [List.getElem?_set_ne hji]
    have e2' : (env.set i none).set i (some u.fz) = env.set i (some u.fz) := List.set_set ..
    have e3' : fpSet (fpSet fp i []) i [] = fpSet fp i [] := funext fun j => by
      unfold fpSet
      split <;> rfl
    rw [e1', e2', e3'] at sP
    refine ⟨v, e1, k v H Fv (fpSet fp i []) [] ⟨sv, svH, fun _ _ e _ => e, fun b e => (g.nofz b e).imp id (Or.imp (fun z => ⟨i, hi, z⟩) id), fun b z => ?_⟩ ⟨fun j hj => fpSet_ne fun z => hj (by rw [z]; exact hi), fun j hj => List.getElem?_set_ne fun z => hj (by rw [← z]; exact hi)⟩ sP ⟨rv, List.nodup_nil, fun _ z => nomatch z⟩⟩
    rcases z with ⟨j, hj, hj2⟩ | z
    · by_cases w : j = i
      · subst w; rw [fpSet_same] at hj2; cases hj2
      · rw [fpSet_ne w] at hj2; exact .inl ⟨j, hj, hj2⟩
    · cases z
/-- the slot's value, frozen where it is owned -/
def eAl (i : Nat) : EM := fun env => match env[i]? with
  | some (some t) => if t.ow then eFz i env else .ok (t, env)
  | _ => stk
theorem te_al {i : Nat} {Q : VK} (hi : i ∈ md) (h : TEof K ca md (eAl i) σ H Q) : tVar i σ H Q := by
  obtain ⟨F, env, fp, t, env', s, e, k⟩ := h
  have e0 := e
  unfold eAl at e
  split at e
  case h_2 => cases e
  case h_1 u eu =>
    split at e
    · exact te_fz hi ⟨F, env, fp, t, env', s, e, k⟩
    · rename_i how
      refine te_var ⟨F, env, fp, t, env', s, ?_, k⟩
      unfold eVar
      rw [eu]
      have : u.ow = false := by simpa using how
      simp only [this, Bool.not_false]
      exact e
def eC (t : T) : EM := fun env => .ok (t, env)
theorem te_c {Q : VK} (hr : ∀ F H, Rep K ca F H t v []) (h : TEof K ca md (eC t) σ H Q) : tC v σ H Q := by
  obtain ⟨F, env, fp, t, env', s, e, k⟩ := h
  cases e
  exact k v H F fp [] (Go.refl s.sub fun b z => z.elim id (fun z => nomatch z)) Keep.refl s ⟨hr F H, List.nodup_nil, fun _ z => nomatch z⟩

def tmps : List Bop → R (List T)
  | [] => .ok []
  | .tmp t :: bs => do
    let ts ← tmps bs
    .ok (t :: ts)
  | _ => stk
theorem Ops.tmps : ∀ {bs : List Bop} {vs : List V} {ft : List Addr} {ts : List T}, Ops K ca md F H σ fp bs vs ft → QL.tmps bs = .ok ts → Reps K ca F H ts vs ft
  | [], _, _, _, h, e => by
    cases e
    simp only [Ops] at h
    simp only [Reps]
    exact h
  | .tmp t :: bs, _, _, _, h, e => by
    obtain ⟨ts, e1, e⟩ := bind_ok (show (QL.tmps bs >>= fun ts => Except.ok (t :: ts)) = _ from e)
    cases e
    simp only [Ops] at h
    obtain ⟨v, us, f, g, h1, h2, h3, h4⟩ := h
    simp only [Reps]
    exact ⟨v, us, f, g, h1, h2, Ops.tmps h3 e1, h4⟩
  | .br t i :: bs, _, _, _, h, e => by cases e
  | .io i :: bs, _, _, _, h, e => by cases e
def eTup (f : AM) : EM := fun env => do
  let (bs, env1) ← f env
  let ts ← tmps bs
  let _ ← ck (decide (ts.length ≤ big))
  .ok (.tup ts, env1)
theorem te_tup {f : AM} {Q : VK} (h : TEof K ca md (eTup f) σ H Q) : tTup (TAof K ca md f) σ H Q := by
  obtain ⟨F, env, fp, t, env', s, e, k⟩ := h
  obtain ⟨⟨bs, env1⟩, e1, e⟩ := bind_ok e
  obtain ⟨ts, e2, e⟩ := bind_ok e
  obtain ⟨_, c, e⟩ := bind_ok e
  have c := of_decide_eq_true (ck_ok c)
  cases e
  refine ⟨F, env, fp, bs, env', s, e1, fun vs H1 F1 fp1 ft g1 k1 s1 o1 n1 d1 => ?_⟩
  have r := o1.tmps e2
  refine ⟨by rw [Reps.length r]; exact big_le c, fun p hp => ?_⟩
  have g2 : Go F1 H1 (fun _ => False) (upd F1 p (.tup vs)) (upd H1 p (.tup vs)) (fun _ => False) := Go.newF s1.sub hp fun _ z => z.elim
  refine k (.ref p) _ _ fp1 ft (g1.trans g2 (fun _ z => z.elim) fun a z => .inr z) k1 (s1.of_go g2 fun _ _ z => z) ⟨?_, n1, d1⟩
  simp only [Rep]
  exact ⟨p, vs, rfl, SqT.of upd_same, r.of_go g2 fun _ _ z => z⟩
def eLst (f : AM) : EM := fun env => do
  let (bs, env1) ← f env
  let ts ← tmps bs
  let _ ← ck (decide (ts.length ≤ big))
  .ok (.lst true ts, env1)
theorem none_of_sub {p : Addr} (s : Sub F H) (h : H p = none) : F p = none := by
  cases w : F p with
  | none => rfl
  | some o => rw [s p o w] at h; cases h
theorem te_lst {f : AM} {Q : VK} (h : TEof K ca md (eLst f) σ H Q) : tLst (TAof K ca md f) σ H Q := by
  obtain ⟨F, env, fp, t, env', s, e, k⟩ := h
  obtain ⟨⟨bs, env1⟩, e1, e⟩ := bind_ok e
  obtain ⟨ts, e2, e⟩ := bind_ok e
  obtain ⟨_, c, e⟩ := bind_ok e
  have c := of_decide_eq_true (ck_ok c)
  cases e
  refine ⟨F, env, fp, bs, env', s, e1, fun vs H1 F1 fp1 ft g1 k1 s1 o1 n1 d1 => ?_⟩
  have r := o1.tmps e2
  refine ⟨by rw [Reps.length r]; exact big_le c, fun p hp => ?_⟩
  have g2 : Go F1 H1 (fun _ => False) F1 (upd H1 p (.lst vs)) (· = p) := Go.newO s1.sub hp fun b z => .inr (by rw [z]; exact hp)
  have pft : p ∉ ft := fun z => (o1.alive p z).1 hp
  have pfp : ¬ Ow fp1 p := fun z => (s1.alive p z).1 hp
  refine k (.ref p) _ _ fp1 (p :: ft) (g1.trans g2 (fun _ z => z.elim) fun a z => ?_) k1 (s1.of_go g2 fun _ _ z => z) ⟨?_, List.nodup_cons.mpr ⟨pft, n1⟩, fun a ha => ?_⟩
  · rcases z with z | z
    · exact .inr (.inl z)
    · rcases List.mem_cons.mp z with z | z
      · exact .inl z
      · exact .inr (.inr z)
  · simp only [Rep]
    exact ⟨p, vs, ft, rfl, upd_same, none_of_sub s1.sub hp, r.of_go g2 fun _ _ z => z, rfl⟩
  · rcases List.mem_cons.mp ha with rfl | ha
    · exact pfp
    · exact d1 a ha
def eIf (c : En → R (Bool × En)) (f g : EM) : EM := fun env => do
  let (b, env1) ← c env
  if b then f env1 else g env1
theorem TEof.later {x : EM} {Q : VK} {F1 : Hp} {fp1 : Fp} {env1 env' : En} (g1 : Go F H (OwM md fp) F1 H1 (OwM md fp1)) (k1 : Keep md env fp env1 fp1) (s1 : SR K ca F1 H1 σ env1 fp1) (ex : x env1 = .ok (t, env'))
    (k : ∀ v H' F' fp' fv, Go F H (OwM md fp) F' H' (fun a => OwM md fp' a ∨ a ∈ fv) → Keep md env fp env' fp' → SR K ca F' H' σ env' fp' → Tm K ca F' H' fp' t v fv → Q v H') : TEof K ca md x σ H1 Q :=
  ⟨F1, env1, fp1, t, env', s1, ex, fun v H2 F2 fp2 fv g2 k2 s2 m => k v H2 F2 fp2 fv (g1.trans g2 (fun _ z => z) fun _ z => .inl z) (k1.trans k2) s2 m⟩
theorem te_if {c : En → R (Bool × En)} {f g : EM} {Q : VK} (h : TEof K ca md (eIf c f g) σ H Q) : tIf (TTof K ca md c) (TEof K ca md f) (TEof K ca md g) σ H Q := by
  obtain ⟨F, env, fp, t, env', s, e, k⟩ := h
  obtain ⟨⟨b, env1⟩, e1, e⟩ := bind_ok e
  refine ⟨F, env, fp, b, env1, s, e1, fun H1 F1 fp1 g1 k1 s1 => ?_⟩
  cases b with
  | true => exact TEof.later g1 k1 s1 e k
  | false => exact TEof.later g1 k1 s1 e k
/-- a value that is True or False -/
def toB : T → R Bool
  | .bl b => .ok b
  | _ => stk
theorem toB_ok {b : Bool} (h : toB t = .ok b) : t = .bl b := by
  cases t <;> first | (cases h; rfl) | cases h
theorem Tm.bl {b : Bool} (m : Tm K ca F H fp (.bl b) v fv) : v = .bl b ∧ fv = [] := by
  have := m.rep
  simpa only [Rep] using this
theorem Go.nilr {O P : Addr → Prop} (g : Go F H O F' H' (fun a => P a ∨ a ∈ ([] : List Addr))) : Go F H O F' H' P := g.weak (fun _ z => z) fun _ z => .inl z
def eAnd (f g : EM) : EM := fun env => do
  let (t, env1) ← f env
  let b ← toB t
  if b then g env1 else .ok (.bl false, env1)
theorem te_and {f g : EM} {Q : VK} (h : TEof K ca md (eAnd f g) σ H Q) : tAndV (TEof K ca md f) (TEof K ca md g) σ H Q := by
  obtain ⟨F, env, fp, t, env', s, e, k⟩ := h
  obtain ⟨⟨u, env1⟩, e1, e⟩ := bind_ok e
  obtain ⟨b, e2, e⟩ := bind_ok e
  have := toB_ok e2
  subst this
  refine ⟨F, env, fp, _, env1, s, e1, fun v H1 F1 fp1 fv g1 k1 s1 m => ?_⟩
  obtain ⟨rfl, rfl⟩ := m.bl
  refine ⟨b, rfl, ?_⟩
  cases b with
  | true => exact TEof.later g1.nilr k1 s1 e k
  | false =>
    cases e
    exact k _ H1 F1 fp1 [] g1 k1 s1 m
def eOr (f g : EM) : EM := fun env => do
  let (t, env1) ← f env
  let b ← toB t
  if b then .ok (.bl true, env1) else g env1
theorem te_or {f g : EM} {Q : VK} (h : TEof K ca md (eOr f g) σ H Q) : tOrV (TEof K ca md f) (TEof K ca md g) σ H Q := by
  obtain ⟨F, env, fp, t, env', s, e, k⟩ := h
  obtain ⟨⟨u, env1⟩, e1, e⟩ := bind_ok e
  obtain ⟨b, e2, e⟩ := bind_ok e
  have := toB_ok e2
  subst this
  refine ⟨F, env, fp, _, env1, s, e1, fun v H1 F1 fp1 fv g1 k1 s1 m => ?_⟩
  obtain ⟨rfl, rfl⟩ := m.bl
  refine ⟨b, rfl, ?_⟩
  cases b with
  | false => exact TEof.later g1.nilr k1 s1 e k
  | true =>
    cases e
    exact k _ H1 F1 fp1 [] g1 k1 s1 m
def eNot (f : EM) : EM := fun env => do
  let (t, env1) ← f env
  let b ← toB t
  .ok (.bl (!b), env1)
theorem te_not {f : EM} {Q : VK} (h : TEof K ca md (eNot f) σ H Q) : tNotV (TEof K ca md f) σ H Q := by
  obtain ⟨F, env, fp, t, env', s, e, k⟩ := h
  obtain ⟨⟨u, env1⟩, e1, e⟩ := bind_ok e
  obtain ⟨b, e2, e⟩ := bind_ok e
  have := toB_ok e2
  subst this
  cases e
  refine ⟨F, env, fp, _, env', s, e1, fun v H1 F1 fp1 fv g1 k1 s1 m => ?_⟩
  obtain ⟨rfl, rfl⟩ := m.bl
  exact ⟨b, rfl, k _ H1 F1 fp1 [] g1 k1 s1 ⟨by simp only [Rep]; trivial, List.nodup_nil, fun _ z => nomatch z⟩⟩
abbrev BT := En → R (Bool × En)
def tV (f : EM) : BT := fun env => do
  let (t, env1) ← f env
  let b ← toB t
  .ok (b, env1)
theorem tt_v {f : EM} {Q : Bool → Hp → Prop} (h : TTof K ca md (tV f) σ H Q) : TEof K ca md f σ H (fun x H1 => ∃ c, x = .bl c ∧ Q c H1) := by
  obtain ⟨F, env, fp, t, env', s, e, k⟩ := h
  obtain ⟨⟨u, env1⟩, e1, e⟩ := bind_ok e
  obtain ⟨b, e2, e⟩ := bind_ok e
  have := toB_ok e2
  subst this
  cases e
  refine ⟨F, env, fp, _, env', s, e1, fun v H1 F1 fp1 fv g1 k1 s1 m => ?_⟩
  obtain ⟨rfl, rfl⟩ := m.bl
  exact ⟨_, rfl, k H1 F1 fp1 g1.nilr k1 s1⟩
def tAndS (c d : BT) : BT := fun env => do
  let (b, env1) ← c env
  if b then d env1 else .ok (false, env1)
def tOrS (c d : BT) : BT := fun env => do
  let (b, env1) ← c env
  if b then .ok (true, env1) else d env1
def tNotS (c : BT) : BT := fun env => do
  let (b, env1) ← c env
  .ok (!b, env1)
theorem tt_and {c d : BT} {Q : Bool → Hp → Prop} (h : TTof K ca md (tAndS c d) σ H Q) : L2.tAnd (TTof K ca md c) (TTof K ca md d) σ H Q := by
  obtain ⟨F, env, fp, b, env', s, e, k⟩ := h
  obtain ⟨⟨b1, env1⟩, e1, e⟩ := bind_ok e
  refine ⟨F, env, fp, b1, env1, s, e1, fun H1 F1 fp1 g1 k1 s1 => ?_⟩
  cases b1 with
  | true => exact ⟨F1, env1, fp1, b, env', s1, e, fun H2 F2 fp2 g2 k2 s2 => k H2 F2 fp2 (g1.trans g2 (fun _ z => z) fun _ z => .inl z) (k1.trans k2) s2⟩
  | false =>
    cases e
    exact k H1 F1 fp1 g1 k1 s1
theorem tt_or {c d : BT} {Q : Bool → Hp → Prop} (h : TTof K ca md (tOrS c d) σ H Q) : L2.tOr (TTof K ca md c) (TTof K ca md d) σ H Q := by
  obtain ⟨F, env, fp, b, env', s, e, k⟩ := h
  obtain ⟨⟨b1, env1⟩, e1, e⟩ := bind_ok e
  refine ⟨F, env, fp, b1, env1, s, e1, fun H1 F1 fp1 g1 k1 s1 => ?_⟩
  cases b1 with
  | false => exact ⟨F1, env1, fp1, b, env', s1, e, fun H2 F2 fp2 g2 k2 s2 => k H2 F2 fp2 (g1.trans g2 (fun _ z => z) fun _ z => .inl z) (k1.trans k2) s2⟩
  | true =>
    cases e
    exact k H1 F1 fp1 g1 k1 s1
theorem tt_not {c : BT} {Q : Bool → Hp → Prop} (h : TTof K ca md (tNotS c) σ H Q) : L2.tNot (TTof K ca md c) σ H Q := by
  obtain ⟨F, env, fp, b, env', s, e, k⟩ := h
  obtain ⟨⟨b1, env1⟩, e1, e⟩ := bind_ok e
  cases e
  exact ⟨F, env, fp, b1, env', s, e1, fun H1 F1 fp1 g1 k1 s1 => k H1 F1 fp1 g1 k1 s1⟩
theorem ta_two {f g : BM} {r : R2} {Q : VK} (h : TAof K ca md (aCons f (aCons g aNil)) σ H (fun vs H1 => ∃ x y, vs = [x, y] ∧ r x y H1 Q)) : tOp r (TBof K ca md f) (TBof K ca md g) σ H Q := by
  refine (ta_cons h : TBof K ca md f σ H _).mono fun x H1 h1 => ?_
  refine (ta_cons h1 : TBof K ca md g σ H1 _).mono fun y H2 h2 => ?_
  obtain ⟨x', y', e, q⟩ := (ta_nil h2 : _)
  cases e
  exact q
theorem ta_one {f : BM} {r : V → Hp → VK → Prop} {Q : VK} (h : TAof K ca md (aCons f aNil) σ H (fun vs H1 => ∃ x, vs = [x] ∧ r x H1 Q)) : tUn r (TBof K ca md f) σ H Q := by
  refine (ta_cons h : TBof K ca md f σ H _).mono fun x H1 h1 => ?_
  obtain ⟨x', e, q⟩ := (ta_nil h1 : _)
  cases e
  exact q
/-- an operation of two values -/
def OpS (K : PySem.W.Frag) (ca : Ca) (r : R2) (o : List T → R T) : Prop := CallS K ca (fun vs H Q => ∃ x y, vs = [x, y] ∧ r x y H Q) o
def UnS (K : PySem.W.Frag) (ca : Ca) (r : V → Hp → VK → Prop) (o : List T → R T) : Prop := CallS K ca (fun vs H Q => ∃ x, vs = [x] ∧ r x H Q) o
theorem te_op2 {f g : BM} {r : R2} {o : List T → R T} {Q : VK} (ho : OpS K ca r o) (h : TEof K ca md (eOp o (aCons f (aCons g aNil))) σ H Q) : tOp r (TBof K ca md f) (TBof K ca md g) σ H Q := ta_two (te_op ho h)
theorem te_op1 {f : BM} {r : V → Hp → VK → Prop} {o : List T → R T} {Q : VK} (ho : UnS K ca r o) (h : TEof K ca md (eOp o (aCons f aNil)) σ H Q) : tUn r (TBof K ca md f) σ H Q := ta_one (te_op ho h)
/-- a < b < c, of ints -/
def toI : T → R Int
  | .int i => .ok i
  | _ => stk
theorem toI_ok {i : Int} (h : toI t = .ok i) : t = .int i := by
  cases t <;> first | (cases h; rfl) | cases h
theorem Tm.int {i : Int} (m : Tm K ca F H fp (.int i) v fv) : v = .int i ∧ fv = [] := by
  have := m.rep
  simpa only [Rep] using this
def eChain (p q : Int → Int → Bool) (f g h : EM) : EM := fun env => do
  let (x, env1) ← f env
  let (y, env2) ← g env1
  let i ← toI x
  let j ← toI y
  if p i j then do
    let (z, env3) ← h env2
    let l ← toI z
    .ok (.bl (q j l), env3)
  else .ok (.bl false, env2)
theorem te_chain {p q : Int → Int → Bool} {f g h : EM} {Q : VK} (hh : TEof K ca md (eChain p q f g h) σ H Q) :
    tChain (rI0 fun i j => .bl (p i j)) (rI0 fun i j => .bl (q i j)) (TEof K ca md f) (TEof K ca md g) (TEof K ca md h) σ H Q := by
  obtain ⟨F, env, fp, t, env', s, e, k⟩ := hh
  obtain ⟨⟨x, env1⟩, e1, ea⟩ := bind_ok e
  obtain ⟨⟨y, env2⟩, e2, eb⟩ := bind_ok ea
  obtain ⟨i, e3, ec⟩ := bind_ok eb
  obtain ⟨j, e4, ed⟩ := bind_ok ec
  clear e ea eb ec
  have := toI_ok e3
  subst this
  have := toI_ok e4
  subst this
  refine ⟨F, env, fp, _, env1, s, e1, fun v1 H1 F1 fp1 fv1 g1 k1 s1 m1 => ?_⟩
  obtain ⟨rfl, rfl⟩ := m1.int
  refine ⟨F1, env1, fp1, _, env2, s1, e2, fun v2 H2 F2 fp2 fv2 g2 k2 s2 m2 => ?_⟩
  obtain ⟨rfl, rfl⟩ := m2.int
  have g12 := g1.nilr.trans g2.nilr (fun _ z => z) (P := OwM md fp2) fun _ z => .inl z
  refine ⟨i, j, rfl, rfl, p i j, rfl, ?_⟩
  cases hp : p i j with
  | true =>
    rw [hp] at ed
    obtain ⟨⟨z, env3⟩, e5, e6⟩ := bind_ok (show (h env2 >>= fun w => match w with
      | (z, env3) => toI z >>= fun l => Except.ok (T.bl (q j l), env3)) = .ok (t, env') from ed)
    obtain ⟨l, e7, e8⟩ := bind_ok e6
    have := toI_ok e7
    subst this
    cases e8
    refine ⟨F2, env2, fp2, _, env', s2, e5, fun v3 H3 F3 fp3 fv3 g3 k3 s3 m3 => ?_⟩
    obtain ⟨rfl, rfl⟩ := m3.int
    exact ⟨j, l, rfl, rfl, k _ H3 F3 fp3 [] (g12.trans g3 (fun _ z => z) fun _ z => .inl z) ((k1.trans k2).trans k3) s3 ⟨by simp only [Rep]; trivial, List.nodup_nil, fun _ z => nomatch z⟩⟩
  | false =>
    rw [hp] at ed
    have e : Except.ok (T.bl false, env2) = Except.ok (t, env') := ed
    cases e
    exact k _ H2 F2 fp2 [] (g12.weak (fun _ z => z) fun _ z => z.elim id (fun w => nomatch w)) (k1.trans k2) s2 ⟨by simp only [Rep]; trivial, List.nodup_nil, fun _ z => nomatch z⟩
end
end QL
namespace QL
open PySem L2

section
variable {K : PySem.W.Frag} {ca : Ca} {F F' F1 H H' H1 : Hp} {O O' : Addr → Prop} {σ : St} {env : En} {fp : Fp} {t : T} {v : V} {fv : List Addr} {ts : List T} {vs : List V} {md : List Nat}

/-- a scalar handed back, the heap as it is -/
theorem give {Q : VK} {f : List Addr} {x : T} {u : V} (s : Sub F H) (r : ∀ F H, Rep K ca F H x u []) (q : ∀ v H' F' k, Go F H (· ∈ f) F' H' (· ∈ k) → Rep K ca F' H' x v k → k.Nodup → Q v H') : Q u H :=
  q u H F [] (Go.refl s fun _ z => nomatch z) (r F H) List.nodup_nil
theorem rep_int {i : Int} : Rep K ca F H (.int i) (.int i) [] := by simp only [Rep]; trivial
theorem rep_bl {i : Bool} : Rep K ca F H (.bl i) (.bl i) [] := by simp only [Rep]; trivial
theorem rep_str {i : Str} : Rep K ca F H (.str i) (.str i) [] := by simp only [Rep]; trivial
theorem rep_non : Rep K ca F H .non .non [] := by simp only [Rep]; trivial
theorem reps2 {a b : T} {vs : List V} {f : List Addr} (h : Reps K ca F H [a, b] vs f) : ∃ x y g k, vs = [x, y] ∧ Rep K ca F H a x g ∧ Rep K ca F H b y k ∧ f = g ++ k := by
  simp only [Reps] at h
  obtain ⟨v, us, f1, f2, rfl, r1, ⟨w, us2, f3, f4, rfl, r2, ⟨rfl, rfl⟩, rfl⟩, rfl⟩ := h
  exact ⟨v, w, f1, f3, rfl, r1, r2, by rw [List.append_nil]⟩
theorem reps1 {a : T} {vs : List V} {f : List Addr} (h : Reps K ca F H [a] vs f) : ∃ x, vs = [x] ∧ Rep K ca F H a x f := by
  simp only [Reps] at h
  obtain ⟨v, us, f1, f2, rfl, r1, ⟨rfl, rfl⟩, rfl⟩ := h
  exact ⟨v, rfl, by rw [List.append_nil]; exact r1⟩
theorem reps3 {a b c : T} {vs : List V} {f : List Addr} (h : Reps K ca F H [a, b, c] vs f) : ∃ x y z g k l, vs = [x, y, z] ∧ Rep K ca F H a x g ∧ Rep K ca F H b y k ∧ Rep K ca F H c z l ∧ f = g ++ (k ++ l) := by
  simp only [Reps] at h
  obtain ⟨v, us, f1, f2, rfl, r1, ⟨w, us2, f3, f4, rfl, r2, ⟨u, us3, f5, f6, rfl, r3, ⟨rfl, rfl⟩, rfl⟩, rfl⟩, rfl⟩ := h
  exact ⟨v, w, u, f1, f3, f5, rfl, r1, r2, r3, by simp⟩

/-- two ints -/
def iOp (C : Int → Int → Bool) (g : Int → Int → T) : List T → R T
  | [.int i, .int j] => do
    let _ ← ck (C i j)
    .ok (g i j)
  | _ => stk
theorem s_iOp {C : Int → Int → Prop} {C' : Int → Int → Bool} {g : Int → Int → V} {g' : Int → Int → T} (hC : ∀ i j, C' i j = true → C i j) (hg : ∀ i j F H, Rep K ca F H (g' i j) (g i j) []) : OpS K ca (rI C g) (iOp C' g') := by
  intro F H ts vs f t Q s r nd e q
  unfold iOp at e
  split at e
  case h_2 => cases e
  case h_1 i j =>
    obtain ⟨_, c, e⟩ := bind_ok e
    cases e
    obtain ⟨x, y, g1, g2, rfl, r1, r2, rfl⟩ := reps2 r
    simp only [Rep] at r1 r2
    obtain ⟨rfl, rfl⟩ := r1
    obtain ⟨rfl, rfl⟩ := r2
    exact ⟨_, _, rfl, i, j, rfl, rfl, hC i j (ck_ok c), give s (hg i j) q⟩
theorem s_iOp0 {g : Int → Int → V} {g' : Int → Int → T} (hg : ∀ i j F H, Rep K ca F H (g' i j) (g i j) []) : OpS K ca (rI0 g) (iOp (fun _ _ => true) g') := by
  intro F H ts vs f t Q s r nd e q
  obtain ⟨x, y, h1, i, j, h2, h3, _, h4⟩ := s_iOp (K := K) (ca := ca) (C := fun _ _ => True) (C' := fun _ _ => true) (fun _ _ _ => trivial) hg F H ts vs f t Q s r nd e q
  exact ⟨x, y, h1, i, j, h2, h3, h4⟩
abbrev oSub : List T → R T := iOp (fun _ _ => true) fun i j => .int (i - j)
abbrev oMulI : List T → R T := iOp (fun i j => decide (i.natAbs < 2 ^ 64) || decide (j.natAbs < 2 ^ 64)) fun i j => .int (i * j)
abbrev oFdiv : List T → R T := iOp (fun _ j => decide (0 < j) && decide (j < 1073741824)) fun i j => .int (i / j)
abbrev oMod : List T → R T := iOp (fun _ j => decide (0 < j)) fun i j => .int (i % j)
abbrev oPow : List T → R T := iOp (fun i j => decide (0 ≤ j) && (decide (j ≤ 1000) && decide (i.natAbs < 2 ^ 64))) fun i j => .int (i ^ j.toNat)
abbrev oLt : List T → R T := iOp (fun _ _ => true) fun i j => .bl (decide (i < j))
abbrev oLe : List T → R T := iOp (fun _ _ => true) fun i j => .bl (decide (i ≤ j))
abbrev oGt : List T → R T := iOp (fun _ _ => true) fun i j => .bl (decide (j < i))
abbrev oGe : List T → R T := iOp (fun _ _ => true) fun i j => .bl (decide (j ≤ i))
theorem s_sub : OpS K ca (rI0 fun i j => .int (i - j)) oSub := s_iOp0 fun _ _ _ _ => rep_int
theorem s_mulI : OpS K ca (rI CMul fun i j => .int (i * j)) oMulI := s_iOp (fun i j h => by
  simp only [Bool.or_eq_true, decide_eq_true_eq] at h
  unfold CMul
  omega) fun _ _ _ _ => rep_int
theorem s_fdiv : OpS K ca (rI CDiv fun i j => .int (i / j)) oFdiv := s_iOp (fun i j h => by
  simp only [Bool.and_eq_true, decide_eq_true_eq] at h
  exact h) fun _ _ _ _ => rep_int
theorem s_mod : OpS K ca (rI (fun _ j => 0 < j) fun i j => .int (i % j)) oMod := s_iOp (fun i j h => of_decide_eq_true h) fun _ _ _ _ => rep_int
theorem s_pow : OpS K ca (rI CPow fun i j => .int (i ^ j.toNat)) oPow := s_iOp (fun i j h => by
  simp only [Bool.and_eq_true, decide_eq_true_eq] at h
  exact ⟨h.1, by omega, h.2.2⟩) fun _ _ _ _ => rep_int
theorem s_lt : OpS K ca (rI0 fun i j => .bl (decide (i < j))) oLt := s_iOp0 fun _ _ _ _ => rep_bl
theorem s_le : OpS K ca (rI0 fun i j => .bl (decide (i ≤ j))) oLe := s_iOp0 fun _ _ _ _ => rep_bl
theorem s_gt : OpS K ca (rI0 fun i j => .bl (decide (j < i))) oGt := s_iOp0 fun _ _ _ _ => rep_bl
theorem s_ge : OpS K ca (rI0 fun i j => .bl (decide (j ≤ i))) oGe := s_iOp0 fun _ _ _ _ => rep_bl
def oNeg : List T → R T
  | [.int i] => .ok (.int (-i))
  | _ => stk
theorem s_neg : UnS K ca (rU fun i => .int (-i)) oNeg := by
  intro F H ts vs f t Q s r nd e q
  unfold oNeg at e
  split at e
  case h_2 => cases e
  case h_1 i =>
    cases e
    obtain ⟨x, rfl, r1⟩ := reps1 r
    simp only [Rep] at r1
    obtain ⟨rfl, rfl⟩ := r1
    exact ⟨_, rfl, i, rfl, give s (fun _ _ => rep_int) q⟩

theorem Rep.lst {o : Bool} {xs : List T} (s : Sub F H) (h : Rep K ca F H (.lst o xs) v fv) (n : fv.Nodup) : ∃ a us g, v = .ref a ∧ H a = some (.lst us) ∧ Reps K ca F H xs us g ∧ g.Nodup ∧ (∀ x ∈ g, x ∈ fv) ∧ ((o = true ∧ fv = a :: g ∧ F a = none) ∨ (o = false ∧ fv = [] ∧ g = [] ∧ F a = some (.lst us))) := by
  cases o with
  | true =>
    simp only [Rep] at h
    obtain ⟨a, us, g, h1, h2, h3, h4, h5⟩ := h
    subst h5
    exact ⟨a, us, g, h1, h2, h4, (List.nodup_cons.mp n).2, fun x hx => List.mem_cons_of_mem _ hx, .inl ⟨rfl, rfl, h3⟩⟩
  | false =>
    simp only [Rep] at h
    obtain ⟨a, us, h1, h2, h4, h5⟩ := h
    exact ⟨a, us, [], h1, s a _ h2, h4, List.nodup_nil, (fun _ z => absurd z (by simp)), .inr ⟨rfl, h5, rfl, h2⟩⟩
/-- the items of a list or tuple -/
def T.seq : T → Option (List T)
  | .lst _ xs => some xs
  | .lk xs => some xs
  | .tup xs => some xs
  | _ => none
theorem Rep.seq {xs : List T} (s : Sub F H) (h : Rep K ca F H t v fv) (n : fv.Nodup) (e : t.seq = some xs) : ∃ a us g, v = .ref a ∧ (SqL K H a us ∨ SqT K H a us) ∧ Reps K ca F H xs us g ∧ g.Nodup ∧ (∀ x ∈ g, x ∈ fv) := by
  cases t with
  | lst o ys =>
    cases e
    obtain ⟨a, us, g, h1, h2, h3, h4, h5, _⟩ := h.lst s n
    exact ⟨a, us, g, h1, .inl (SqL.of h2), h3, h4, h5⟩
  | lk ys =>
    cases e
    simp only [Rep] at h
    obtain ⟨a, us, h1, h2, h4, h5⟩ := h
    exact ⟨a, us, [], h1, .inl (s.sqL h2), h4, List.nodup_nil, (fun _ z => absurd z (by simp))⟩
  | tup ys =>
    cases e
    simp only [Rep] at h
    obtain ⟨a, us, h1, h2, h4⟩ := h
    exact ⟨a, us, fv, h1, .inr (s.sqT h2), h4, n, fun _ z => z⟩
  | _ => cases e
/-- the i-th item -/
theorem Reps.at {i : Nat} : ∀ {ts : List T} {us : List V} {f : List Addr} {i : Nat} {x : T}, Reps K ca F H ts us f → f.Nodup → ts[i]? = some x → ∃ u g, us[i]? = some u ∧ Rep K ca F H x u g ∧ g.Nodup ∧ ∀ a ∈ g, a ∈ f
  | [], _, _, _, _, _, _, e => by simp at e
  | t :: ts, _, _, i, x, h, n, e => by
    simp only [Reps] at h
    obtain ⟨v, us, f, g, rfl, r, rs, rfl⟩ := h
    have nn := List.nodup_append.mp n
    cases i with
    | zero =>
      simp only [List.getElem?_cons_zero, Option.some.injEq] at e ⊢
      subst e
      exact ⟨v, f, rfl, r, nn.1, fun a ha => List.mem_append_left _ ha⟩
    | succ i =>
      simp only [List.getElem?_cons_succ] at e ⊢
      obtain ⟨u, k, h1, h2, h3, h4⟩ := Reps.at (i := i) rs nn.2.1 e
      exact ⟨u, k, h1, h2, h3, fun a ha => List.mem_append_right _ (h4 a ha)⟩
/-- handed back as it stands -/
theorem keep {Q : VK} {f g : List Addr} {x : T} {u : V} (s : Sub F H) (r : Rep K ca F H x u g) (n : g.Nodup) (hg : ∀ a ∈ g, a ∈ f) (q : ∀ v H' F' k, Go F H (· ∈ f) F' H' (· ∈ k) → Rep K ca F' H' x v k → k.Nodup → Q v H') : Q u H :=
  q u H F g (Go.refl s hg) r n
/-- a new list of known items -/
theorem newLst {Q : VK} {f g : List Addr} {xs : List T} {us : List V} {p : Addr} (s : Sub F H) (hp : H p = none) (r : Reps K ca F H xs us g) (n : g.Nodup) (hg : ∀ a ∈ g, a ∈ f) (q : ∀ v H' F' k, Go F H (· ∈ f) F' H' (· ∈ k) → Rep K ca F' H' (.lst true xs) v k → k.Nodup → Q v H') :
    Q (.ref p) (upd H p (.lst us)) := by
  have g2 : Go F H (· ∈ f) F (upd H p (.lst us)) (· ∈ p :: g) := Go.newO s hp fun b z => (List.mem_cons.mp z).elim (fun w => .inr (by rw [w]; exact hp)) fun w => .inl (hg b w)
  have pg : p ∉ g := fun z => (Reps.alive xs r p z).1 hp
  refine q _ _ F (p :: g) g2 ?_ (List.nodup_cons.mpr ⟨pg, n⟩)
  simp only [Rep]
  exact ⟨p, us, g, rfl, upd_same, none_of_sub s hp, r.of_go (Go.newO (O := fun _ => False) (O' := fun _ => False) s hp fun _ z => z.elim) fun _ _ z => z, rfl⟩
theorem newTup {Q : VK} {f g : List Addr} {xs : List T} {us : List V} {p : Addr} (s : Sub F H) (hp : H p = none) (r : Reps K ca F H xs us g) (n : g.Nodup) (hg : ∀ a ∈ g, a ∈ f) (q : ∀ v H' F' k, Go F H (· ∈ f) F' H' (· ∈ k) → Rep K ca F' H' (.tup xs) v k → k.Nodup → Q v H') :
    Q (.ref p) (upd H p (.tup us)) := by
  have g2 : Go F H (· ∈ f) (upd F p (.tup us)) (upd H p (.tup us)) (· ∈ g) := Go.newF s hp fun b z => .inl (hg b z)
  refine q _ _ _ g g2 ?_ n
  simp only [Rep]
  exact ⟨p, us, rfl, SqT.of upd_same, r.of_go (Go.newF (O := fun _ => False) (O' := fun _ => False) s hp fun _ z => z.elim) fun _ _ z => z⟩
theorem nd_app {f g : List Addr} (h : (f ++ g).Nodup) : f.Nodup ∧ g.Nodup := ⟨(List.nodup_append.mp h).1, (List.nodup_append.mp h).2.1⟩
theorem nd_sub {f g f' g' : List Addr} (h : (f ++ g).Nodup) (n1 : f'.Nodup) (n2 : g'.Nodup) (h1 : ∀ x ∈ f', x ∈ f) (h2 : ∀ x ∈ g', x ∈ g) : (f' ++ g').Nodup :=
  List.nodup_append.mpr ⟨n1, n2, fun a ha b hb => (List.nodup_append.mp h).2.2 a (h1 a ha) b (h2 b hb)⟩
theorem mem_sub {f g f' g' : List Addr} (h1 : ∀ x ∈ f', x ∈ f) (h2 : ∀ x ∈ g', x ∈ g) : ∀ x ∈ f' ++ g', x ∈ f ++ g := fun x hx => (List.mem_append.mp hx).elim (fun z => List.mem_append_left _ (h1 x z)) fun z => List.mem_append_right _ (h2 x z)
def oAdd : List T → R T
  | [.int i, .int j] => .ok (.int (i + j))
  | [.str a, .str b] => do
    let _ ← ck (decide (a.length + b.length ≤ big))
    .ok (.str (a ++ b))
  | [.lst _ xs, .lst _ ys] => do
    let _ ← ck (decide (xs.length + ys.length ≤ big))
    .ok (.lst true (xs ++ ys))
  | [.tup (x :: xs), .tup ys] => do
    let _ ← ck (decide (xs.length + 1 + ys.length ≤ big))
    .ok (.tup (x :: xs ++ ys))
  | _ => stk
def rAddA (K : PySem.W.Frag) : R2 := fun x y H Q => rI0 (fun i j => .int (i + j)) x y H Q ∨ (∃ i j, x = .str i ∧ y = .str j ∧ i.length + j.length ≤ sizeLine ∧ Q (.str (i ++ j)) H) ∨ rCat x y H Q ∨ rCatT K x y H Q
theorem op_addA {X : Cx} : OpR X (binaryOp .Add) (rAddA X.K) := op_add.or (op_add_str.or (op_cat.or op_catT))
theorem s_add : OpS K ca (rAddA K) oAdd := by
  intro F H ts vs f t Q s r nd e q
  unfold oAdd at e
  split at e
  · cases e
    obtain ⟨x, y, g1, g2, rfl, r1, r2, rfl⟩ := reps2 r
    simp only [Rep] at r1 r2
    obtain ⟨rfl, rfl⟩ := r1
    obtain ⟨rfl, rfl⟩ := r2
    exact ⟨_, _, rfl, .inl ⟨_, _, rfl, rfl, give s (fun _ _ => rep_int) q⟩⟩
  · obtain ⟨_, c, e⟩ := bind_ok e
    cases e
    obtain ⟨x, y, g1, g2, rfl, r1, r2, rfl⟩ := reps2 r
    simp only [Rep] at r1 r2
    obtain ⟨rfl, rfl⟩ := r1
    obtain ⟨rfl, rfl⟩ := r2
    exact ⟨_, _, rfl, .inr (.inl ⟨_, _, rfl, rfl, big_le (of_decide_eq_true (ck_ok c)), give s (fun _ _ => rep_str) q⟩)⟩
  · obtain ⟨_, c, e⟩ := bind_ok e
    cases e
    obtain ⟨x, y, g1, g2, rfl, r1, r2, rfl⟩ := reps2 r
    obtain ⟨a, us, k1, rfl, h1, i1, n1, m1, _⟩ := r1.lst s (nd_app nd).1
    obtain ⟨b, ws, k2, rfl, h2, i2, n2, m2, _⟩ := r2.lst s (nd_app nd).2
    refine ⟨_, _, rfl, .inr (.inr (.inl ⟨a, b, us, ws, rfl, rfl, h1, h2, ?_, fun p hp => newLst s hp (i1.append i2) (nd_sub nd n1 n2 m1 m2) (mem_sub m1 m2) q⟩))⟩
    rw [Reps.length i1, Reps.length i2]
    exact big_le (of_decide_eq_true (ck_ok c))
  · rename_i x xs ys
    obtain ⟨_, c, e⟩ := bind_ok e
    cases e
    obtain ⟨x', y', g1, g2, rfl, r1, r2, rfl⟩ := reps2 r
    simp only [Rep] at r1 r2
    obtain ⟨a, us, rfl, h1, i1⟩ := r1
    obtain ⟨b, ws, rfl, h2, i2⟩ := r2
    have l1 := Reps.length i1
    have l2 := Reps.length i2
    have hz : xs.length + 1 + ys.length ≤ big := of_decide_eq_true (ck_ok c)
    rw [List.length_cons] at l1
    refine ⟨_, _, rfl, .inr (.inr (.inr ⟨a, b, us, ws, rfl, rfl, s.sqT h1, s.sqT h2, fun z => by rw [z] at l1; simp at l1, big_le (by omega), fun z => ?_, fun z p hp => newTup s hp (i1.append i2) nd (fun _ z => z) q⟩))⟩
    have hy : ys = [] := List.length_eq_zero_iff.mp (by rw [← l2, z]; rfl)
    subst hy
    simp only [Reps] at i2
    obtain ⟨_, rfl⟩ := i2
    rw [List.append_nil] at *
    refine keep s ?_ nd (fun _ z => z) (by rw [List.append_nil] at q; exact q)
    simp only [Rep]
    exact ⟨a, us, rfl, h1, i1⟩
  · cases e
def oMul : List T → R T
  | [.int i, .int j] => do
    let _ ← ck (decide (i.natAbs < 2 ^ 64) || decide (j.natAbs < 2 ^ 64))
    .ok (.int (i * j))
  | [.lst o xs, .int j] => do
    let _ ← ck (!T.owl xs && (decide (-1000000 < j) && (decide (j < 1000000) && decide (xs.length * j.toNat ≤ big))))
    .ok (.lst true (List.replicate j.toNat xs).flatten)
  | _ => stk
def rMulA : R2 := fun x y H Q => rI CMul (fun i j => .int (i * j)) x y H Q ∨ rRep x y H Q
theorem op_mulA {X : Cx} : OpR X (binaryOp .Mult) rMulA := op_mul.or op_rep
theorem reps_rep {xs : List T} {us : List V} (h : Reps K ca F H xs us []) : ∀ n : Nat, Reps K ca F H (List.replicate n xs).flatten (List.replicate n us).flatten []
  | 0 => by simp [Reps]
  | n + 1 => by
    rw [List.replicate_succ, List.replicate_succ, List.flatten_cons, List.flatten_cons]
    exact h.append (reps_rep h n)
theorem s_mul : OpS K ca rMulA oMul := by
  intro F H ts vs f t Q s r nd e q
  unfold oMul at e
  split at e
  · obtain ⟨_, c, e⟩ := bind_ok e
    cases e
    obtain ⟨x, y, g1, g2, rfl, r1, r2, rfl⟩ := reps2 r
    simp only [Rep] at r1 r2
    obtain ⟨rfl, rfl⟩ := r1
    obtain ⟨rfl, rfl⟩ := r2
    refine ⟨_, _, rfl, .inl ⟨_, _, rfl, rfl, ?_, give s (fun _ _ => rep_int) q⟩⟩
    have c := ck_ok c
    simp only [Bool.or_eq_true, decide_eq_true_eq] at c
    unfold CMul
    omega
  · obtain ⟨_, c, e⟩ := bind_ok e
    cases e
    obtain ⟨x, y, g1, g2, rfl, r1, r2, rfl⟩ := reps2 r
    simp only [Rep] at r2
    obtain ⟨rfl, rfl⟩ := r2
    obtain ⟨a, us, k1, rfl, h1, i1, n1, m1, _⟩ := r1.lst s (nd_app nd).1
    have c := ck_ok c
    simp only [Bool.and_eq_true, decide_eq_true_eq, Bool.not_eq_true'] at c
    have := Reps.pure_fp _ c.1 i1
    subst this
    refine ⟨_, _, rfl, .inr ⟨a, _, us, rfl, rfl, h1, by omega, by omega, ?_, fun p hp => newLst s hp (reps_rep i1 _) List.nodup_nil (fun _ z => nomatch z) q⟩⟩
    rw [Reps.length i1]
    exact big_le c.2.2.2
  · cases e
def oIx : List T → R T
  | [x, .int i] => match x with
    | .str z => do
      let _ ← ck (decide (z.length ≤ big))
      match atI z.cps.toList i with
      | some c => .ok (.str ⟨#[c]⟩)
      | none => stk
    | x => match x.seq with
      | some xs => match atI xs i with
        | some y => .ok y
        | none => stk
      | none => stk
  | _ => stk
theorem atI_some {α : Type} {xs : List α} {i : Int} {y : α} (h : atI xs i = some y) : ∃ j : Nat, ixN xs.length i = some j ∧ xs[j]? = some y := by
  unfold atI at h
  cases e : ixN xs.length i with
  | none => rw [e] at h; cases h
  | some j => rw [e] at h; exact ⟨j, rfl, h⟩
theorem s_ix : OpS K ca (rIx K) oIx := by
  intro F H ts vs f t Q s r nd e q
  unfold oIx at e
  split at e
  case h_2 => cases e
  case h_1 x i =>
    obtain ⟨x', y', g1, g2, rfl, r1, r2, rfl⟩ := reps2 r
    simp only [Rep] at r2
    obtain ⟨rfl, rfl⟩ := r2
    rw [List.append_nil] at *
    split at e
    · obtain ⟨_, c, e⟩ := bind_ok e
      simp only [Rep] at r1
      obtain ⟨rfl, rfl⟩ := r1
      split at e
      · rename_i c' hc
        cases e
        exact ⟨_, _, rfl, .inr (.inr ⟨_, i, c', rfl, rfl, big_le (of_decide_eq_true (ck_ok c)), hc, give s (fun _ _ => rep_str) q⟩)⟩
      · cases e
    · split at e
      · rename_i xs hx
        split at e
        · rename_i y hy
          cases e
          obtain ⟨a, us, g, rfl, h1, h2, h3, h4⟩ := r1.seq s nd hx
          obtain ⟨j, hj, hj2⟩ := atI_some hy
          obtain ⟨u, k, e1, e2, e3, e4⟩ := Reps.at (i := j) h2 h3 hj2
          have at_ : atI us i = some u := by
            unfold atI
            rw [Reps.length h2, hj]
            exact e1
          have hq := keep s e2 e3 (fun a ha => h4 a (e4 a ha)) q
          rcases h1 with h1 | h1
          · exact ⟨_, _, rfl, .inl ⟨a, us, i, u, rfl, rfl, h1, at_, hq⟩⟩
          · exact ⟨_, _, rfl, .inr (.inl ⟨a, us, i, u, rfl, rfl, h1, at_, hq⟩)⟩
        · cases e
      · cases e
mutual
def T.pd : T → Option PyData
  | .non => some .none
  | .bl b => some (.bool b)
  | .int i => some (.int i)
  | .str s => some (.str s)
  | .tup xs => (T.pdl xs).map .tuple
  | .lst _ xs => (T.pdl xs).map .list
  | .lk xs => (T.pdl xs).map .list
  | _ => none
def T.pdl : List T → Option (List PyData)
  | [] => some []
  | t :: ts => match T.pd t, T.pdl ts with
    | some d, some ds => some (d :: ds)
    | _, _ => none
end
mutual
theorem Rep.dp (s : Sub F H) : ∀ (t : T) {v : V} {fv : List Addr} {d : PyData}, Rep K ca F H t v fv → t.pd = some d → Dp K H v d
  | .non, _, _, _, h, e => by simp only [Rep] at h; cases e; rw [h.1]; exact .non
  | .bl _, _, _, _, h, e => by simp only [Rep] at h; cases e; rw [h.1]; exact .bl _
  | .int _, _, _, _, h, e => by simp only [Rep] at h; cases e; rw [h.1]; exact .int _
  | .str _, _, _, _, h, e => by simp only [Rep] at h; cases e; rw [h.1]; exact .str _
  | .tup xs, _, _, _, h, e => by
    simp only [Rep] at h
    simp only [T.pd] at e
    obtain ⟨ds, e1, e⟩ := Option.map_eq_some_iff.mp e
    subst e
    obtain ⟨a, vs, h1, h2, h3⟩ := h
    rw [h1]
    exact .tup (s.sqT h2) (Reps.dp s xs h3 e1)
  | .lst false xs, _, _, _, h, e => by
    simp only [Rep] at h
    simp only [T.pd] at e
    obtain ⟨ds, e1, e⟩ := Option.map_eq_some_iff.mp e
    subst e
    obtain ⟨a, vs, h1, h2, h3, _⟩ := h
    rw [h1]
    exact .lst (SqL.of (s _ _ h2)) (Reps.dp s xs h3 e1)
  | .lst true xs, _, _, _, h, e => by
    simp only [Rep] at h
    simp only [T.pd] at e
    obtain ⟨ds, e1, e⟩ := Option.map_eq_some_iff.mp e
    subst e
    obtain ⟨a, vs, g, h1, h2, _, h3, _⟩ := h
    rw [h1]
    exact .lst (SqL.of h2) (Reps.dp s xs h3 e1)
  | .lk xs, _, _, _, h, e => by
    simp only [Rep] at h
    simp only [T.pd] at e
    obtain ⟨ds, e1, e⟩ := Option.map_eq_some_iff.mp e
    subst e
    obtain ⟨a, vs, h1, h2, h3, _⟩ := h
    rw [h1]
    exact .lst (s.sqL h2) (Reps.dp s xs h3 e1)
  | .dct _ _, _, _, _, h, e => by cases e
  | .obj _ _, _, _, _, h, e => by cases e
theorem Reps.dp (s : Sub F H) : ∀ (ts : List T) {vs : List V} {fv : List Addr} {ds : List PyData}, Reps K ca F H ts vs fv → T.pdl ts = some ds → DpAll K H vs ds
  | [], _, _, _, h, e => by simp only [Reps] at h; cases e; rw [h.1]; exact .nil
  | t :: ts, _, _, _, h, e => by
    simp only [Reps] at h
    obtain ⟨v, us, f, g, rfl, r, rs, rfl⟩ := h
    simp only [T.pdl] at e
    split at e
    · rename_i d ds h1 h2
      cases e
      exact .cons (Rep.dp s t r h1) (Reps.dp s ts rs h2)
    · cases e
end
/-- the answer of ==, where it is told -/
def eqT : T → T → Option Bool
  | .non, .non => some true
  | .non, .int _ => some false
  | .int _, .non => some false
  | .non, .str _ => some false
  | .str _, .non => some false
  | .int i, .int j => some (decide (i = j))
  | .str a, .str b => some (decide (a = b))
  | .bl a, .bl b => some (decide (a = b))
  | x, y => match x.pd, y.pd with
    | some d, some e => if SeqAt.shaped d && SeqAt.shaped e then some (PyData.eqv d e) else none
    | _, _ => none
def oEq : List T → R T
  | [x, y] => match eqT x y with
    | some b => .ok (.bl b)
    | none => stk
  | _ => stk
def oNe : List T → R T
  | [x, y] => match eqT x y with
    | some b => .ok (.bl (!b))
    | none => stk
  | _ => stk
def rEqA (K : PySem.W.Frag) : R2 := fun x y H Q => rEq x y H Q ∨ rEqD K x y H Q
def rNeA (K : PySem.W.Frag) : R2 := fun x y H Q => rNe x y H Q ∨ rNeD K x y H Q
theorem op_eqA {X : Cx} (hu : X.A.units + 64 < cLine) : OpR X (compareOp .Eq) (rEqA X.K) := op_eq.or (op_eqD hu)
theorem op_neA {X : Cx} (hu : X.A.units + 64 < cLine) : OpR X (compareOp .NotEq) (rNeA X.K) := op_ne.or (op_neD hu)
theorem eqT_ok {x y : T} {b : Bool} {u w : V} {f g : List Addr} (s : Sub F H) (r1 : Rep K ca F H x u f) (r2 : Rep K ca F H y w g) (e : eqT x y = some b) :
    (scal u w = true ∧ decide (u = w) = b) ∨ ∃ d e, Dp K H u d ∧ Dp K H w e ∧ SeqAt.shaped d = true ∧ SeqAt.shaped e = true ∧ PyData.eqv d e = b := by
  unfold eqT at e
  split at e
  · simp only [Rep] at r1 r2; cases e; rw [r1.1, r2.1]; exact .inl ⟨rfl, rfl⟩
  · simp only [Rep] at r1 r2; cases e; rw [r1.1, r2.1]; exact .inl ⟨rfl, rfl⟩
  · simp only [Rep] at r1 r2; cases e; rw [r1.1, r2.1]; exact .inl ⟨rfl, rfl⟩
  · simp only [Rep] at r1 r2; cases e; rw [r1.1, r2.1]; exact .inl ⟨rfl, rfl⟩
  · simp only [Rep] at r1 r2; cases e; rw [r1.1, r2.1]; exact .inl ⟨rfl, rfl⟩
  · simp only [Rep] at r1 r2; cases e; rw [r1.1, r2.1]; exact .inl ⟨rfl, by simp⟩
  · simp only [Rep] at r1 r2; cases e; rw [r1.1, r2.1]; exact .inl ⟨rfl, by simp⟩
  · simp only [Rep] at r1 r2; cases e; rw [r1.1, r2.1]; exact .inl ⟨rfl, by simp⟩
  · split at e
    · rename_i d d' h1 h2
      split at e
      · rename_i hs
        cases e
        rw [Bool.and_eq_true] at hs
        exact .inr ⟨d, d', Rep.dp s _ r1 h1, Rep.dp s _ r2 h2, hs.1, hs.2, rfl⟩
      · cases e
    · cases e
theorem s_eq : OpS K ca (rEqA K) oEq := by
  intro F H ts vs f t Q s r nd e q
  unfold oEq at e
  split at e
  · split at e
    · rename_i x y b hb
      cases e
      obtain ⟨x', y', g1, g2, rfl, r1, r2, rfl⟩ := reps2 r
      refine ⟨_, _, rfl, ?_⟩
      rcases eqT_ok s r1 r2 hb with ⟨h1, h2⟩ | ⟨d, d', h1, h2, h3, h4, h5⟩
      · exact .inl ⟨h1, by rw [h2]; exact give s (fun _ _ => rep_bl) q⟩
      · exact .inr ⟨d, d', h1, h2, h3, h4, by rw [h5]; exact give s (fun _ _ => rep_bl) q⟩
    · cases e
  · cases e
theorem s_ne : OpS K ca (rNeA K) oNe := by
  intro F H ts vs f t Q s r nd e q
  unfold oNe at e
  split at e
  · split at e
    · rename_i x y b hb
      cases e
      obtain ⟨x', y', g1, g2, rfl, r1, r2, rfl⟩ := reps2 r
      refine ⟨_, _, rfl, ?_⟩
      rcases eqT_ok s r1 r2 hb with ⟨h1, h2⟩ | ⟨d, d', h1, h2, h3, h4, h5⟩
      · exact .inl ⟨h1, by rw [h2]; exact give s (fun _ _ => rep_bl) q⟩
      · exact .inr ⟨d, d', h1, h2, h3, h4, by rw [h5]; exact give s (fun _ _ => rep_bl) q⟩
    · cases e
  · cases e
end
end QL
namespace QL
open PySem L2

section
variable {K : PySem.W.Frag} {ca : Ca} {F F' F1 H H' H1 : Hp} {O O' : Addr → Prop} {σ : St} {env : En} {fp : Fp} {t : T} {v : V} {fv : List Addr} {ts : List T} {vs : List V} {md : List Nat}


def T.flat : T → Bool
  | .non => true
  | .bl _ => true
  | .int _ => true
  | .str _ => true
  | _ => false
/-- == of flat values -/
def eqF : T → T → Bool
  | .non, .non => true
  | .bl a, .bl b => a == b
  | .bl a, .int b => (if a then 1 else 0) == b
  | .int a, .bl b => a == (if b then 1 else 0)
  | .int a, .int b => a == b
  | .str a, .str b => a == b
  | _, _ => false
theorem flat_ok (h : Rep K ca F H t v fv) (e : t.flat = true) : flatV v = true ∧ fv = [] := by
  cases t <;> first | (simp only [Rep] at h; rw [h.1]; exact ⟨rfl, h.2⟩) | cases e
theorem eqF_ok {x y : T} {u w : V} {f g : List Addr} (h1 : Rep K ca F H x u f) (h2 : Rep K ca F H y w g) (e1 : x.flat = true) (e2 : y.flat = true) : eqV u w = eqF x y := by
  cases x <;> cases y <;> first | (simp only [Rep] at h1 h2; rw [h1.1, h2.1]; rfl) | (simp [T.flat] at e1; done) | (simp [T.flat] at e2; done)
theorem flats_ok {x : T} {u : V} {f : List Addr} (hx : Rep K ca F H x u f) (ex : x.flat = true) : ∀ {ys : List T} {us : List V} {g : List Addr}, Reps K ca F H ys us g → ys.all T.flat = true → us.all flatV = true ∧ (us.any fun w => eqV w u) = ys.any fun y => eqF y x
  | [], _, _, h, _ => by simp only [Reps] at h; rw [h.1]; exact ⟨rfl, rfl⟩
  | y :: ys, _, _, h, e => by
    simp only [Reps] at h
    obtain ⟨w, us, f1, f2, rfl, r, rs, rfl⟩ := h
    rw [List.all_cons, Bool.and_eq_true] at e
    obtain ⟨a1, a2⟩ := flats_ok hx ex rs e.2
    rw [List.all_cons, List.any_cons, List.any_cons, a1, a2, (flat_ok r e.1).1, eqF_ok r hx e.1 ex]
    exact ⟨rfl, rfl⟩
def inT (x : T) (c : T) : R Bool := match c with
  | .str z => match x with
    | .str y => match y.cps.toList with
      | [a] => .ok (decide (a ∈ z.cps.toList))
      | _ => stk
    | _ => stk
  | c => match c.seq with
    | some ys => do
      let _ ← ck (x.flat && ys.all T.flat)
      .ok (ys.any fun y => eqF y x)
    | none => stk
def oIn : List T → R T
  | [x, c] => do
    let b ← inT x c
    .ok (.bl b)
  | _ => stk
def oNin : List T → R T
  | [x, c] => do
    let b ← inT x c
    .ok (.bl (!b))
  | _ => stk
def rInA (K : PySem.W.Frag) : R2 := fun x y H Q => rIn K false x y H Q ∨ ∃ (c : Nat) (z : Str), x = .str ⟨#[c]⟩ ∧ y = .str z ∧ Q (.bl (decide (c ∈ z.cps.toList))) H
def rNinA (K : PySem.W.Frag) : R2 := fun x y H Q => rIn K true x y H Q ∨ ∃ (c : Nat) (z : Str), x = .str ⟨#[c]⟩ ∧ y = .str z ∧ Q (.bl (!decide (c ∈ z.cps.toList))) H
theorem op_inA {X : Cx} : OpR X (compareOp .In) (rInA X.K) := op_in_seq.or op_in_sign
theorem op_ninA {X : Cx} : OpR X (compareOp .NotIn) (rNinA X.K) := op_notIn_seq.or op_notIn_sign
theorem inT_ok {x c : T} {b : Bool} {u w : V} {f g : List Addr} (s : Sub F H) (r1 : Rep K ca F H x u f) (r2 : Rep K ca F H c w g) (n : g.Nodup) (e : inT x c = .ok b) :
    (∃ p us, w = .ref p ∧ (SqL K H p us ∨ SqT K H p us) ∧ flatV u = true ∧ us.all flatV = true ∧ inV u us = b) ∨ ∃ (a : Nat) (z : Str), u = .str ⟨#[a]⟩ ∧ w = .str z ∧ decide (a ∈ z.cps.toList) = b := by
  unfold inT at e
  split at e
  · split at e
    · split at e
      · rename_i y l a ha
        cases e
        simp only [Rep] at r1 r2
        refine .inr ⟨a, _, ?_, r2.1, rfl⟩
        rw [r1.1]
        have : y = ⟨#[a]⟩ := by
          obtain ⟨cps⟩ := y
          congr
          exact Array.toList_inj.mp ha
        rw [this]
      · cases e
    · cases e
  · split at e
    · rename_i ys hy
      obtain ⟨_, c1, e⟩ := bind_ok e
      cases e
      have c1 := ck_ok c1
      rw [Bool.and_eq_true] at c1
      obtain ⟨p, us, k, rfl, h1, h2, h3, h4⟩ := r2.seq s n hy
      obtain ⟨a1, a2⟩ := flats_ok r1 c1.1 h2 c1.2
      exact .inl ⟨p, us, rfl, h1, (flat_ok r1 c1.1).1, a1, a2⟩
    · cases e
theorem s_in : OpS K ca (rInA K) oIn := by
  intro F H ts vs f t Q s r nd e q
  unfold oIn at e
  split at e
  case h_2 => cases e
  case h_1 x c =>
    obtain ⟨b, e1, e⟩ := bind_ok e
    cases e
    obtain ⟨x', y', g1, g2, rfl, r1, r2, rfl⟩ := reps2 r
    refine ⟨_, _, rfl, ?_⟩
    rcases inT_ok s r1 r2 (nd_app nd).2 e1 with ⟨p, us, h1, h2, h3, h4, h5⟩ | ⟨a, z, h1, h2, h3⟩
    · exact .inl ⟨p, us, h1, h2, h3, h4, by rw [if_neg Bool.false_ne_true, h5]; exact give s (fun _ _ => rep_bl) q⟩
    · exact .inr ⟨a, z, h1, h2, by rw [h3]; exact give s (fun _ _ => rep_bl) q⟩
theorem s_nin : OpS K ca (rNinA K) oNin := by
  intro F H ts vs f t Q s r nd e q
  unfold oNin at e
  split at e
  case h_2 => cases e
  case h_1 x c =>
    obtain ⟨b, e1, e⟩ := bind_ok e
    cases e
    obtain ⟨x', y', g1, g2, rfl, r1, r2, rfl⟩ := reps2 r
    refine ⟨_, _, rfl, ?_⟩
    rcases inT_ok s r1 r2 (nd_app nd).2 e1 with ⟨p, us, h1, h2, h3, h4, h5⟩ | ⟨a, z, h1, h2, h3⟩
    · exact .inl ⟨p, us, h1, h2, h3, h4, by rw [if_pos rfl, h5]; exact give s (fun _ _ => rep_bl) q⟩
    · exact .inr ⟨a, z, h1, h2, by rw [h3]; exact give s (fun _ _ => rep_bl) q⟩
def T.isN : T → Bool
  | .non => true
  | _ => false
def oIsN : List T → R T
  | [x, .non] => .ok (.bl x.isN)
  | _ => stk
def oNotN : List T → R T
  | [x, .non] => .ok (.bl (!x.isN))
  | _ => stk
theorem isN_ok (h : Rep K ca F H t v fv) : decide (v = V.non) = t.isN := by
  cases t with
  | non => simp only [Rep] at h; rw [h.1]; rfl
  | bl b => simp only [Rep] at h; rw [h.1]; rfl
  | int b => simp only [Rep] at h; rw [h.1]; rfl
  | str b => simp only [Rep] at h; rw [h.1]; rfl
  | lst o xs => cases o <;> (simp only [Rep] at h; obtain ⟨a, us, h⟩ := h; first | (obtain ⟨g, h, _⟩ := h; rw [h]; rfl) | (rw [h.1]; rfl))
  | lk xs => simp only [Rep] at h; obtain ⟨a, us, h, _⟩ := h; rw [h]; rfl
  | tup xs => simp only [Rep] at h; obtain ⟨a, us, h, _⟩ := h; rw [h]; rfl
  | dct o xs => cases o <;> (simp only [Rep] at h; obtain ⟨a, us, h⟩ := h; first | (obtain ⟨g, h, _⟩ := h; rw [h]; rfl) | (rw [h.1]; rfl))
  | obj c fs => simp only [Rep] at h; obtain ⟨a, dx, us, g, h, _⟩ := h; rw [h]; rfl
  | hole => simp only [Rep] at h; rw [h.1]; rfl
theorem s_isN : OpS K ca (fun x y H Q => y = .non ∧ Q (.bl (decide (x = .non))) H) oIsN := by
  intro F H ts vs f t Q s r nd e q
  unfold oIsN at e
  split at e
  · cases e
    obtain ⟨x', y', g1, g2, rfl, r1, r2, rfl⟩ := reps2 r
    simp only [Rep] at r2
    exact ⟨_, _, rfl, r2.1, by rw [isN_ok r1]; exact give s (fun _ _ => rep_bl) q⟩
  · cases e
theorem s_notN : OpS K ca (fun x y H Q => y = .non ∧ Q (.bl (!decide (x = .non))) H) oNotN := by
  intro F H ts vs f t Q s r nd e q
  unfold oNotN at e
  split at e
  · rename_i x
    cases e
    obtain ⟨x', y', g1, g2, rfl, r1, r2, rfl⟩ := reps2 r
    simp only [Rep] at r2
    refine ⟨_, _, rfl, r2.1, ?_⟩
    rw [isN_ok r1]
    exact give s (fun _ _ => rep_bl) q
  · cases e
def oLen : List T → R T
  | [.str z] => do
    let _ ← ck (decide (z.length ≤ big))
    .ok (.int z.length)
  | [x] => match x.seq with
    | some xs => .ok (.int xs.length)
    | none => stk
  | _ => stk
abbrev rLenA (K : PySem.W.Frag) : List V → Hp → VK → Prop := fun xs H Q => ∃ x n, xs = [x] ∧ LenV K x H n ∧ Q (.int n) H
theorem s_len : CallS K ca (rLenA K) oLen := by
  intro F H ts vs f t Q s r nd e q
  unfold oLen at e
  split at e
  · obtain ⟨_, c, e⟩ := bind_ok e
    cases e
    obtain ⟨x, rfl, r1⟩ := reps1 r
    simp only [Rep] at r1
    obtain ⟨rfl, rfl⟩ := r1
    exact ⟨_, _, rfl, ⟨big_le (of_decide_eq_true (ck_ok c)), rfl⟩, give s (fun _ _ => rep_int) q⟩
  · split at e
    · rename_i x xs hx
      cases e
      obtain ⟨x', rfl, r1⟩ := reps1 r
      obtain ⟨a, us, g, rfl, h1, h2, h3, h4⟩ := r1.seq s nd hx
      refine ⟨_, us.length, rfl, ?_, ?_⟩
      · rcases h1 with h1 | h1
        · exact .inl ⟨us, h1, rfl⟩
        · exact .inr ⟨us, h1, rfl⟩
      · rw [Reps.length h2]
        exact give s (fun _ _ => rep_int) q
    · cases e
  · cases e
def oAbs : List T → R T
  | [.int i] => .ok (.int (if i < 0 then -i else i))
  | _ => stk
theorem s_abs : CallS K ca (fun xs H Q => ∃ i, xs = [.int i] ∧ Q (.int (if i < 0 then -i else i)) H) oAbs := by
  intro F H ts vs f t Q s r nd e q
  unfold oAbs at e
  split at e
  · cases e
    obtain ⟨x, rfl, r1⟩ := reps1 r
    simp only [Rep] at r1
    obtain ⟨rfl, rfl⟩ := r1
    exact ⟨_, rfl, give s (fun _ _ => rep_int) q⟩
  · cases e
def oMax2 : List T → R T
  | [.int i, .int j] => .ok (.int (if j > i then j else i))
  | _ => stk
def oMin2 : List T → R T
  | [.int i, .int j] => .ok (.int (if j < i then j else i))
  | _ => stk
theorem s_max2 : CallS K ca (fun xs H Q => ∃ i j, xs = [.int i, .int j] ∧ Q (.int (if j > i then j else i)) H) oMax2 := by
  intro F H ts vs f t Q s r nd e q
  unfold oMax2 at e
  split at e
  · cases e
    obtain ⟨x, y, g1, g2, rfl, r1, r2, rfl⟩ := reps2 r
    simp only [Rep] at r1 r2
    obtain ⟨rfl, rfl⟩ := r1
    obtain ⟨rfl, rfl⟩ := r2
    exact ⟨_, _, rfl, give s (fun _ _ => rep_int) q⟩
  · cases e
theorem s_min2 : CallS K ca (fun xs H Q => ∃ i j, xs = [.int i, .int j] ∧ Q (.int (if j < i then j else i)) H) oMin2 := by
  intro F H ts vs f t Q s r nd e q
  unfold oMin2 at e
  split at e
  · cases e
    obtain ⟨x, y, g1, g2, rfl, r1, r2, rfl⟩ := reps2 r
    simp only [Rep] at r1 r2
    obtain ⟨rfl, rfl⟩ := r1
    obtain ⟨rfl, rfl⟩ := r2
    exact ⟨_, _, rfl, give s (fun _ _ => rep_int) q⟩
  · cases e
def oInt : List T → R T
  | [.int i] => .ok (.int i)
  | [.bl k] => .ok (.int (if k then 1 else 0))
  | _ => stk
theorem s_int : CallS K ca (fun xs H Q => (∃ i, xs = [.int i] ∧ Q (.int i) H) ∨ ∃ k, xs = [.bl k] ∧ Q (.int (if k then 1 else 0)) H) oInt := by
  intro F H ts vs f t Q s r nd e q
  unfold oInt at e
  split at e
  · cases e
    obtain ⟨x, rfl, r1⟩ := reps1 r
    simp only [Rep] at r1
    obtain ⟨rfl, rfl⟩ := r1
    exact .inl ⟨_, rfl, give s (fun _ _ => rep_int) q⟩
  · cases e
    obtain ⟨x, rfl, r1⟩ := reps1 r
    simp only [Rep] at r1
    obtain ⟨rfl, rfl⟩ := r1
    exact .inr ⟨_, rfl, give s (fun _ _ => rep_int) q⟩
  · cases e
def oList : List T → R T
  | [x] => match x.seq with
    | some xs => .ok (.lst true xs)
    | none => stk
  | _ => stk
theorem s_list : CallS K ca (fun xs H Q => ∃ p ys, xs = [.ref p] ∧ (SqL K H p ys ∨ SqT K H p ys) ∧ ∀ l, H l = none → Q (.ref l) (upd H l (.lst ys))) oList := by
  intro F H ts vs f t Q s r nd e q
  unfold oList at e
  split at e
  · split at e
    · rename_i x xs hx
      cases e
      obtain ⟨x', rfl, r1⟩ := reps1 r
      obtain ⟨a, us, g, rfl, h1, h2, h3, h4⟩ := r1.seq s nd hx
      exact ⟨a, us, rfl, h1, fun l hl => newLst s hl h2 h3 h4 q⟩
    · cases e
  · cases e
def oTuple : List T → R T
  | [.lst _ xs] => .ok (.tup xs)
  | [.tup xs] => .ok (.tup xs)
  | _ => stk
theorem s_tuple : CallS K ca (fun xs H Q => ∃ p ys, xs = [.ref p] ∧ ((SqL K H p ys ∧ ∀ l, H l = none → Q (.ref l) (upd H l (.tup ys))) ∨ (SqT K H p ys ∧ Q (.ref p) H))) oTuple := by
  intro F H ts vs f t Q s r nd e q
  unfold oTuple at e
  split at e
  · cases e
    obtain ⟨x', rfl, r1⟩ := reps1 r
    obtain ⟨a, us, g, rfl, h1, h2, h3, h4, _⟩ := r1.lst s nd
    exact ⟨a, us, rfl, .inl ⟨SqL.of h1, fun l hl => newTup s hl h2 h3 h4 q⟩⟩
  · cases e
    obtain ⟨x', rfl, r1⟩ := reps1 r
    have r2 := r1
    simp only [Rep] at r1
    obtain ⟨a, us, rfl, h1, h2⟩ := r1
    exact ⟨a, us, rfl, .inr ⟨s.sqT h1, keep s r2 nd (fun _ z => z) q⟩⟩
  · cases e
/-- truths, ints of a list -/
def bls : List T → Option (List Bool)
  | [] => some []
  | .bl b :: ts => (bls ts).map (b :: ·)
  | _ => none
def intsOf : List T → Option (List Int)
  | [] => some []
  | .int b :: ts => (intsOf ts).map (b :: ·)
  | _ => none
theorem bls_ok : ∀ {ts : List T} {us : List V} {f : List Addr} {bs : List Bool}, Reps K ca F H ts us f → bls ts = some bs → us = bs.map V.bl
  | [], _, _, _, h, e => by cases e; simp only [Reps] at h; exact h.1
  | t :: ts, _, _, _, h, e => by
    simp only [Reps] at h
    obtain ⟨v, us, f, g, rfl, r, rs, rfl⟩ := h
    cases t with
    | bl b =>
      obtain ⟨bs, e1, e⟩ := Option.map_eq_some_iff.mp e
      subst e
      simp only [Rep] at r
      rw [bls_ok rs e1, r.1]
      rfl
    | _ => cases e
theorem intsOf_ok : ∀ {ts : List T} {us : List V} {f : List Addr} {bs : List Int}, Reps K ca F H ts us f → intsOf ts = some bs → us = bs.map V.int
  | [], _, _, _, h, e => by cases e; simp only [Reps] at h; exact h.1
  | t :: ts, _, _, _, h, e => by
    simp only [Reps] at h
    obtain ⟨v, us, f, g, rfl, r, rs, rfl⟩ := h
    cases t with
    | int b =>
      obtain ⟨bs, e1, e⟩ := Option.map_eq_some_iff.mp e
      subst e
      simp only [Rep] at r
      rw [intsOf_ok rs e1, r.1]
      rfl
    | _ => cases e
def oAll : List T → R T
  | [.lst _ xs] => match bls xs with
    | some bs => .ok (.bl (bs.all id))
    | none => stk
  | _ => stk
def oAny : List T → R T
  | [.lst _ xs] => match bls xs with
    | some bs => .ok (.bl (bs.any id))
    | none => stk
  | _ => stk
def oSum : List T → R T
  | [.lst _ xs] => match intsOf xs with
    | some ns => .ok (.int ns.sum)
    | none => stk
  | _ => stk
theorem s_all : CallS K ca (rAll K) oAll := by
  intro F H ts vs f t Q s r nd e q
  unfold oAll at e
  split at e
  · split at e
    · rename_i bs hb
      cases e
      obtain ⟨x', rfl, r1⟩ := reps1 r
      obtain ⟨a, us, g, rfl, h1, h2, h3, h4, _⟩ := r1.lst s nd
      have := bls_ok h2 hb
      subst this
      exact ⟨a, bs, rfl, SqL.of h1, give s (fun _ _ => rep_bl) q⟩
    · cases e
  · cases e
theorem s_any : CallS K ca (rAny K) oAny := by
  intro F H ts vs f t Q s r nd e q
  unfold oAny at e
  split at e
  · split at e
    · rename_i bs hb
      cases e
      obtain ⟨x', rfl, r1⟩ := reps1 r
      obtain ⟨a, us, g, rfl, h1, h2, h3, h4, _⟩ := r1.lst s nd
      have := bls_ok h2 hb
      subst this
      exact ⟨a, bs, rfl, SqL.of h1, give s (fun _ _ => rep_bl) q⟩
    · cases e
  · cases e
theorem s_sum : CallS K ca (rSum K) oSum := by
  intro F H ts vs f t Q s r nd e q
  unfold oSum at e
  split at e
  · split at e
    · rename_i bs hb
      cases e
      obtain ⟨x', rfl, r1⟩ := reps1 r
      obtain ⟨a, us, g, rfl, h1, h2, h3, h4, _⟩ := r1.lst s nd
      have := intsOf_ok h2 hb
      subst this
      exact ⟨a, bs, rfl, SqL.of h1, give s (fun _ _ => rep_int) q⟩
    · cases e
  · cases e
inductive Ty where
  | non | bool | int | str | list | tuple | dict
def Ty.nm : Ty → String
  | .non => "NoneType" | .bool => "bool" | .int => "int" | .str => "str" | .list => "list" | .tuple => "tuple" | .dict => "dict"
def T.ty : T → Option Ty
  | .non => some .non
  | .bl _ => some .bool
  | .int _ => some .int
  | .str _ => some .str
  | .lst _ _ => some .list
  | .lk _ => some .list
  | .tup _ => some .tuple
  | .dct _ _ => some .dict
  | .obj _ _ => none
  | .hole => none
def isTy : Ty → Ty → Bool
  | .bool, .int => true
  | .non, .non => true | .bool, .bool => true | .int, .int => true | .str, .str => true | .list, .list => true | .tuple, .tuple => true | .dict, .dict => true
  | _, _ => false
theorem kitB_ty {a b : Ty} : kitB a.nm b.nm = some (isTy a b) := by
  cases a <;> cases b <;> decide +kernel
theorem Rep.tyX {y : Ty} (s : Sub F H) (h : Rep K ca F H t v fv) (e : t.ty = some y) : TyX K H v (.type y.nm) := by
  cases t with
  | non => cases e; simp only [Rep] at h; rw [h.1]; exact .base .non
  | bl b => cases e; simp only [Rep] at h; rw [h.1]; exact .base (.bl b)
  | int b => cases e; simp only [Rep] at h; rw [h.1]; exact .base (.int b)
  | str b => cases e; simp only [Rep] at h; rw [h.1]; exact .base (.str b)
  | lst o xs =>
    cases e
    cases o with
    | true => simp only [Rep] at h; obtain ⟨a, us, g, h, h2, _⟩ := h; rw [h]; exact .base (.lst h2)
    | false => simp only [Rep] at h; obtain ⟨a, us, h, h2, _⟩ := h; rw [h]; exact .base (.lst (s _ _ h2))
  | lk xs =>
    cases e
    simp only [Rep] at h
    obtain ⟨a, us, h, h2, _⟩ := h
    rw [h]
    rcases h2 with (h2 | ⟨o, h2⟩) | ⟨o, its, n, h2, h3, _⟩
    · exact .base (.lst (s _ _ h2))
    · exact .base (.frz (s _ _ h2))
    · exact .kList h2 h3
  | tup xs =>
    cases e
    simp only [Rep] at h
    obtain ⟨a, us, h, h2, _⟩ := h
    rw [h]
    rcases h2 with (h2 | ⟨o, h2⟩) | ⟨o, its, n, h2, h3, _⟩
    · exact .base (.tup (s _ _ h2))
    · exact .fTuple (s _ _ h2)
    · exact .kTuple h2 h3
  | dct o xs =>
    cases e
    cases o with
    | true => simp only [Rep] at h; obtain ⟨a, us, g, h, h2, _⟩ := h; rw [h]; exact .base (.dK h2)
    | false =>
      simp only [Rep] at h
      obtain ⟨a, us, h, h2, _⟩ := h
      rw [h]
      rcases h2 with h2 | ⟨o, h2⟩
      · exact .base (.dK (s _ _ h2))
      · exact .fDict (s _ _ h2)
  | obj _ _ => cases e
  | hole => cases e
def oIsi (c : Ty) : List T → R T
  | [x] => match x.ty with
    | some y => .ok (.bl (isTy y c))
    | none => stk
  | _ => stk
def oIsi2 (c d : Ty) : List T → R T
  | [x] => match x.ty with
    | some y => .ok (.bl (isTy y c || isTy y d))
    | none => stk
  | _ => stk
theorem s_isi {c : Ty} : UnS K ca (fun x H Q => rIsi K [x, .ty c.nm] H Q) (oIsi c) := by
  intro F H ts vs f t Q s r nd e q
  unfold oIsi at e
  split at e
  · split at e
    · rename_i x y hy
      cases e
      obtain ⟨x', rfl, r1⟩ := reps1 r
      exact ⟨_, rfl, x', .ty c.nm, _, _, _, rfl, .ty _, r1.tyX s hy, kit_ty kitB_ty, give s (fun _ _ => rep_bl) q⟩
    · cases e
  · cases e
theorem te_isi {f : BM} {c : Ty} {Q : VK} (h : TEof K ca md (eOp (oIsi c) (aCons f aNil)) σ H Q) : tCB (rIsi K) (tCons (TBof K ca md f) (tCons (tC (.ty c.nm)) tNil)) σ H Q := te_op1 s_isi h
def rIsi2 (K : PySem.W.Frag) (c d : Ty) : V → Hp → VK → Prop := fun x H Q => ∀ p, H p = none → rIsiT K [x, .ref p] (upd H p (.tup [.ty c.nm, .ty d.nm])) Q
theorem s_isi2 {c d : Ty} : UnS K ca (rIsi2 K c d) (oIsi2 c d) := by
  intro F H ts vs f t Q s r nd e q
  unfold oIsi2 at e
  split at e
  · split at e
    · rename_i x y hy
      cases e
      obtain ⟨x', rfl, r1⟩ := reps1 r
      refine ⟨_, rfl, fun p hp => ⟨x', p, [.ty c.nm, .ty d.nm], .type y.nm, [.type c.nm, .type d.nm], (isTy y c || isTy y d), rfl, upd_same, .cons (.ty _) (.cons (.ty _) .nil), ?_, ?_, ?_⟩⟩
      · have g := Go.newF (F := F) (O := fun _ => False) (O' := fun _ => False) (o := .tup [.ty c.nm, .ty d.nm]) s hp fun _ z => z.elim
        exact (r1.of_go g fun _ _ z => z).tyX g.sub hy
      · refine kitAny_cons (kit_ty kitB_ty) (fun hb => ?_) fun hb => by rw [hb]; rfl
        rw [hb, Bool.false_or]
        refine kitAny_cons (kit_ty kitB_ty) (fun hb => ?_) fun hb => by rw [hb]
        rw [hb]
        exact kitAny_nil
      · exact q (.bl _) _ (upd F p (.tup [.ty c.nm, .ty d.nm])) [] (Go.newF s hp fun _ z => nomatch z) rep_bl List.nodup_nil
    · cases e
  · cases e

end
end QL
namespace QL
open PySem L2

section
variable {K : PySem.W.Frag} {ca : Ca} {F F' F1 H H' H1 : Hp} {O O' : Addr → Prop} {σ : St} {env : En} {fp : Fp} {t : T} {v : V} {fv : List Addr} {ts : List T} {vs : List V} {md : List Nat}

def cutL {α : Type} (xs : List α) (lo hi : Option Int) : List α := (xs.drop (HT.sIx xs.length 0 lo)).take (HT.sIx xs.length xs.length hi - HT.sIx xs.length 0 lo)
theorem Reps.drop (n : Nat) : ∀ {ts : List T} {us : List V} {f : List Addr} (k : Nat), Reps K ca F H ts us f → f.Nodup → ∃ g, Reps K ca F H (ts.drop k) (us.drop k) g ∧ g.Nodup ∧ ∀ a ∈ g, a ∈ f
  | ts, us, f, 0, h, nd => ⟨f, h, nd, fun _ z => z⟩
  | [], _, _, k + 1, h, nd => by
    simp only [Reps] at h
    obtain ⟨rfl, rfl⟩ := h
    exact ⟨[], by simp only [List.drop_nil, Reps]; trivial, nd, fun _ z => z⟩
  | t :: ts, _, _, k + 1, h, nd => by
    simp only [Reps] at h
    obtain ⟨v, us, f, g, rfl, r, rs, rfl⟩ := h
    obtain ⟨l, h1, h2, h3⟩ := Reps.drop n k rs (nd_app nd).2
    exact ⟨l, h1, h2, fun a ha => List.mem_append_right _ (h3 a ha)⟩
theorem Reps.take : ∀ {ts : List T} {us : List V} {f : List Addr} (k : Nat), Reps K ca F H ts us f → f.Nodup → ∃ g, Reps K ca F H (ts.take k) (us.take k) g ∧ g.Nodup ∧ ∀ a ∈ g, a ∈ f
  | ts, us, f, 0, h, nd => ⟨[], by simp only [List.take_zero, Reps]; trivial, List.nodup_nil, fun _ z => absurd z (by simp)⟩
  | [], _, _, k + 1, h, nd => by
    simp only [Reps] at h
    obtain ⟨rfl, rfl⟩ := h
    exact ⟨[], by simp only [List.take_nil, Reps]; trivial, nd, fun _ z => z⟩
  | t :: ts, _, _, k + 1, h, nd => by
    simp only [Reps] at h
    obtain ⟨v, us, f, g, rfl, r, rs, rfl⟩ := h
    obtain ⟨l, h1, h2, h3⟩ := Reps.take k rs (nd_app nd).2
    refine ⟨f ++ l, ?_, nd_sub nd (nd_app nd).1 h2 (fun _ z => z) h3, mem_sub (fun _ z => z) h3⟩
    simp only [List.take_succ_cons, Reps]
    exact ⟨v, _, f, l, rfl, r, h1, rfl⟩
theorem Reps.cut {us : List V} {f : List Addr} (h : Reps K ca F H ts us f) (nd : f.Nodup) (lo hi : Option Int) : ∃ g, Reps K ca F H (cutL ts lo hi) (cutV us lo hi) g ∧ g.Nodup ∧ ∀ a ∈ g, a ∈ f := by
  have hl := Reps.length h
  unfold cutL cutV
  rw [hl]
  obtain ⟨g, h1, h2, h3⟩ := Reps.drop 0 (HT.sIx ts.length 0 lo) h nd
  obtain ⟨k, h4, h5, h6⟩ := Reps.take (HT.sIx ts.length ts.length hi - HT.sIx ts.length 0 lo) h1 h2
  exact ⟨k, h4, h5, fun a ha => h3 a (h6 a ha)⟩
theorem cutL_whole {α : Type} {xs : List α} {lo hi : Option Int} (h : HT.sIx xs.length 0 lo = 0 ∧ HT.sIx xs.length xs.length hi = xs.length) : cutL xs lo hi = xs := by
  unfold cutL
  rw [h.1, h.2]
  simp
def slT (x : T) (lo hi : Option Int) : R T := match x with
  | .str z => do
    let _ ← ck (decide (z.length ≤ big))
    .ok (.str (cutS z lo hi))
  | .lst _ xs => .ok (.lst true (cutL xs lo hi))
  | .tup xs => .ok (.tup (cutL xs lo hi))
  | _ => stk
def rSlAny (K : PySem.W.Frag) : V → Option Int → Option Int → Hp → VK → Prop := fun x lo hi H Q => rSlL K x lo hi H Q ∨ rSlA K x lo hi H Q ∨ rSlS x lo hi H Q
theorem sl_any {X : Cx} : SlR X (rSlAny X.K) := sl_list.or (sl_tupA.or sl_str)
theorem s_sl {x : T} {u : V} {f : List Addr} {lo hi : Option Int} {Q : VK} (s : Sub F H) (r1 : Rep K ca F H x u f) (nd : f.Nodup) (e : slT x lo hi = .ok t) (q : ∀ v H' F' k, Go F H (· ∈ f) F' H' (· ∈ k) → Rep K ca F' H' t v k → k.Nodup → Q v H') : rSlAny K u lo hi H Q := by
  unfold slT at e
  split at e
  · obtain ⟨_, c, e⟩ := bind_ok e
    cases e
    simp only [Rep] at r1
    obtain ⟨rfl, rfl⟩ := r1
    exact .inr (.inr ⟨_, rfl, big_le (of_decide_eq_true (ck_ok c)), give s (fun _ _ => rep_str) q⟩)
  · cases e
    obtain ⟨a, us, g, rfl, h1, h2, h3, h4, _⟩ := r1.lst s nd
    obtain ⟨k, h5, h6, h7⟩ := Reps.cut h2 h3 lo hi
    exact .inl ⟨a, us, rfl, SqL.of h1, fun p hp => newLst s hp h5 h6 (fun a ha => h4 a (h7 a ha)) q⟩
  · rename_i xs
    cases e
    have r2 := r1
    simp only [Rep] at r1
    obtain ⟨a, us, rfl, h1, h2⟩ := r1
    obtain ⟨k, h5, h6, h7⟩ := Reps.cut h2 nd lo hi
    refine .inr (.inl ⟨a, us, rfl, s.sqT h1, fun hw => ?_, fun _ p hp => newTup s hp h5 h6 h7 q⟩)
    rw [Reps.length h2] at hw
    rw [cutL_whole hw] at q
    exact keep s r2 nd (fun _ z => z) q
  · cases e
def oSl (a b : Bool) : List T → R T := fun ts => match a, b, ts with
  | false, false, [x] => slT x none none
  | true, false, [x, .int i] => slT x (some i) none
  | false, true, [x, .int i] => slT x none (some i)
  | true, true, [x, .int i, .int j] => slT x (some i) (some j)
  | _, _, _ => stk
theorem te_sl00 {f : BM} {Q : VK} (h : TEof K ca md (eOp (oSl false false) (aCons f aNil)) σ H Q) : tSl (rSlAny K) (TBof K ca md f) tNoPart tNoPart σ H Q := by
  refine te_op1 (r := fun x H Q => rSlAny K x none none H Q) (fun F H ts vs f t Q s r nd e q => ?_) h
  unfold oSl at e
  split at e
  case h_1 h1 => obtain ⟨x, rfl, r1⟩ := reps1 r; exact ⟨x, rfl, s_sl s r1 nd e q⟩
  case h_2 h1 _ => cases h1
  case h_3 h1 => cases h1
  case h_4 h1 => cases h1
  case h_5 => cases e
theorem te_sl10 {f g : BM} {Q : VK} (h : TEof K ca md (eOp (oSl true false) (aCons f (aCons g aNil))) σ H Q) : tSl (rSlAny K) (TBof K ca md f) (tPart (TBof K ca md g)) tNoPart σ H Q := by
  refine te_op2 (r := fun x y H Q => ∃ i, y = .int i ∧ rSlAny K x (some i) none H Q) (fun F H ts vs f t Q s r nd e q => ?_) h
  unfold oSl at e
  split at e
  case h_2 =>
    obtain ⟨x, y, f1, f2, rfl, r1, r2, rfl⟩ := reps2 r
    simp only [Rep] at r2
    obtain ⟨rfl, rfl⟩ := r2
    rw [List.append_nil] at *
    exact ⟨x, _, rfl, _, rfl, s_sl s r1 nd e q⟩
  all_goals first | (rename_i h1 _; cases h1; done) | (rename_i h1 _ _; cases h1; done) | (rename_i h1; cases h1; done) | cases e
theorem te_sl01 {f g : BM} {Q : VK} (h : TEof K ca md (eOp (oSl false true) (aCons f (aCons g aNil))) σ H Q) : tSl (rSlAny K) (TBof K ca md f) tNoPart (tPart (TBof K ca md g)) σ H Q := by
  refine te_op2 (r := fun x y H Q => ∃ i, y = .int i ∧ rSlAny K x none (some i) H Q) (fun F H ts vs f t Q s r nd e q => ?_) h
  unfold oSl at e
  split at e
  case h_3 =>
    obtain ⟨x, y, f1, f2, rfl, r1, r2, rfl⟩ := reps2 r
    simp only [Rep] at r2
    obtain ⟨rfl, rfl⟩ := r2
    rw [List.append_nil] at *
    exact ⟨x, _, rfl, _, rfl, s_sl s r1 nd e q⟩
  all_goals first | (rename_i h1 _; cases h1; done) | (rename_i h1 _ _; cases h1; done) | (rename_i h1; cases h1; done) | cases e
/-- an operand that is an int -/
def Bop.isI : Bop → Option Int
  | .tmp (.int i) => some i
  | .br (.int i) _ => some i
  | _ => none
def bI (f : BM) : BM := fun env => do
  let (b, env1) ← f env
  let _ ← ck b.isI.isSome
  .ok (b, env1)
theorem tb_i {f : BM} {Q : VK} (h : TBof K ca md (bI f) σ H Q) : TBof K ca md f σ H (fun y H1 => ∃ i, y = .int i ∧ Q y H1) := by
  obtain ⟨F, env, fp, b, env', s, e, k⟩ := h
  obtain ⟨⟨b1, env1⟩, e1, e⟩ := bind_ok e
  obtain ⟨_, c, e⟩ := bind_ok e
  have c := ck_ok c
  cases e
  refine ⟨F, env, fp, b, env', s, e1, fun v H' F' fp' ft g kp s' o n d => ?_⟩
  refine ⟨(b.isI).getD 0, ?_, k v H' F' fp' ft g kp s' o n d⟩
  simp only [Ops] at o
  obtain ⟨v', us, f1, f2, h1, r, _⟩ := o
  cases h1
  unfold Bop.isI at c ⊢
  split at c
  · simp only [Op1, Rep] at r
    exact r.1
  · simp only [Op1, Rep] at r
    obtain ⟨_, _, fb, ⟨r, _⟩, _⟩ := r
    exact r
  · cases c
theorem te_sl11 {f g k : BM} {Q : VK} (h : TEof K ca md (eOp (oSl true true) (aCons f (aCons (bI g) (aCons (bI k) aNil)))) σ H Q) : tSl (rSlAny K) (TBof K ca md f) (tPart (TBof K ca md g)) (tPart (TBof K ca md k)) σ H Q := by
  have h1 : TAof K ca md (aCons f (aCons (bI g) (aCons (bI k) aNil))) σ H (fun vs H1 => ∃ x i j, vs = [x, .int i, .int j] ∧ rSlAny K x (some i) (some j) H1 Q) := by
    refine te_op (r := fun vs H1 Q => ∃ x i j, vs = [x, .int i, .int j] ∧ rSlAny K x (some i) (some j) H1 Q) (fun F H ts vs f t Q s r nd e q => ?_) h
    unfold oSl at e
    split at e
    case h_4 =>
      obtain ⟨x, y, z, f1, f2, f3, rfl, r1, r2, r3, rfl⟩ := reps3 r
      simp only [Rep] at r2 r3
      obtain ⟨rfl, rfl⟩ := r2
      obtain ⟨rfl, rfl⟩ := r3
      rw [List.append_nil, List.append_nil] at *
      exact ⟨x, _, _, rfl, s_sl s r1 nd e q⟩
    all_goals first | (rename_i h1 _; cases h1; done) | (rename_i h1 _ _; cases h1; done) | (rename_i h1; cases h1; done) | cases e
  refine (ta_cons h1 : TBof K ca md f σ H _).mono fun x H1 h1 => ?_
  refine (tb_i (ta_cons h1)).mono fun y H2 ⟨i, hy, h2⟩ => ⟨i, hy, ?_⟩
  refine (tb_i (ta_cons h2)).mono fun z H3 ⟨j, hz, h3⟩ => ⟨j, hz, ?_⟩
  obtain ⟨x', i', j', e, q⟩ := (ta_nil h3 : _)
  subst hy hz
  cases e
  exact q
theorem SR.replace {i : Nat} {w : V} {ft fi' : List Addr} {t' : T} (s : SR K ca F H σ env fp) (hσ : σ[i]? = some (some w)) (g : Go F H (fun a => a ∈ fp i ∨ a ∈ ft) F' H' (fun a => a ∈ fi' ∨ a ∈ fv)) (off : ∀ a ∈ ft, ¬ Ow fp a)
    (r : Rep K ca F' H' t' w fi') (nd : fi'.Nodup) (dv : ∀ a ∈ fv, a ∉ fi') : SR K ca F' H' σ (env.set i (some t')) (fpSet fp i fi') ∧ ∀ a ∈ fv, ¬ Ow (fpSet fp i fi') a := by
  have hil : i < env.length := by rw [s.len]; exact (List.getElem?_eq_some_iff.mp hσ).1
  have offi : ∀ a, (a ∈ fi' ∨ a ∈ fv) → ∀ j, j ≠ i → a ∉ fp j := fun a ha j hj z => by
    rcases g.fresh a ha with q | q
    · rcases q with q | q
      · exact hj (s.one j i a z q)
      · exact off a q ⟨j, z⟩
    · exact (s.alive a ⟨j, z⟩).1 q
  have sD : SR K ca F' H' σ (env.set i none) (fpSet fp i []) := s.drop.of_go g fun a ha z => by
    obtain ⟨j, hj⟩ := ha
    by_cases hji : j = i
    · subst hji; rw [fpSet_same] at hj; cases hj
    · rw [fpSet_ne hji] at hj
      rcases z with z | z
      · exact hji (s.one j i a hj z)
      · exact off a z ⟨j, hj⟩
  have sP := sD.put (i := i) (t := t') (v := w) (fv := fi') ⟨r, nd, fun a ha ⟨j, hj⟩ => by
    by_cases hji : j = i
    · subst hji; rw [fpSet_same] at hj; cases hj
    · rw [fpSet_ne hji] at hj; exact offi a (.inl ha) j hji hj⟩ (by rw [List.length_set]; exact hil)
  have e1' : σ.set i (some w) = σ := List.ext_getElem? fun j => by
    by_cases hji : i = j
    · subst hji; rw [List.getElem?_set_self (by rw [← s.len]; exact hil), hσ]
    · rw [List.getElem?_set_ne hji]
  have e2' : (env.set i none).set i (some t') = env.set i (some t') := List.set_set ..
  have e3' : fpSet (fpSet fp i []) i fi' = fpSet fp i fi' := funext fun j => by
    unfold fpSet
    split <;> rfl
  rw [e1', e2', e3'] at sP
  refine ⟨sP, fun a ha ⟨j, hj⟩ => ?_⟩
  by_cases hji : j = i
  · subst hji; rw [fpSet_same] at hj; exact dv a ha hj
  · rw [fpSet_ne hji] at hj; exact offi a (.inr ha) j hji hj
/-- the steps joined: operands under md0, then slot i changed -/
theorem Go.slot {md0 : List Nat} {i : Nat} {fp1 : Fp} {env1 : En} {ft fi' : List Addr} (him : i ∈ md) (hm : ∀ j, j ∈ md0 → j ∈ md) (g1 : Go F H (OwM md0 fp) F1 H1 (fun a => OwM md0 fp1 a ∨ a ∈ ft)) (k1 : Keep md0 env fp env1 fp1)
    (g3 : Go F1 H1 (fun a => a ∈ fp1 i ∨ a ∈ ft) F' H' (fun a => a ∈ fi' ∨ a ∈ fv)) : Go F H (OwM md fp) F' H' (fun a => OwM md (fpSet fp1 i fi') a ∨ a ∈ fv) := by
  have up : ∀ b, OwM md0 fp b → OwM md fp b := fun b ⟨j, hj, hj2⟩ => ⟨j, hm j hj, hj2⟩
  have back1 : ∀ b, (b ∈ fp1 i ∨ b ∈ ft) ∨ H1 b = none → OwM md fp b ∨ H b = none := fun b z => by
    rcases z with (z | z) | z
    · by_cases hmi : i ∈ md0
      · exact (g1.fresh b (.inl ⟨i, hmi, z⟩)).imp (up b) id
      · rw [k1.fp i hmi] at z
        exact .inl ⟨i, him, z⟩
    · exact (g1.fresh b (.inr z)).imp (up b) id
    · cases wH : H b with
      | none => exact .inr rfl
      | some o =>
        by_cases n1 : OwM md0 fp b
        · exact .inl (up b n1)
        · rw [g1.frame b o wH n1] at z; cases z
  refine ⟨g1.ext.trans g3.ext, g3.sub, fun b o eb n => ?_, fun b eb => ?_, fun b z => ?_⟩
  · have n1 : ¬ OwM md0 fp b := fun z => n (up b z)
    have h1b := g1.frame b o eb n1
    refine g3.frame b o h1b fun z => ?_
    rcases back1 b (.inl z) with q | q
    · exact n q
    · rw [q] at eb; cases eb
  · rcases g3.nofz b eb with q | q | q
    · exact (g1.nofz b q).imp id (Or.imp (up b) id)
    · exact .inr (back1 b (.inl q))
    · exact .inr (back1 b (.inr q))
  · rcases z with ⟨j, hj, hj2⟩ | z
    · by_cases hji : j = i
      · subst hji
        rw [fpSet_same] at hj2
        exact back1 b (g3.fresh b (.inl hj2))
      · rw [fpSet_ne hji] at hj2
        by_cases hmj : j ∈ md0
        · exact (g1.fresh b (.inl ⟨j, hmj, hj2⟩)).imp (up b) id
        · rw [k1.fp j hmj] at hj2
          exact .inl ⟨j, hj, hj2⟩
    · exact back1 b (g3.fresh b (.inr z))
def MutS (K : PySem.W.Frag) (ca : Ca) (r : V → List V → Hp → VK → Prop) (m : T → List T → R (T × T)) : Prop :=
  ∀ (F H : Hp) (t : T) (v : V) (fv : List Addr) (ts : List T) (vs : List V) (ft : List Addr) (t' u : T) (Q : VK), Sub F H → Rep K ca F H t v fv → fv.Nodup → Reps K ca F H ts vs ft → ft.Nodup → (∀ a ∈ fv, a ∉ ft) → m t ts = .ok (t', u) →
    (∀ w H' F' fv' fw, Go F H (fun a => a ∈ fv ∨ a ∈ ft) F' H' (fun a => a ∈ fv' ∨ a ∈ fw) → Rep K ca F' H' t' v fv' → Rep K ca F' H' u w fw → fv'.Nodup → fw.Nodup → (∀ a ∈ fw, a ∉ fv') → Q w H') → r v vs H Q
def T.at (env : En) (i : Nat) : Option T := env[i]?.join
theorem T.at_some {i : Nat} (h : T.at env i = some t) : env[i]? = some (some t) := by
  unfold T.at at h
  cases e : env[i]? with
  | none => rw [e] at h; cases h
  | some o => rw [e] at h; rw [show o = some t from h]
def eMut (i : Nat) (sh : T → Bool) (m : T → List T → R (T × T)) (f : AM) : EM := fun env => do
  let _ ← ck (match T.at env i with | some t => sh t | none => false)
  let (bs, env1) ← f env
  let ts ← tmps bs
  match env1[i]? with
  | some (some t) => do
    let (t', u) ← m t ts
    .ok (u, env1.set i (some t'))
  | _ => stk
theorem te_mut {md0 : List Nat} {i : Nat} {sh : T → Bool} {m : T → List T → R (T × T)} {ty : String} {r : V → List V → Hp → VK → Prop} {f : AM} {Q : VK} (him : i ∈ md) (hm : ∀ j, j ∈ md0 → j ∈ md) (hi0 : i ∉ md0) (hs : MutS K ca r m)
    (hty : ∀ (F H : Hp) (t : T) (v : V) (fv : List Addr), sh t = true → Sub F H → Rep K ca F H t v fv → tyV K ty v H) (h : TEof K ca md (eMut i sh m f) σ H Q) : tBM K ty r (tVar i) (TAof K ca md0 f) σ H Q := by
  obtain ⟨F, env, fp, u, env', s, e, k⟩ := h
  obtain ⟨_, c0, e0⟩ := bind_ok e
  have c0 := ck_ok c0
  obtain ⟨⟨bs, env1⟩, e1, ea⟩ := bind_ok e0
  obtain ⟨ts, e2, eb⟩ := bind_ok ea
  clear e ea e0
  have eb : (match env1[i]? with
    | some (some t) => m t ts >>= fun z => match z with
      | (t', u) => Except.ok (u, env1.set i (some t'))
    | _ => stk) = Except.ok (u, env') := eb
  split at eb
  case h_2 => cases eb
  case h_1 t et =>
    obtain ⟨⟨t', u'⟩, e3, e4⟩ := bind_ok eb
    cases e4
    -- where the slot stands: length tells that it is there before
    have go : ∀ vs H1 F1 fp1 ft, Go F H (OwM md0 fp) F1 H1 (fun a => OwM md0 fp1 a ∨ a ∈ ft) → Keep md0 env fp env1 fp1 → SR K ca F1 H1 σ env1 fp1 → Ops K ca md0 F1 H1 σ fp1 bs vs ft → ft.Nodup → (∀ a ∈ ft, ¬ Ow fp1 a) → ∀ v, σ[i]? = some (some v) → r v vs H1 Q := by
      intro vs H1 F1 fp1 ft g1 k1 s1 o1 n1 d1 v hv
      obtain ⟨v', e5, rv⟩ := s1.slot i t et
      rw [hv] at e5
      cases e5
      refine hs F1 H1 t v (fp1 i) ts vs ft t' u Q s1.sub rv (s1.nd i) (o1.tmps e2) n1 (fun a ha z => d1 a z ⟨i, ha⟩) e3 fun w H2 F2 fv' fw g2 r1 r2 n2 n3 d2 => ?_
      obtain ⟨sP, dP⟩ := s1.replace hv g2 (fun a ha => d1 a ha) r1 n2 d2
      refine k w H2 F2 (fpSet fp1 i fv') fw (Go.slot him hm g1 k1 g2) ⟨fun j hj => ?_, fun j hj => ?_⟩ sP ⟨r2, n3, dP⟩
      · have hji : j ≠ i := fun z => hj (by rw [z]; exact him)
        rw [fpSet_ne hji]
        exact k1.fp j fun z => hj (hm j z)
      · have hji : i ≠ j := fun z => hj (by rw [← z]; exact him)
        rw [List.getElem?_set_ne hji]
        exact k1.env j fun z => hj (hm j z)
    -- the slot ahead of the operands
    cases h0 : T.at env i with
    | none => rw [h0] at c0; cases c0
    | some t0 =>
      rw [h0] at c0
      obtain ⟨v0, hv0, r0⟩ := s.slot i t0 (T.at_some h0)
      exact ⟨v0, hv0, hty F H t0 v0 (fp i) c0 s.sub r0, F, env, fp, bs, env1, s, e1, fun vs H1 F1 fp1 ft g1 k1 s1 o1 n1 d1 => go vs H1 F1 fp1 ft g1 k1 s1 o1 n1 d1 v0 hv0⟩

def T.isLst : T → Bool
  | .lst true _ => true
  | _ => false
theorem ty_lst (F H : Hp) (t : T) (v : V) (fv : List Addr) (h : t.isLst = true) (s : Sub F H) (r : Rep K ca F H t v fv) : tyV K "list" v H := by
  cases t with
  | lst o xs =>
    cases o with
    | true =>
      simp only [Rep] at r
      obtain ⟨a, us, g, rfl, h1, _⟩ := r
      exact .inl ⟨rfl, us, SqL.of h1⟩
    | false => cases h
  | _ => cases h
/-- the list's object as it is changed -/
theorem lst_mut {ys : List T} {a : Addr} {us ws : List V} {g ft g' fw : List Addr} {u : T} {Q : VK} {w : V} (s : Sub F H) (h1 : H a = some (.lst us)) (h2 : F a = none) (ha : a ∉ ft) (hag : a ∉ g)
    (hs : ∀ F' H', Go F H (· = a) F' H' (fun _ => False) → Reps K ca F' H' ys ws g' ∧ Rep K ca F' H' u w fw) (n1 : g'.Nodup) (n2 : fw.Nodup) (d : ∀ x ∈ fw, x ∉ g') (m1 : ∀ x ∈ g', x ∈ g ∨ x ∈ ft) (m2 : ∀ x ∈ fw, x ∈ g ∨ x ∈ ft)
    (q : ∀ w H' F' fv' fw, Go F H (fun b => b ∈ a :: g ∨ b ∈ ft) F' H' (fun b => b ∈ fv' ∨ b ∈ fw) → Rep K ca F' H' (.lst true ys) (.ref a) fv' → Rep K ca F' H' u w fw → fv'.Nodup → fw.Nodup → (∀ x ∈ fw, x ∉ fv') → Q w H') : Q w (upd H a (.lst ws)) := by
  have gw : Go F H (· = a) F (upd H a (.lst ws)) (fun _ => False) := Go.write s rfl h2 fun b z => z.elim
  obtain ⟨r1, r2⟩ := hs _ _ gw
  have a1 : a ∉ g' := fun z => (m1 a z).elim hag ha
  have a2 : a ∉ fw := fun z => (m2 a z).elim hag ha
  have g0 : Go F H (fun b => b ∈ a :: g ∨ b ∈ ft) F (upd H a (.lst ws)) (fun _ => False) := gw.weak (fun x z => .inl (by rw [z]; exact List.mem_cons_self)) fun _ z => z
  refine q w _ F (a :: g') fw ⟨g0.ext, g0.sub, g0.frame, g0.nofz, fun b z => ?_⟩ ?_ r2 (List.nodup_cons.mpr ⟨a1, n1⟩) n2 fun x hx z => ?_
  · rcases z with z | z
    · rcases List.mem_cons.mp z with z | z
      · exact .inl (.inl (by rw [z]; exact List.mem_cons_self))
      · exact .inl ((m1 b z).imp (List.mem_cons_of_mem _) id)
    · exact .inl ((m2 b z).imp (List.mem_cons_of_mem _) id)
  · simp only [Rep]
    exact ⟨a, ws, g', rfl, upd_same, h2, r1, rfl⟩
  · rcases List.mem_cons.mp z with z | z
    · exact a2 (by rw [← z]; exact hx)
    · exact d x hx z
def mAppend : T → List T → R (T × T)
  | .lst true xs, [t] => do
    let _ ← ck (decide (xs.length < big))
    .ok (.lst true (xs ++ [t]), .non)
  | _, _ => stk
theorem s_append : MutS K ca rAppend mAppend := by
  intro F H t v fv ts vs ft t' u Q s r n rs ns d e q
  unfold mAppend at e
  split at e
  · rename_i xs x
    obtain ⟨_, c, e⟩ := bind_ok e
    cases e
    obtain ⟨y, rfl, ry⟩ := reps1 rs
    simp only [Rep] at r
    obtain ⟨a, us, g, rfl, h1, h2, h3, rfl⟩ := r
    have nc := List.nodup_cons.mp n
    refine ⟨a, us, y, rfl, rfl, h1, by rw [Reps.length h3]; exact big_lt (of_decide_eq_true (ck_ok c)), ?_⟩
    refine lst_mut (g := g) (ft := ft) (g' := g ++ ft) (fw := []) s h1 h2 (d a List.mem_cons_self) nc.1 (fun F' H' gg => ⟨?_, rep_non⟩) (List.nodup_append.mpr ⟨nc.2, ns, fun x hx y hy z => d x (List.mem_cons_of_mem _ hx) (by rw [z]; exact hy)⟩) List.nodup_nil (fun _ z => absurd z (by simp)) (fun x hx => List.mem_append.mp hx) (fun _ z => absurd z (by simp)) q
    refine (h3.of_go gg fun b hb z => nc.1 (by rw [← z]; exact hb)).append ?_
    simp only [Reps]
    exact ⟨y, [], ft, [], rfl, ry.of_go gg fun b hb z => d a List.mem_cons_self (by rw [← z]; exact hb), ⟨rfl, rfl⟩, by rw [List.append_nil]⟩
  · cases e
def mExtend : T → List T → R (T × T)
  | .lst true xs, [.lst _ ys] => do
    let _ ← ck (decide (xs.length + ys.length ≤ big))
    .ok (.lst true (xs ++ ys), .non)
  | _, _ => stk
theorem s_extend : MutS K ca rExtend mExtend := by
  intro F H t v fv ts vs ft t' u Q s r n rs ns d e q
  unfold mExtend at e
  split at e
  · rename_i xs o ys
    obtain ⟨_, c, e⟩ := bind_ok e
    cases e
    obtain ⟨y, rfl, ry⟩ := reps1 rs
    simp only [Rep] at r
    obtain ⟨a, us, g, rfl, h1, h2, h3, rfl⟩ := r
    have nc := List.nodup_cons.mp n
    obtain ⟨b, ws, gb, rfl, hb1, hb2, hb3, hb4, hb5⟩ := ry.lst s ns
    have nab : a ≠ b := fun z => by
      subst z
      rcases hb5 with ⟨_, e5, _⟩ | ⟨_, _, _, e5⟩
      · exact d a List.mem_cons_self (by rw [e5]; exact List.mem_cons_self)
      · rw [h2] at e5; cases e5
    refine ⟨a, b, us, ws, rfl, rfl, h1, hb1, by rw [Reps.length h3, Reps.length hb2]; exact big_le (of_decide_eq_true (ck_ok c)), ?_⟩
    refine lst_mut (g := g) (ft := ft) (g' := g ++ gb) (fw := []) s h1 h2 (d a List.mem_cons_self) nc.1 (fun F' H' gg => ⟨?_, rep_non⟩) (List.nodup_append.mpr ⟨nc.2, hb3, fun x hx y hy z => d x (List.mem_cons_of_mem _ hx) (by rw [z]; exact hb4 y hy)⟩) List.nodup_nil (fun _ z => absurd z (by simp)) (fun x hx => (List.mem_append.mp hx).imp id (hb4 x)) (fun _ z => absurd z (by simp)) q
    exact (h3.of_go gg fun b hb z => nc.1 (by rw [← z]; exact hb)).append (hb2.of_go gg fun b hb z => d a List.mem_cons_self (by rw [← z]; exact hb4 b hb))
  · cases e
def mReverse : T → List T → R (T × T)
  | .lst true xs, [] => do
    let _ ← ck (!T.owl xs)
    .ok (.lst true xs.reverse, .non)
  | _, _ => stk
theorem Reps.reverse {ts : List T} {us : List V} (h : Reps K ca F H ts us []) : Reps K ca F H ts.reverse us.reverse [] := by
  induction ts generalizing us with
  | nil => simp only [Reps] at h; rw [h.1]; simp [Reps]
  | cons t ts ih =>
    simp only [Reps] at h
    obtain ⟨v, us', f, g, rfl, r, rs, e⟩ := h
    have e1 : f = [] := List.append_eq_nil_iff.mp e.symm |>.1
    have e2 : g = [] := List.append_eq_nil_iff.mp e.symm |>.2
    subst e1 e2
    rw [List.reverse_cons, List.reverse_cons]
    have := (ih rs).append (show Reps K ca F H [t] [v] [] by simp only [Reps]; exact ⟨v, [], [], [], rfl, r, ⟨rfl, rfl⟩, rfl⟩)
    simpa using this
theorem s_reverse : MutS K ca rReverse mReverse := by
  intro F H t v fv ts vs ft t' u Q s r n rs ns d e q
  unfold mReverse at e
  split at e
  · rename_i xs
    obtain ⟨_, c, e⟩ := bind_ok e
    cases e
    simp only [Reps] at rs
    obtain ⟨rfl, rfl⟩ := rs
    simp only [Rep] at r
    obtain ⟨a, us, g, rfl, h1, h2, h3, rfl⟩ := r
    have hg := Reps.pure_fp _ (by simpa using ck_ok c) h3
    subst hg
    refine ⟨a, us, rfl, rfl, h1, ?_⟩
    exact lst_mut (g := []) (ft := []) (g' := []) (fw := []) s h1 h2 (by simp) (by simp) (fun F' H' gg => ⟨(h3.reverse).of_go gg fun b hb z => absurd hb (by simp), rep_non⟩) List.nodup_nil List.nodup_nil (fun _ z => absurd z (by simp)) (fun x hx => absurd hx (by simp)) (fun _ z => absurd z (by simp)) q
  · cases e
def mClear : T → List T → R (T × T)
  | .lst true _, [] => .ok (.lst true [], .non)
  | _, _ => stk
theorem s_clear : MutS K ca rClear mClear := by
  intro F H t v fv ts vs ft t' u Q s r n rs ns d e q
  unfold mClear at e
  split at e
  · cases e
    simp only [Reps] at rs
    obtain ⟨rfl, rfl⟩ := rs
    simp only [Rep] at r
    obtain ⟨a, us, g, rfl, h1, h2, h3, rfl⟩ := r
    have nc := List.nodup_cons.mp n
    refine ⟨a, us, rfl, rfl, h1, ?_⟩
    exact lst_mut (g := g) (ft := []) (g' := []) (fw := []) s h1 h2 (by simp) nc.1 (fun F' H' gg => ⟨by simp only [Reps]; trivial, rep_non⟩) List.nodup_nil List.nodup_nil (fun _ z => absurd z (by simp)) (fun x hx => absurd hx (by simp)) (fun _ z => absurd z (by simp)) q
  · cases e
abbrev rInsert : V → List V → Hp → VK → Prop := fun x vs H Q => ∃ (l : Addr) (xs : List V) (i : Int) (y : V), x = .ref l ∧ vs = [.int i, y] ∧ H l = some (.lst xs) ∧ xs.length < sizeLine ∧ 0 ≤ i ∧ i < 2 ^ 63 ∧ Q .non (upd H l (.lst (xs.take i.toNat ++ [y] ++ xs.drop i.toNat)))
def mInsert : T → List T → R (T × T)
  | .lst true xs, [.int i, t] => do
    let _ ← ck (!T.owl xs && (decide (xs.length < big) && (decide (0 ≤ i) && decide (i < 2 ^ 63))))
    .ok (.lst true (xs.take i.toNat ++ [t] ++ xs.drop i.toNat), .non)
  | _, _ => stk
theorem s_insert : MutS K ca rInsert mInsert := by
  intro F H t v fv ts vs ft t' u Q s r n rs ns d e q
  unfold mInsert at e
  split at e
  · rename_i xs i x
    obtain ⟨_, c, e⟩ := bind_ok e
    cases e
    have c := ck_ok c
    simp only [Bool.and_eq_true, decide_eq_true_eq, Bool.not_eq_true'] at c
    obtain ⟨y0, y, f0, f1, rfl, r0, ry, rfl⟩ := reps2 rs
    simp only [Rep] at r0
    obtain ⟨rfl, rfl⟩ := r0
    rw [List.nil_append] at *
    simp only [Rep] at r
    obtain ⟨a, us, g, rfl, h1, h2, h3, rfl⟩ := r
    have hg := Reps.pure_fp _ c.1 h3
    subst hg
    have part : ∀ {zs : List T} {ws : List V} {k : List Addr}, Reps K ca F H zs ws k → (∀ a ∈ k, a ∈ ([] : List Addr)) → Reps K ca F H zs ws [] := fun h hk => by
      rename_i zs ws k
      have : k = [] := List.eq_nil_iff_forall_not_mem.mpr fun a ha => absurd (hk a ha) (by simp)
      subst this
      exact h
    obtain ⟨k1, p1, _, p2⟩ := Reps.take i.toNat h3 List.nodup_nil
    obtain ⟨k2, p3, _, p4⟩ := Reps.drop 0 i.toNat h3 List.nodup_nil
    refine ⟨a, us, i, y, rfl, rfl, h1, by rw [Reps.length h3]; exact big_lt c.2.1, c.2.2.1, c.2.2.2, ?_⟩
    refine lst_mut (g := []) (ft := f1) (g' := f1) (fw := []) s h1 h2 (d a List.mem_cons_self) (by simp) (fun F' H' gg => ⟨?_, rep_non⟩) ns List.nodup_nil (fun _ z => absurd z (by simp)) (fun x hx => .inr hx) (fun _ z => absurd z (by simp)) q
    have r1 : Reps K ca F H ([x] : List T) [y] f1 := by
      simp only [Reps]
      exact ⟨y, [], f1, [], rfl, ry, ⟨rfl, rfl⟩, by rw [List.append_nil]⟩
    have := ((part p1 p2).append r1).append (part p3 p4)
    rw [List.nil_append, List.append_nil] at this
    exact this.of_go gg fun b hb z => d a List.mem_cons_self (by rw [← z]; exact hb)
  · cases e
end
end QL
namespace QL
open PySem L2 RZ

def iAny (K : PySem.W.Frag) (tl : TE) : TI := fun σ H R => tl σ H fun x H1 => (∃ a, x = .ref a ∧ (∃ xs, SqL K H1 a xs) ∧ R (Itl K a) H1) ∨ (∃ a, x = .ref a ∧ (∃ xs, SqT K H1 a xs) ∧ R (Itt K a) H1) ∨ ∃ z, x = .str z ∧ R (Its z) H1
theorem pi_any {X : Cx} {tg l : Expr} {tl : TE} (hl : PE X l tl) : PI X tg l (iAny X.K tl) := by
  refine ⟨fun pins s σ H R I h => ?_⟩
  refine thn (hl.run pins s σ H _ I h) fun v s1 ⟨x, H1, I1, r1, q1⟩ => ?_
  rcases q1 with ⟨a, e, ⟨xs, hq⟩, q⟩ | ⟨a, e, ⟨xs, hq⟩, q⟩ | ⟨z, ex, q⟩
  · subst e
    cases r1
    obtain ⟨its, rv, p, hz⟩ := I1.list hq
    refine wpAny_pyIter_list p.isList ?_
    refine ⟨s1.heap.objs.size, [s1.heap.objs.size], _, _, H1, rfl, I1.kept (t' := s1.toks) fun b o e => Heap.get?_push_of_some _ e, turn_list a _, ⟨_, Heap.get?_push_size _ rfl, rfl, rfl⟩, fun b hb => ?_, q⟩
    have e : b = s1.heap.objs.size := by simpa using hb
    subst e
    exact I1.fpOk (Nat.le_refl _) (I1.hok.fresh (Nat.le_refl _))
  · subst e
    cases r1
    obtain ⟨its, rv, p, hz⟩ := I1.tuple hq
    refine wpAny_pyIter_tuple (show s1.heap.IsTuple a its.toArray from p) ?_
    refine ⟨s1.heap.objs.size, [s1.heap.objs.size], _, _, H1, rfl, I1.kept (t' := s1.toks) fun b o e => Heap.get?_push_of_some _ e, turn_tuple a _, ⟨_, Heap.get?_push_size _ rfl, rfl, rfl⟩, fun b hb => ?_, q⟩
    have e : b = s1.heap.objs.size := by simpa using hb
    subst e
    exact I1.fpOk (Nat.le_refl _) (I1.hok.fresh (Nat.le_refl _))
  · subst ex
    obtain ⟨t, rfl⟩ := r1
    cases ha : z.cps.all (· < 128)
    · exact wpAny_pyIter_wide ha (pi_one (tk := s1.toks) I1 _ (turn_str _ z t "str_iterator" (.inr rfl)) ⟨_, Heap.get?_push_size _ rfl, rfl, rfl⟩ q)
    · exact wpAny_pyIter_ascii ha (pi_one (tk := s1.toks) I1 _ (turn_str _ z t "str_ascii_iterator" (.inl rfl)) ⟨_, Heap.get?_push_size _ rfl, rfl, rfl⟩ q)

section
variable {K : PySem.W.Frag} {ca : Ca} {F F' F1 H H' H1 : Hp} {O O' : Addr → Prop} {σ : L2.St} {env : En} {fp : Fp} {t : T} {v : V} {fv : List Addr} {ts : List T} {vs : List V} {md : List Nat}
/-- operands that may be walked: no owned slot -/
def Bop.still : Bop → Bool
  | .tmp _ => true
  | .br t _ => !t.ow
  | .io _ => false
def srcT (bs : List Bop) (env : En) : R (List T) := do
  let _ ← ck (bs.all Bop.still)
  argsT env bs
theorem reps_of {us : List V} : ∀ {ts : List T}, ts.length = us.length → (∀ (p : Nat) (t : T), ts[p]? = some t → ∃ v, us[p]? = some v ∧ Rep K ca F H t v []) → Reps K ca F H ts us [] := by
  induction us with
  | nil => intro ts hl _; have : ts = [] := List.length_eq_zero_iff.mp (by simpa using hl); subst this; simp only [Reps]; trivial
  | cons u us ih =>
    intro ts hl h
    cases ts with
    | nil => simp at hl
    | cons t ts =>
      obtain ⟨v, e, r⟩ := h 0 t rfl
      simp only [List.getElem?_cons_zero, Option.some.injEq] at e
      subst e
      simp only [Reps]
      exact ⟨u, us, [], [], rfl, r, ih (by simpa using hl) (fun p t e => by simpa using h (p + 1) t (by simpa using e)), rfl⟩
theorem srcT_ok {bs : List Bop} {ft : List Addr} (s : SR K ca F H σ env fp) (h : Ops K ca md F H σ fp bs vs ft) (n : ft.Nodup) (d : ∀ a ∈ ft, ¬ Ow fp a) (e : srcT bs env = .ok ts) :
    ∃ F2, Go F H (· ∈ ft) F2 H (fun _ => False) ∧ Reps K ca F2 H ts vs [] := by
  obtain ⟨_, c, e⟩ := bind_ok e
  have c := ck_ok c
  obtain ⟨B, hB1, hB2, hB3⟩ := Ops.args s h e
  have nob : bs.any Bop.bo = false := by
    rw [List.any_eq_false]
    intro b hb
    have := List.all_eq_true.mp c b hb
    cases b with
    | tmp t => simp [Bop.bo]
    | br t i => simpa [Bop.bo, Bop.still] using this
    | io i => simp [Bop.bo]
  have noio : ∀ i, Bop.io i ∉ bs := fun i hi => by
    have := List.all_eq_true.mp c _ hi
    simp [Bop.still] at this
  have hB := hB2 nob
  subst hB
  have al := h.alive
  have view : ∃ Fv : Hp, (∀ a, a ∈ ft → Fv a = H a) ∧ (∀ a, a ∉ ft → Fv a = F a) := by
    classical
    exact ⟨fun a => if a ∈ ft then H a else F a, fun a z => if_pos z, fun a z => if_neg z⟩
  obtain ⟨Fv, v1, v2⟩ := view
  have sv : Sub F Fv := fun a o ea => by
    by_cases z : a ∈ ft
    · rw [v1 a z]; exact s.sub a o ea
    · rw [v2 a z]; exact ea
  have svH : Sub Fv H := fun a o ea => by
    by_cases z : a ∈ ft
    · rw [v1 a z] at ea; exact ea
    · rw [v2 a z] at ea; exact s.sub a o ea
  obtain ⟨l1, l2, hr⟩ := hB3 Fv sv (fun a ha => absurd ha (by simp)) v1 (fun i hi => absurd hi (noio i))
  refine ⟨Fv, ⟨sv, svH, fun _ _ e _ => e, fun b e => ?_, fun _ z => z.elim⟩, reps_of (by rw [l1, l2]) fun p t et => ?_⟩
  · by_cases z : b ∈ ft
    · exact .inr (.inl z)
    · rw [v2 b z] at e; exact .inl e
  · obtain ⟨w, h1, h2⟩ := hr p t et
    refine ⟨w, h1, ?_⟩
    rcases h2 with ⟨i, h2, _⟩ | ⟨_, h2⟩
    · exact absurd (List.mem_of_getElem? h2) (noio i)
    · exact h2
/-- from operands to what is walked -/
theorem is_of {f : AM} {w : List T → R (List T)} {R : It → Hp → Prop} {Q : List V → Hp → Prop} (h : ISof K ca md (fun env => do
    let (bs, env1) ← f env
    let ts ← srcT bs env1
    let xs ← w ts
    .ok (xs, env1)) σ H R)
    (q : ∀ vs H' F' ts xs, Sub F' H' → Reps K ca F' H' ts vs [] → w ts = .ok xs → (∀ J, Iter K ca J xs F' → R J H') → Q vs H') : TAof K ca md f σ H Q := by
  obtain ⟨F, env, fp, xs, env', s, e, k⟩ := h
  obtain ⟨⟨bs, env1⟩, e1, ea⟩ := bind_ok e
  obtain ⟨ts, e2, eb⟩ := bind_ok ea
  obtain ⟨ys, e3, ec⟩ := bind_ok eb
  clear e ea eb
  cases ec
  refine ⟨F, env, fp, bs, env', s, e1, fun vs H1 F1 fp1 ft g1 k1 s1 o1 n1 d1 => ?_⟩
  obtain ⟨F2, g2, r2⟩ := srcT_ok s1 o1 n1 d1 e2
  have g12 : Go F H (OwM md fp) F2 H1 (OwM md fp1) := g1.trans g2 (fun a z => .inr z) fun a z => .inr (.inl z)
  exact q vs H1 F2 ts xs g2.sub r2 e3 fun J it => k J H1 F2 fp1 g12 k1 (s1.of_go g2 fun a z w => d1 a w z) it
def chars (z : Str) : List T := z.cps.toList.map fun c => .str ⟨#[c]⟩
def seqT : List T → R (List T)
  | [.str z] => .ok (chars z)
  | [x] => match x.seq with
    | some xs => .ok xs
    | none => stk
  | _ => stk
def iSeq (f : BM) : En → R (List T × En) := fun env => do
  let (bs, env1) ← aCons f aNil env
  let ts ← srcT bs env1
  let xs ← seqT ts
  .ok (xs, env1)
theorem reps_at {us : List V} {i : Nat} {x : T} (h : Reps K ca F H ts us []) (e : ts[i]? = some x) : ∃ u, us[i]? = some u ∧ Rep K ca F H x u [] := by
  obtain ⟨u, g, h1, h2, _, h4⟩ := Reps.at (i := i) h List.nodup_nil e
  have : g = [] := List.eq_nil_iff_forall_not_mem.mpr fun a ha => absurd (h4 a ha) (by simp)
  subst this
  exact ⟨u, h1, h2⟩
theorem iter_list {a : Addr} {us : List V} (hq : SqL K F a us) (h : Reps K ca F H ts us []) : Iter K ca (Itl K a) ts F := by
  refine ⟨_, _, (Reps.length h) ▸ walk_list (K := K) (a := a) (xs := us), fun H' s => s.sqL hq, fun i t F1 H1 x H2 et s1 s2 y => ?_⟩
  obtain ⟨e, y⟩ := y
  subst e
  obtain ⟨u, h1, h2⟩ := reps_at (i := i) h et
  rw [h1] at y
  cases y
  exact ⟨F1, Go.refl s2 fun _ z => z, Rep.go s1 t h2 (fun _ z => absurd z (by simp)) (fun _ z => absurd z (by simp))⟩
theorem iter_tup {a : Addr} {us : List V} (hq : SqT K F a us) (h : Reps K ca F H ts us []) : Iter K ca (Itt K a) ts F := by
  refine ⟨_, _, (Reps.length h) ▸ walk_tup (K := K) (a := a) (xs := us), fun H' s => s.sqT hq, fun i t F1 H1 x H2 et s1 s2 y => ?_⟩
  obtain ⟨e, y⟩ := y
  subst e
  obtain ⟨u, h1, h2⟩ := reps_at (i := i) h et
  rw [h1] at y
  cases y
  exact ⟨F1, Go.refl s2 fun _ z => z, Rep.go s1 t h2 (fun _ z => absurd z (by simp)) (fun _ z => absurd z (by simp))⟩
theorem iter_str {z : Str} : Iter K ca (Its z) (chars z) F := by
  have hl : (chars z).length = z.cps.size := by simp [chars]
  refine ⟨_, _, hl ▸ walk_str (z := z), fun H' s => trivial, fun i t F1 H1 x H2 et s1 s2 y => ?_⟩
  obtain ⟨e, c, hc, hx⟩ := y
  subst e hx
  have : t = .str ⟨#[c]⟩ := by
    simp only [chars, List.getElem?_map, Array.getElem?_toList, hc, Option.map_some, Option.some.injEq] at et
    exact et.symm
  subst this
  exact ⟨F1, Go.refl s2 fun _ z => z, rep_str⟩
/-- a frozen list or tuple in F itself -/
theorem Rep.seqF {xs : List T} (h : Rep K ca F H t v []) (e : t.seq = some xs) : ∃ a us, v = .ref a ∧ (SqL K F a us ∨ SqT K F a us) ∧ Reps K ca F H xs us [] := by
  cases t with
  | lst o ys =>
    cases e
    cases o with
    | true => simp only [Rep] at h; obtain ⟨a, us, g, _, _, _, _, h⟩ := h; cases h
    | false => simp only [Rep] at h; obtain ⟨a, us, h1, h2, h3, _⟩ := h; exact ⟨a, us, h1, .inl (SqL.of h2), h3⟩
  | lk ys =>
    cases e
    simp only [Rep] at h
    obtain ⟨a, us, h1, h2, h3, _⟩ := h
    exact ⟨a, us, h1, .inl h2, h3⟩
  | tup ys =>
    cases e
    simp only [Rep] at h
    obtain ⟨a, us, h1, h2, h3⟩ := h
    exact ⟨a, us, h1, .inr h2, h3⟩
  | _ => cases e
theorem is_seq {f : BM} {R : It → Hp → Prop} (h : ISof K ca md (iSeq f) σ H R) : iAny K (TBof K ca md f) σ H R := by
  have h1 : TAof K ca md (aCons f aNil) σ H (fun vs H1 => ∃ x, vs = [x] ∧ ((∃ a, x = .ref a ∧ (∃ xs, SqL K H1 a xs) ∧ R (Itl K a) H1) ∨ (∃ a, x = .ref a ∧ (∃ xs, SqT K H1 a xs) ∧ R (Itt K a) H1) ∨ ∃ z, x = .str z ∧ R (Its z) H1)) := by
    refine is_of h fun vs H' F' ts xs s r e q => ?_
    unfold seqT at e
    split at e
    · cases e
      obtain ⟨x, rfl, r1⟩ := reps1 r
      simp only [Rep] at r1
      exact ⟨x, rfl, .inr (.inr ⟨_, r1.1, q _ iter_str⟩)⟩
    · split at e
      · rename_i x ys hx
        cases e
        obtain ⟨x', rfl, r1⟩ := reps1 r
        obtain ⟨a, us, rfl, h1, h2⟩ := r1.seqF hx
        rcases h1 with h1 | h1
        · exact ⟨_, rfl, .inl ⟨a, rfl, ⟨us, s.sqL h1⟩, q _ (iter_list h1 h2)⟩⟩
        · exact ⟨_, rfl, .inr (.inl ⟨a, rfl, ⟨us, s.sqT h1⟩, q _ (iter_tup h1 h2)⟩)⟩
      · cases e
    · cases e
  exact ta_one (r := fun x H1 _ => (∃ a, x = .ref a ∧ (∃ xs, SqL K H1 a xs) ∧ R (Itl K a) H1) ∨ (∃ a, x = .ref a ∧ (∃ xs, SqT K H1 a xs) ∧ R (Itt K a) H1) ∨ ∃ z, x = .str z ∧ R (Its z) H1) (Q := fun _ _ => True) h1
def rngT (lo : Int) (n : Nat) : List T := (List.range n).map fun i => .int (lo + (i : Nat))
def rngC (lo c : Int) (n : Nat) : List T := (List.range n).map fun i => .int (lo + (i : Nat) * c)
def fitI (i : Int) : Bool := decide (-1000000000000 < i) && decide (i < 1000000000000)
theorem fitI_ok {i : Int} (h : fitI i = true) : -(2 ^ 62) ≤ i ∧ i < 2 ^ 62 := by
  unfold fitI at h
  simp only [Bool.and_eq_true, decide_eq_true_eq] at h
  omega
def rng1 : List T → R (List T)
  | [.int j] => do
    let _ ← ck (fitI j)
    .ok (rngT 0 j.toNat)
  | _ => stk
def rng2 : List T → R (List T)
  | [.int i, .int j] => do
    let _ ← ck (fitI i && fitI j)
    .ok (rngT i (j - i).toNat)
  | _ => stk
def rng3 : List T → R (List T)
  | [.int i, .int j, .int c] => do
    let _ ← ck (Builtin.Range.small i j c && (decide (c ≠ 0) && decide (c.natAbs < 1073741824)))
    .ok (rngC i c (Builtin.Range.rangeSize i j c).toNat)
  | _ => stk
def iRng (w : List T → R (List T)) (f : AM) : En → R (List T × En) := fun env => do
  let (bs, env1) ← f env
  let ts ← srcT bs env1
  let xs ← w ts
  .ok (xs, env1)
theorem iter_rng {lo : Int} {n : Nat} : Iter K ca (Itr lo n) (rngT lo n) F := by
  have hl : (rngT lo n).length = n := by simp [rngT]
  refine ⟨_, _, by rw [hl]; exact walk_range, fun H' s => trivial, fun i t F1 H1 x H2 et s1 s2 y => ?_⟩
  obtain ⟨e, y⟩ := y
  subst e y
  have hi : i < n := by
    have := (List.getElem?_eq_some_iff.mp et).1
    rw [hl] at this
    exact this
  have : t = .int (lo + (i : Nat)) := by
    simp [rngT, List.getElem?_map, List.getElem?_range hi] at et
    exact et.symm
  subst this
  exact ⟨F1, Go.refl s2 fun _ z => z, rep_int⟩
theorem iter_rngC {lo c : Int} {n : Nat} : Iter K ca (Itc lo c n) (rngC lo c n) F := by
  have hl : (rngC lo c n).length = n := by simp [rngC]
  refine ⟨_, _, by rw [hl]; exact walk_rangeC, fun H' s => trivial, fun i t F1 H1 x H2 et s1 s2 y => ?_⟩
  obtain ⟨e, y⟩ := y
  subst e y
  have hi : i < n := by
    have := (List.getElem?_eq_some_iff.mp et).1
    rw [hl] at this
    exact this
  have : t = .int (lo + (i : Nat) * c) := by
    simp [rngC, List.getElem?_map, List.getElem?_range hi] at et
    exact et.symm
  subst this
  exact ⟨F1, Go.refl s2 fun _ z => z, rep_int⟩
theorem is_rng1 {f : AM} {R : It → Hp → Prop} (h : ISof K ca md (iRng rng1 f) σ H R) : iRng1 (TAof K ca md f) σ H R := by
  refine is_of h fun vs H' F' ts xs s r e q => ?_
  unfold rng1 at e
  split at e
  · obtain ⟨_, c, e⟩ := bind_ok e
    cases e
    obtain ⟨x, rfl, r1⟩ := reps1 r
    simp only [Rep] at r1
    obtain ⟨h1, h2⟩ := fitI_ok (ck_ok c)
    exact ⟨_, by rw [r1.1], h1, h2, q _ iter_rng⟩
  · cases e
theorem is_rng2 {f : AM} {R : It → Hp → Prop} (h : ISof K ca md (iRng rng2 f) σ H R) : iRng2 (TAof K ca md f) σ H R := by
  refine is_of h fun vs H' F' ts xs s r e q => ?_
  unfold rng2 at e
  split at e
  · obtain ⟨_, c, e⟩ := bind_ok e
    cases e
    obtain ⟨x, y, f1, f2, rfl, r1, r2, _⟩ := reps2 r
    simp only [Rep] at r1 r2
    have c := ck_ok c
    rw [Bool.and_eq_true] at c
    obtain ⟨h1, h2⟩ := fitI_ok c.1
    obtain ⟨h3, h4⟩ := fitI_ok c.2
    exact ⟨_, _, by rw [r1.1, r2.1], ⟨h1, h2, h3, h4⟩, q _ iter_rng⟩
  · cases e
theorem rangeSize_nonneg (i j c : Int) : 0 ≤ Builtin.Range.rangeSize i j c := by
  unfold Builtin.Range.rangeSize
  split
  · split
    · have : 0 ≤ (j - i - 1) / c := Int.ediv_nonneg (by omega) (by omega)
      omega
    · omega
  · split
    · by_cases hc : c = 0
      · subst hc; simp
      · have : 0 ≤ (i - j - 1) / (-c) := Int.ediv_nonneg (by omega) (by omega)
        omega
    · omega
theorem is_rng3 {f : AM} {R : It → Hp → Prop} (h : ISof K ca md (iRng rng3 f) σ H R) : iRng3 (TAof K ca md f) σ H R := by
  refine is_of h fun vs H' F' ts xs s r e q => ?_
  unfold rng3 at e
  split at e
  · obtain ⟨_, c, e⟩ := bind_ok e
    cases e
    obtain ⟨x, y, z, f1, f2, f3, rfl, r1, r2, r3, _⟩ := reps3 r
    simp only [Rep] at r1 r2 r3
    have c := ck_ok c
    simp only [Bool.and_eq_true, decide_eq_true_eq] at c
    exact ⟨_, _, _, _, by rw [r1.1, r2.1, r3.1], ⟨c.2.1, c.2.2, c.1, (Int.toNat_of_nonneg (rangeSize_nonneg ..)).symm⟩, q _ iter_rngC⟩
  · cases e
def enumT : Nat → List T → List T
  | _, [] => []
  | n, x :: xs => .tup [.int n, x] :: enumT (n + 1) xs
def zipT : List T → List T → List T
  | x :: xs, y :: ys => .tup [x, y] :: zipT xs ys
  | _, _ => []
theorem enumT_length : ∀ {n : Nat} {xs : List T}, (enumT n xs).length = xs.length
  | _, [] => rfl
  | n, x :: xs => by simp [enumT, enumT_length]
theorem enumT_get : ∀ {n : Nat} {xs : List T} {i : Nat}, (enumT n xs)[i]? = (xs[i]?).map fun x => .tup [.int ((n + i : Nat) : Int), x]
  | n, [], i => by simp [enumT]
  | n, x :: xs, 0 => by simp [enumT]
  | n, x :: xs, i + 1 => by
    simp only [enumT, List.getElem?_cons_succ]
    rw [enumT_get]
    congr 1
    funext y
    congr 4
    omega
theorem zipT_length : ∀ {xs ys : List T}, (zipT xs ys).length = min xs.length ys.length
  | [], _ => by simp [zipT]
  | _ :: _, [] => by simp [zipT]
  | x :: xs, y :: ys => by simp only [zipT, List.length_cons, zipT_length]; omega
theorem zipT_get : ∀ {xs ys : List T} {i : Nat} {t : T}, (zipT xs ys)[i]? = some t → ∃ x y, xs[i]? = some x ∧ ys[i]? = some y ∧ t = .tup [x, y]
  | [], _, i, t, h => by simp [zipT] at h
  | _ :: _, [], i, t, h => by simp [zipT] at h
  | x :: xs, y :: ys, 0, t, h => by simp [zipT] at h; exact ⟨x, y, rfl, rfl, h.symm⟩
  | x :: xs, y :: ys, i + 1, t, h => by
    simp only [zipT, List.getElem?_cons_succ] at h
    obtain ⟨a, b, h1, h2, h3⟩ := zipT_get h
    exact ⟨a, b, h1, h2, h3⟩
/-- a new pair as it is given -/
theorem pair_new {x y : T} {a b : V} {p : Addr} {F1 H1 : Hp} (s : Sub F1 H1) (hp : H1 p = none) (rx : Rep K ca F1 H1 x a []) (ry : Rep K ca F1 H1 y b []) :
    ∃ F2, Go F1 H1 (fun _ => False) F2 (upd H1 p (.tup [a, b])) (fun _ => False) ∧ Rep K ca F2 (upd H1 p (.tup [a, b])) (.tup [x, y]) (.ref p) [] := by
  have g : Go F1 H1 (fun _ => False) (upd F1 p (.tup [a, b])) (upd H1 p (.tup [a, b])) (fun _ => False) := Go.newF s hp fun _ z => z.elim
  refine ⟨_, g, ?_⟩
  simp only [Rep, Reps]
  exact ⟨p, [a, b], rfl, SqT.of upd_same, a, [b], [], [], rfl, rx.of_go g fun _ z => absurd z (by simp), ⟨b, [], [], [], rfl, ry.of_go g fun _ z => absurd z (by simp), ⟨rfl, rfl⟩, rfl⟩, rfl⟩
def enm : List T → R (List T)
  | [.lst _ xs] => .ok (enumT 0 xs)
  | _ => stk
def zp : List T → R (List T)
  | [.lst _ xs, .lst _ ys] => .ok (zipT xs ys)
  | [.tup xs, .tup ys] => .ok (zipT xs ys)
  | _ => stk
theorem lstF {o : Bool} {xs : List T} (h : Rep K ca F H (.lst o xs) v []) : ∃ a us, v = .ref a ∧ SqL K F a us ∧ Reps K ca F H xs us [] := by
  cases o with
  | true => simp only [Rep] at h; obtain ⟨a, us, g, _, _, _, _, h⟩ := h; cases h
  | false => simp only [Rep] at h; obtain ⟨a, us, h1, h2, h3, _⟩ := h; exact ⟨a, us, h1, SqL.of h2, h3⟩
theorem iter_enum {a : Addr} {us : List V} (hq : SqL K F a us) (h : Reps K ca F H ts us []) : Iter K ca (Ite K a) (enumT 0 ts) F := by
  refine ⟨_, _, by rw [enumT_length, ← Reps.length h]; exact walk_enum (K := K) (a := a) (xs := us), fun H' s => s.sqL hq, fun i t F1 H1 x H2 et s1 s2 y => ?_⟩
  obtain ⟨p, a', b', rfl, hp, rfl, h1, h2⟩ := y
  cases h1
  rw [enumT_get] at et
  obtain ⟨z, hz, rfl⟩ := Option.map_eq_some_iff.mp et
  obtain ⟨u, h3, h4⟩ := reps_at (i := i) h hz
  have h2 : us[i]? = some b' := h2
  rw [h3] at h2
  cases h2
  have := pair_new (x := .int ((0 + i : Nat) : Int)) (a := .int (i : Nat)) s2 hp (by rw [Nat.zero_add]; exact rep_int) (Rep.go s1 z h4 (fun _ z => absurd z (by simp)) (fun _ z => absurd z (by simp)))
  exact this
theorem iter_zip {a b : Addr} {us ws : List V} {ys : List T} (hq : SqL K F a us) (hw : SqL K F b ws) (h : Reps K ca F H ts us []) (h' : Reps K ca F H ys ws []) : Iter K ca (Itz K a b) (zipT ts ys) F := by
  refine ⟨_, _, walk_zip (K := K) (a := a) (b := b) (xs := us) (ys := ws) (by rw [zipT_length, Reps.length h, Reps.length h']), fun H' s => ⟨s.sqL hq, s.sqL hw⟩, fun i t F1 H1 x H2 et s1 s2 y => ?_⟩
  obtain ⟨p, a', b', rfl, hp, rfl, h1, h2⟩ := y
  have h1 : us[i]? = some a' := h1
  have h2 : ws[i]? = some b' := h2
  obtain ⟨z1, z2, e1, e2, rfl⟩ := zipT_get et
  obtain ⟨u1, h3, h4⟩ := reps_at (i := i) h e1
  obtain ⟨u2, h5, h6⟩ := reps_at (i := i) h' e2
  rw [h3] at h1
  rw [h5] at h2
  cases h1
  cases h2
  exact pair_new s2 hp (Rep.go s1 z1 h4 (fun _ z => absurd z (by simp)) (fun _ z => absurd z (by simp))) (Rep.go s1 z2 h6 (fun _ z => absurd z (by simp)) (fun _ z => absurd z (by simp)))
theorem zipT_walk {a b : Addr} {us ws : List V} {n : Nat} (hn : n = min us.length ws.length) : Walk (ItzT K a b) n (fun H => SqT K H a us ∧ SqT K H b ws) (YPair (fun i => us[i]?) (fun i => ws[i]?)) where
  goes := fun i H hi q => ⟨us, ws, _, _, q.1, q.2, List.getElem?_eq_getElem (show i < us.length by omega), List.getElem?_eq_getElem (show i < ws.length by omega)⟩
  stops := fun H q => ⟨us, ws, q.1, q.2, by omega⟩
  yields := fun i H v H' _ q ⟨p, x, y, e, hp, e2, f1, f2⟩ => ⟨p, x, y, e, hp, e2, f1 us q.1, f2 ws q.2⟩
theorem iter_zipTup {a b : Addr} {us ws : List V} {ys : List T} (hq : SqT K F a us) (hw : SqT K F b ws) (h : Reps K ca F H ts us []) (h' : Reps K ca F H ys ws []) : Iter K ca (ItzT K a b) (zipT ts ys) F := by
  refine ⟨_, _, zipT_walk (K := K) (a := a) (b := b) (us := us) (ws := ws) (by rw [zipT_length, Reps.length h, Reps.length h']), fun H' s => ⟨s.sqT hq, s.sqT hw⟩, fun i t F1 H1 x H2 et s1 s2 y => ?_⟩
  obtain ⟨p, a', b', rfl, hp, rfl, h1, h2⟩ := y
  have h1 : us[i]? = some a' := h1
  have h2 : ws[i]? = some b' := h2
  obtain ⟨z1, z2, e1, e2, rfl⟩ := zipT_get et
  obtain ⟨u1, h3, h4⟩ := reps_at (i := i) h e1
  obtain ⟨u2, h5, h6⟩ := reps_at (i := i) h' e2
  rw [h3] at h1
  rw [h5] at h2
  cases h1
  cases h2
  exact pair_new s2 hp (Rep.go s1 z1 h4 (fun _ z => absurd z (by simp)) (fun _ z => absurd z (by simp))) (Rep.go s1 z2 h6 (fun _ z => absurd z (by simp)) (fun _ z => absurd z (by simp)))
theorem is_enum {f : AM} {R : It → Hp → Prop} (h : ISof K ca md (iRng enm f) σ H R) : iEnum K (TAof K ca md f) σ H R := by
  refine is_of h fun vs H' F' ts xs s r e q => ?_
  unfold enm at e
  split at e
  · cases e
    obtain ⟨x, rfl, r1⟩ := reps1 r
    obtain ⟨a, us, rfl, h1, h2⟩ := lstF r1
    exact ⟨a, us, rfl, s.sqL h1, q _ (iter_enum h1 h2)⟩
  · cases e
theorem is_zip {f : AM} {R : It → Hp → Prop} (h : ISof K ca md (iRng zp f) σ H R) : iZipA K (TAof K ca md f) σ H R := by
  refine is_of h fun vs H' F' ts xs s r e q => ?_
  unfold zp at e
  split at e
  · cases e
    obtain ⟨x, y, f1, f2, rfl, r1, r2, e0⟩ := reps2 r
    have e1 : f1 = [] := (List.append_eq_nil_iff.mp e0.symm).1
    have e2 : f2 = [] := (List.append_eq_nil_iff.mp e0.symm).2
    subst e1 e2
    obtain ⟨a, us, rfl, h1, h2⟩ := lstF r1
    obtain ⟨b, ws, rfl, h3, h4⟩ := lstF r2
    exact ⟨a, b, us, ws, rfl, .inl ⟨s.sqL h1, s.sqL h3, q _ (iter_zip h1 h3 h2 h4)⟩⟩
  · cases e
    obtain ⟨x, y, f1, f2, rfl, r1, r2, e0⟩ := reps2 r
    have e1 : f1 = [] := (List.append_eq_nil_iff.mp e0.symm).1
    have e2 : f2 = [] := (List.append_eq_nil_iff.mp e0.symm).2
    subst e1 e2
    simp only [Rep] at r1 r2
    obtain ⟨a, us, rfl, h1, h2⟩ := r1
    obtain ⟨b, ws, rfl, h3, h4⟩ := r2
    exact ⟨a, b, us, ws, rfl, .inr ⟨s.sqT h1, s.sqT h3, q _ (iter_zipTup h1 h3 h2 h4)⟩⟩
  · cases e

def sSetIx (i : Nat) (fv fi : EM) : SM := fun env => do
  let (x, env1) ← fv env
  let (j, env2) ← fi env1
  let j ← toI j
  match T.at env2 i with
  | some (.lst true xs) => do
    let _ ← ck (!T.owl xs && (!x.ow && T.isLst ((T.at env1 i).getD .non)))
    match ixN xs.length j with
    | some n => .ok (.nx, env2.set i (some (.lst true (xs.set n x))))
    | none => stk
  | _ => stk
theorem Reps.set {x : T} {u : V} (hx : Rep K ca F H x u []) : ∀ {ts : List T} {us : List V} (n : Nat), Reps K ca F H ts us [] → Reps K ca F H (ts.set n x) (us.set n u) []
  | [], _, n, h => by simp only [Reps] at h; rw [h.1]; simp [Reps]
  | t :: ts, _, 0, h => by
    simp only [Reps] at h
    obtain ⟨v, us, f, g, rfl, r, rs, e⟩ := h
    have e2 : g = [] := (List.append_eq_nil_iff.mp e.symm).2
    subst e2
    simp only [List.set_cons_zero, Reps]
    exact ⟨u, us, [], [], rfl, hx, rs, rfl⟩
  | t :: ts, _, n + 1, h => by
    simp only [Reps] at h
    obtain ⟨v, us, f, g, rfl, r, rs, e⟩ := h
    have e1 : f = [] := (List.append_eq_nil_iff.mp e.symm).1
    have e2 : g = [] := (List.append_eq_nil_iff.mp e.symm).2
    subst e1 e2
    simp only [List.set_cons_succ, Reps]
    exact ⟨v, us.set n u, [], [], rfl, r, Reps.set hx n rs, rfl⟩
theorem ts_setIx {pn : List Nat} {i : Nat} {f g : EM} {D : Ends} (hi : i ∉ md) (h : TSof K ca pn (sSetIx i f g) D σ H) : tAsg (TEof K ca md f) (gSub (tVar i) (TEof K ca md g) rSetL) D σ H := by
  obtain ⟨F, env, fp, fl, env', s, e, k⟩ := h
  obtain ⟨⟨x, env1⟩, e1, ea⟩ := bind_ok e
  obtain ⟨⟨j, env2⟩, e2, eb⟩ := bind_ok ea
  obtain ⟨jj, e3, ec⟩ := bind_ok eb
  clear e ea eb
  have := toI_ok e3
  subst this
  cases h2 : T.at env2 i with
  | none => simp only [h2] at ec; cases ec
  | some t2 =>
    simp only [h2] at ec
    cases t2 with
    | lst o xs =>
      cases o with
      | false => cases ec
      | true =>
        obtain ⟨_, c, ed⟩ := bind_ok ec
        have c := ck_ok c
        simp only [Bool.and_eq_true, Bool.not_eq_true'] at c
        cases hn : ixN xs.length jj with
        | none => simp only [hn] at ed; cases ed
        | some n =>
          simp only [hn] at ed
          cases ed
          refine ⟨F, env, fp, x, env1, s, e1, fun v H1 F1 fp1 fv g1 k1 s1 m1 => ?_⟩
          -- the slot
          cases h1 : T.at env1 i with
          | none => rw [h1] at c; exact absurd c.2.2 (by simp [T.isLst])
          | some t1 =>
            obtain ⟨w, hw, r1⟩ := s1.slot i t1 (T.at_some h1)
            refine ⟨w, hw, F1, env1, fp1, .int jj, env2, s1, e2, fun v2 H2 F2 fp2 fv2 g2 k2 s2 m2 => ?_⟩
            obtain ⟨rfl, rfl⟩ := m2.int
            obtain ⟨w2, hw2, r2⟩ := s2.slot i _ (T.at_some h2)
            rw [hw] at hw2
            cases hw2
            have hfv := Rep.pure_fp x c.2.1 m1.rep
            subst hfv
            have rx := m1.rep.of_go g2.nilr (fun _ z => absurd z (by simp))
            simp only [Rep] at r2
            obtain ⟨a, us, gg, rfl, h3, h4, h5, h6⟩ := r2
            have hgg := Reps.pure_fp xs c.1 h5
            subst hgg
            refine ⟨a, us, jj, n, rfl, rfl, h3, by rw [Reps.length h5]; exact hn, ?_⟩
            have ga : Go F2 H2 (fun b => b ∈ fp2 i ∨ b ∈ ([] : List Addr)) F2 (upd H2 a (.lst (us.set n v))) (fun b => b ∈ [a] ∨ b ∈ ([] : List Addr)) := Go.write s2.sub (.inl (by rw [h6]; exact List.mem_cons_self)) h4 fun b z => .inl (.inl (by rw [h6]; exact z.elim id (fun w => absurd w (by simp))))
            have rN : Rep K ca F2 (upd H2 a (.lst (us.set n v))) (.lst true (xs.set n x)) (.ref a) [a] := by
              simp only [Rep]
              refine ⟨a, us.set n v, [], rfl, upd_same, h4, ?_, rfl⟩
              have gw : Go F2 H2 (· = a) F2 (upd H2 a (.lst (us.set n v))) (fun _ => False) := Go.write s2.sub rfl h4 fun _ z => z.elim
              exact (Reps.set rx n h5).of_go gw fun _ z => absurd z (by simp)
            obtain ⟨sP, _⟩ := s2.replace hw ga (fun _ z => absurd z (by simp)) rN (by simp) (fun _ z => absurd z (by simp))
            have g12 := ((g1.nilr).full0 k1).trans ((g2.nilr).full0 k2) (fun _ z => z) (P := Ow fp2) fun _ z => .inl z
            refine k σ _ F2 (fpSet fp2 i [a]) (g12.trans ga (fun b z => z.elim (fun z => ⟨i, z⟩) (fun z => absurd z (by simp))) fun b z => ?_) sP Pin.refl
            rcases ow_fpSet z with z | z
            · exact .inr z
            · exact .inl (.inl z)
    | _ => cases ec
def sAug (i : Nat) (f : EM) : SM := fun env => do
  let a ← toI ((T.at env i).getD .non)
  let (y, env1) ← f env
  let j ← toI y
  .ok (.nx, env1.set i (some (.int (a + j))))
theorem ts_aug {pn : List Nat} {i : Nat} {f : EM} {D : Ends} (hp : Apt [i] pn) (him : i ∉ md) (h : TSof K ca pn (sAug i f) D σ H) : tAug i (TEof K ca md f) (ipI fun i j => i + j) D σ H := by
  obtain ⟨F, env, fp, fl, env', s, e, k⟩ := h
  obtain ⟨a, ea, e⟩ := bind_ok e
  obtain ⟨⟨y, env1⟩, e1, e⟩ := bind_ok e
  obtain ⟨j, e2, e⟩ := bind_ok e
  have hy := toI_ok e2
  subst hy
  have ha := toI_ok ea
  cases h0 : T.at env i with
  | none => rw [h0] at ha; cases ha
  | some t =>
    rw [h0] at ha
    have ha : t = .int a := ha
    subst ha
    obtain ⟨v, hv, r⟩ := s.slot i _ (T.at_some h0)
    simp only [Rep] at r
    obtain ⟨rfl, _⟩ := r
    cases e
    refine ⟨_, hv, F, env, fp, .int j, env1, s, e1, fun w H1 F1 fp1 fv g1 k1 s1 m1 => ?_⟩
    obtain ⟨rfl, rfl⟩ := m1.int
    refine ⟨a, j, rfl, rfl, ?_⟩
    have hil : i < env1.length := by rw [s1.len]; exact (List.getElem?_eq_some_iff.mp hv).1
    have sP := s1.put (i := i) (t := .int (a + j)) (v := .int (a + j)) (fv := []) ⟨rep_int, List.nodup_nil, fun _ z => absurd z (by simp)⟩ hil
    refine k _ H1 F1 (fpSet fp1 i []) (((g1.nilr).full0 k1).weak (fun _ z => z) fun b z => ?_) sP fun q hq => List.getElem?_set_ne (fun z => hp q hq (by simp [z]))
    rcases ow_fpSet z with z | z
    · exact z
    · cases z
end
end QL
namespace QL
open PySem L2 RZ

abbrev DE (ca : Ca) (X : Cx) (md : List Nat) (e : Expr) (f : EM) : Prop := PE X e (TEof X.K ca md f)
abbrev DB (ca : Ca) (X : Cx) (md : List Nat) (e : Expr) (f : BM) : Prop := PE X e (TBof X.K ca md f)
abbrev DA (ca : Ca) (X : Cx) (md : List Nat) (es : List Expr) (f : AM) : Prop := PA X es (TAof X.K ca md f)
abbrev DT (ca : Ca) (X : Cx) (md : List Nat) (e : Expr) (f : BT) : Prop := PT X e (TTof X.K ca md f)
abbrev DW (ca : Ca) (X : Cx) (md : List Nat) (e : Expr) (f : BT) : Prop := PW X e (TTof X.K ca md f)
abbrev DI (ca : Ca) (X : Cx) (md : List Nat) (tg e : Expr) (f : En → R (List T × En)) : Prop := PI X tg e (ISof X.K ca md f)
abbrev DG (ca : Ca) (X : Cx) (tv : List Nat) (e : Expr) (f : T → En → R En) : Prop := PG X e (GTof X.K ca tv f)
abbrev DGs (ca : Ca) (X : Cx) (tv : List Nat) (es : List Expr) (f : List T → En → R En) : Prop := PGs X es (GLof X.K ca tv f)
abbrev DS (ca : Ca) (X : Cx) (pn : List Nat) (s : Stmt) (f : SM) : Prop := PS X s (TSof X.K ca pn f)
abbrev DSs (ca : Ca) (X : Cx) (pn : List Nat) (ss : List Stmt) (f : SM) : Prop := PSs X ss (TSof X.K ca pn f)

section
variable {ca : Ca} {X : Cx} {md md0 tv pn : List Nat} {a b c e o : Expr} {es : List Expr} {pos p apos cpos : Pos} {f g h : EM} {bf bg bh : BM} {af : AM} {x : Str}

theorem d_var (i : Nat) (hN : X.N[i]? = some x := by rfl) (hv : Vis X.env.scope x := by first | exact Or.inl rfl | exact Or.inr (Or.inl rfl) | exact Or.inr (Or.inr rfl)) (hd : (x == ("__debug__" : Str)) = false := by decide) (hcd : (x == ("__classdict__" : Str)) = false := by decide) :
    DE ca X md (.Name x pos) (eVar i) := PEm (pv i hN hv hd hcd) fun _ _ _ h => te_var h
theorem d_mv (i : Nat) (hi : i ∈ md := by decide) (hN : X.N[i]? = some x := by rfl) (hv : Vis X.env.scope x := by first | exact Or.inl rfl | exact Or.inr (Or.inl rfl) | exact Or.inr (Or.inr rfl)) (hd : (x == ("__debug__" : Str)) = false := by decide) (hcd : (x == ("__classdict__" : Str)) = false := by decide) :
    DE ca X md (.Name x pos) (eMv i) := PEm (pv i hN hv hd hcd) fun _ _ _ h => te_mv hi h
theorem d_fz (i : Nat) (hi : i ∈ md := by decide) (hN : X.N[i]? = some x := by rfl) (hv : Vis X.env.scope x := by first | exact Or.inl rfl | exact Or.inr (Or.inl rfl) | exact Or.inr (Or.inr rfl)) (hd : (x == ("__debug__" : Str)) = false := by decide) (hcd : (x == ("__classdict__" : Str)) = false := by decide) :
    DE ca X md (.Name x pos) (eFz i) := PEm (pv i hN hv hd hcd) fun _ _ _ h => te_fz hi h
theorem d_al (i : Nat) (hi : i ∈ md := by decide) (hN : X.N[i]? = some x := by rfl) (hv : Vis X.env.scope x := by first | exact Or.inl rfl | exact Or.inr (Or.inl rfl) | exact Or.inr (Or.inr rfl)) (hd : (x == ("__debug__" : Str)) = false := by decide) (hcd : (x == ("__classdict__" : Str)) = false := by decide) :
    DE ca X md (.Name x pos) (eAl i) := PEm (pv i hN hv hd hcd) fun _ _ _ h => te_al hi h
theorem b_v (i : Nat) (hi : i ∉ md := by decide) (hN : X.N[i]? = some x := by rfl) (hv : Vis X.env.scope x := by first | exact Or.inl rfl | exact Or.inr (Or.inl rfl) | exact Or.inr (Or.inr rfl)) (hd : (x == ("__debug__" : Str)) = false := by decide) (hcd : (x == ("__classdict__" : Str)) = false := by decide) :
    DB ca X md (.Name x pos) (bV i) := PEm (pv i hN hv hd hcd) fun _ _ _ h => tb_v hi h
/-- a slot handed to a def that may change it -/
def bIo (i : Nat) : BM := fun env => match env[i]? with
  | some (some _) => .ok (.io i, env)
  | _ => stk
theorem tb_io {K : PySem.W.Frag} {σ : St} {H : Hp} {i : Nat} {Q : VK} (h : TBof K ca md (bIo i) σ H Q) : tVar i σ H Q := by
  obtain ⟨F, env, fp, b, env', s, e, k⟩ := h
  unfold bIo at e
  split at e
  case h_2 => cases e
  case h_1 t et =>
    cases e
    obtain ⟨v, e1, r⟩ := s.slot i t et
    refine ⟨v, e1, k v H F fp [] (Go.refl s.sub fun b z => z.elim id (fun z => nomatch z)) Keep.refl s ?_ List.nodup_nil (fun _ z => nomatch z)⟩
    simp only [Ops]
    exact ⟨v, [], [], [], rfl, ⟨rfl, e1⟩, ⟨rfl, rfl⟩, rfl⟩
theorem b_io (i : Nat) (hN : X.N[i]? = some x := by rfl) (hv : Vis X.env.scope x := by first | exact Or.inl rfl | exact Or.inr (Or.inl rfl) | exact Or.inr (Or.inr rfl)) (hd : (x == ("__debug__" : Str)) = false := by decide) (hcd : (x == ("__classdict__" : Str)) = false := by decide) :
    DB ca X md (.Name x pos) (bIo i) := PEm (pv i hN hv hd hcd) fun _ _ _ h => tb_io h
theorem b_e (h : DE ca X md e f) : DB ca X md e (bE f) := PEm h fun _ _ _ h => tb_e h
theorem b_i (h : DB ca X md e bf) : DB ca X md e (bI bf) := PEm h fun _ _ _ h => (tb_i h).mono fun _ _ ⟨_, _, q⟩ => q
theorem d_int {i : Int} {j} : DE ca X md (.Constant (.int i) j pos) (eC (.int i)) := PEm pe_int fun _ _ _ h => te_c (fun _ _ => rep_int) h
theorem d_bl {i : Bool} {j} : DE ca X md (.Constant (.bool i) j pos) (eC (.bl i)) := PEm pe_bl fun _ _ _ h => te_c (fun _ _ => rep_bl) h
theorem d_str {i : Str} {j} : DE ca X md (.Constant (.str i) j pos) (eC (.str i)) := PEm pe_str fun _ _ _ h => te_c (fun _ _ => rep_str) h
theorem d_non {j} : DE ca X md (.Constant .none j pos) (eC .non) := PEm pe_non fun _ _ _ h => te_c (fun _ _ => rep_non) h
/-- a module's number, its text -/
theorem d_gi {i : Int} (hm : ∃ t, X.mg x = some (.int i t)) (hg : Gl X x := by rfl) (hd : (x == ("__debug__" : Str)) = false := by decide) : DE ca X md (.Name x pos) (eC (.int i)) :=
  let ⟨t, hm⟩ := hm
  PEm (pe_glob (v := .int i) hg hm ⟨t, rfl⟩ hd) fun _ _ _ h => te_c (fun _ _ => rep_int) h
theorem d_gs {i : Str} (hm : ∃ t, X.mg x = some (.str i t)) (hg : Gl X x := by rfl) (hd : (x == ("__debug__" : Str)) = false := by decide) : DE ca X md (.Name x pos) (eC (.str i)) :=
  let ⟨t, hm⟩ := hm
  PEm (pe_glob (v := .str i) hg hm ⟨t, rfl⟩ hd) fun _ _ _ h => te_c (fun _ _ => rep_str) h
/-- a module's constant, told by the head -/
structure Glb (ca : Ca) (K : PySem.W.Frag) (mg : Str → Option Value) (x : Str) (t : T) : Prop where
  ex : ∃ u v, mg x = some u ∧ RelV v u ∧ ∀ F H, Rep K ca F H t v []
theorem d_gl {t : T} (hm : Glb ca X.K X.mg x t) (hg : Gl X x := by rfl) (hd : (x == ("__debug__" : Str)) = false := by decide) : DE ca X md (.Name x pos) (eC t) :=
  let ⟨_, _, hm, r, hr⟩ := hm.ex
  PEm (pe_glob hg hm r hd) fun _ _ _ h => te_c hr h
/-- a module's table -/
theorem d_gr {y : Addr} {t : T} (hm : X.mg x = some (.ref y)) (hr : ∀ F H, Rep X.K ca F H t (.ref y) []) (hg : Gl X x := by rfl) (hd : (x == ("__debug__" : Str)) = false := by decide) : DE ca X md (.Name x pos) (eC t) :=
  PEm (pe_glob (v := .ref y) hg hm rfl hd) fun _ _ _ h => te_c hr h
theorem a_nil : DA ca X md [] aNil := PAm pa_nil fun _ _ _ h => ta_nil h
theorem a_cons (he : DB ca X md e bf) (hr : DA ca X md es af) (hs : starEach (e :: es) X.env = (false, eval e X.env) :: starEach es X.env := by rfl) : DA ca X md (e :: es) (aCons bf af) := PAm (pa_cons he hr hs) fun _ _ _ h => ta_cons h
theorem d_bin {op : Operator} {r : R2} {w : List T → R T} (ho : OpR X (binaryOp op) r) (hs : OpS X.K ca r w) (ha : DB ca X md a bf) (hb : DB ca X md b bg) : DE ca X md (.BinOp a op b pos) (eOp w (aCons bf (aCons bg aNil))) := PEm (pe_op ho ha hb) fun _ _ _ h => te_op2 hs h
theorem d_un {op : UnaryOp} {r : V → Hp → VK → Prop} {w : List T → R T} (ho : UnR X (unaryOp op) r) (hs : UnS X.K ca r w) (ha : DB ca X md a bf) : DE ca X md (.UnaryOp op a pos) (eOp w (aCons bf aNil)) := PEm (pe_un ho ha) fun _ _ _ h => te_op1 hs h
theorem d_cmp {op : CmpOp} {r : R2} {w : List T → R T} (ho : OpR X (compareOp op) r) (hs : OpS X.K ca r w) (ha : DB ca X md a bf) (hb : DB ca X md b bg) (hm : behindInMarks op b = false := by rfl) : DE ca X md (.Compare a [op] [b] pos) (eOp w (aCons bf (aCons bg aNil))) := PEm (pe_cmpR ho ha hb hm) fun _ _ _ h => te_op2 hs h
theorem t_cmp {op : CmpOp} {r : R2} {w : List T → R T} (ho : OpR X (compareOp op) r) (hs : OpS X.K ca r w) (ha : DB ca X md a bf) (hb : DB ca X md b bg) (hm : behindInMarks op b = false := by rfl) : DT ca X md (.Compare a [op] [b] pos) (tV (eOp w (aCons bf (aCons bg aNil)))) := PTm (pt_cmpR ho ha hb hm) fun _ _ _ h => te_op2 hs (tt_v h)
theorem t_val (h : DE ca X md e f) (he : ∀ whole, isTrue e X.env whole = (do let v ← whole; standAt e.pos; holding [v] (truthy v)) := by intro _; rfl) : DT ca X md e (tV f) := PTm (pt_val h he) fun _ _ _ h => tt_v h
theorem d_chain {op op' : CmpOp} {q q' : Int → Int → Bool} (ho : OpR X (compareOp op) (rI0 fun i j => .bl (q i j))) (ho' : OpR X (compareOp op') (rI0 fun i j => .bl (q' i j))) (ha : DE ca X md a f) (hb : DE ca X md b g) (hc : DE ca X md c h)
    (hm : lastMarks [op, op'] [b, c] = false := by with_unfolding_all rfl) : DE ca X md (.Compare a [op, op'] [b, c] pos) (eChain q q' f g h) := PEm (pe_chain ho ho' ha hb hc hm) fun _ _ _ h => te_chain h
theorem t_chain {op op' : CmpOp} {q q' : Int → Int → Bool} (ho : OpR X (compareOp op) (rI0 fun i j => .bl (q i j))) (ho' : OpR X (compareOp op') (rI0 fun i j => .bl (q' i j))) (ha : DE ca X md a f) (hb : DE ca X md b g) (hc : DE ca X md c h)
    (hm : lastMarks [op, op'] [b, c] = false := by with_unfolding_all rfl) : DT ca X md (.Compare a [op, op'] [b, c] pos) (tV (eChain q q' f g h)) := PTm (pt_chain ho ho' ha hb hc hm) fun _ _ _ h => te_chain (tt_v h)
variable {tc td : BT} {rest : List Expr}
theorem w_and1 (ha : DT ca X md a tc) : DW ca X md (.BoolOp .And [a] pos) tc := pw_and1 ha
theorem w_or1 (ha : DT ca X md a tc) : DW ca X md (.BoolOp .Or [a] pos) tc := pw_or1 ha
theorem w_and (ha : DT ca X md a tc) (hb : DW ca X md (.BoolOp .And (b :: rest) pos) td) : DW ca X md (.BoolOp .And (a :: b :: rest) pos) (tAndS tc td) := PWm (pw_and ha hb) fun _ _ _ h => tt_and h
theorem w_or (ha : DT ca X md a tc) (hb : DW ca X md (.BoolOp .Or (b :: rest) pos) td) : DW ca X md (.BoolOp .Or (a :: b :: rest) pos) (tOrS tc td) := PWm (pw_or ha hb) fun _ _ _ h => tt_or h
theorem t_w (h : DW ca X md e tc) : DT ca X md e tc := h.pt
theorem t_not (ha : DT ca X md a tc) : DT ca X md (.UnaryOp .Not a pos) (tNotS tc) := PTm (pt_not ha) fun _ _ _ h => tt_not h
theorem d_one {op} (h : DE ca X md a f) : DE ca X md (.BoolOp op [a] pos) f := pe_one h
theorem d_and (ha : DE ca X md a f) (hb : DE ca X md (.BoolOp .And (b :: rest) pos) g) : DE ca X md (.BoolOp .And (a :: b :: rest) pos) (eAnd f g) := PEm (pe_and ha hb) fun _ _ _ h => te_and h
theorem d_or (ha : DE ca X md a f) (hb : DE ca X md (.BoolOp .Or (b :: rest) pos) g) : DE ca X md (.BoolOp .Or (a :: b :: rest) pos) (eOr f g) := PEm (pe_or ha hb) fun _ _ _ h => te_or h
theorem d_not (ha : DE ca X md a f) : DE ca X md (.UnaryOp .Not a pos) (eNot f) := PEm (pe_not ha) fun _ _ _ h => te_not h
theorem d_if (hc : DT ca X md c tc) (ha : DE ca X md a f) (hb : DE ca X md b g) : DE ca X md (.IfExp c a b pos) (eIf tc f g) := PEm (pe_ifExp hc ha hb) fun _ _ _ h => te_if h
theorem d_tup {x1} (h : DA ca X md es af) : DE ca X md (.Tuple es x1 pos) (eTup af) := PEm (pe_tup h) fun _ _ _ h => te_tup h
theorem d_lst (h : DA ca X md es af) : DE ca X md (.List es pos) (eLst af) := PEm (pe_lst h) fun _ _ _ h => te_lst h
theorem d_ix (ha : DB ca X md a bf) (hb : DB ca X md b bg) (hs : PlainIx b := by exact fun _ _ => rfl) : DE ca X md (.Subscript a b pos) (eOp oIx (aCons bf (aCons bg aNil))) := PEm (pe_ix ix_seq ha hb hs) fun _ _ _ h => te_op2 s_ix h
theorem d_sl00 {p2} (ha : DB ca X md a bf) : DE ca X md (.Subscript a (.Slice none none none p2) pos) (eOp (oSl false false) (aCons bf aNil)) := PEm (pe_slice sl_any ha po_none po_none) fun _ _ _ h => te_sl00 h
theorem d_sl10 {p2} (ha : DB ca X md a bf) (hb : DB ca X md b bg) : DE ca X md (.Subscript a (.Slice (some b) none none p2) pos) (eOp (oSl true false) (aCons bf (aCons bg aNil))) := PEm (pe_slice sl_any ha (po_some hb) po_none) fun _ _ _ h => te_sl10 h
theorem d_sl01 {p2} (ha : DB ca X md a bf) (hb : DB ca X md b bg) : DE ca X md (.Subscript a (.Slice none (some b) none p2) pos) (eOp (oSl false true) (aCons bf (aCons bg aNil))) := PEm (pe_slice sl_any ha po_none (po_some hb)) fun _ _ _ h => te_sl01 h
theorem d_sl11 {p2} (ha : DB ca X md a bf) (hb : DB ca X md b bg) (hc : DB ca X md c bh) : DE ca X md (.Subscript a (.Slice (some b) (some c) none p2) pos) (eOp (oSl true true) (aCons bf (aCons (bI bg) (aCons (bI bh) aNil)))) := PEm (pe_slice sl_any ha (po_some hb) (po_some hc)) fun _ _ _ h => te_sl11 h
theorem d_callB {id : String} {r : List V → Hp → VK → Prop} {w : List T → R T} (hc : CallR X (.builtin id) r) (hs : CallS X.K ca r w) (hv : bootBuiltins x = some (.builtin id)) (hm : X.mg x = none) (ha : DA ca X md (e :: es) af) (hg : Gl X x := by rfl) (hn : x ≠ "__name__" := by decide) (hdb : (x == ("__debug__" : Str)) = false := by decide)
    (he : starEach (e :: es) X.env = (false, eval e X.env) :: starEach es X.env := by rfl) (hpl : (backTo pos (starEach es X.env)).any (·.1) = false := by rfl) : DE ca X md (.Call (.Name x p) (e :: es) [] pos) (eOp w af) := PEm (pe_callB hc hg hm hv ha hn hdb he hpl) fun _ _ _ h => te_op hs h
theorem d_callTy {T' : String} {r : List V → Hp → VK → Prop} {w : List T → R T} (hc : CallR X (.type T') r) (hs : CallS X.K ca r w) (hv : bootBuiltins x = some (.type T')) (hm : X.mg x = none) (ha : DA ca X md (e :: es) af) (hg : Gl X x := by rfl) (hn : x ≠ "__name__" := by decide) (hdb : (x == ("__debug__" : Str)) = false := by decide)
    (he : starEach (e :: es) X.env = (false, eval e X.env) :: starEach es X.env := by rfl) (hpl : (backTo pos (starEach es X.env)).any (·.1) = false := by rfl) : DE ca X md (.Call (.Name x p) (e :: es) [] pos) (eOp w af) := PEm (pe_callTy hc hg hm hv ha hn hdb he hpl) fun _ _ _ h => te_op hs h
theorem boot_len_ : bootBuiltins "len" = some (.builtin "len") := by decide +kernel
theorem boot_abs_ : bootBuiltins "abs" = some (.builtin "abs") := by decide +kernel
theorem boot_all_ : bootBuiltins "all" = some (.builtin "all") := by decide +kernel
theorem boot_any_ : bootBuiltins "any" = some (.builtin "any") := by decide +kernel
theorem boot_sum_ : bootBuiltins "sum" = some (.builtin "sum") := by decide +kernel
theorem boot_max_ : bootBuiltins "max" = some (.builtin "max") := by decide +kernel
theorem boot_min_ : bootBuiltins "min" = some (.builtin "min") := by decide +kernel
theorem boot_sorted_ : bootBuiltins "sorted" = some (.builtin "sorted") := by decide +kernel
theorem boot_int_ : bootBuiltins "int" = some (.type "int") := by decide +kernel
theorem boot_list_ : bootBuiltins "list" = some (.type "list") := by decide +kernel
theorem boot_tuple_ : bootBuiltins "tuple" = some (.type "tuple") := by decide +kernel
theorem boot_str_ : bootBuiltins "str" = some (.type "str") := by decide +kernel
theorem boot_set_ : bootBuiltins "set" = some (.type "set") := by decide +kernel
theorem boot_dict_ : bootBuiltins "dict" = some (.type "dict") := by decide +kernel
theorem boot_bool_ : bootBuiltins "bool" = some (.type "bool") := by decide +kernel
theorem boot_isinstance' : bootBuiltins "isinstance" = some (.builtin "isinstance") := by decide +kernel
theorem d_isi {y : Str} {p2 : Pos} (k : Ty) (hm : X.mg "isinstance" = none) (hm2 : X.mg y = none) (hv2 : bootBuiltins y = some (.type k.nm)) (ha : DB ca X md a bf) (hg : Gl X "isinstance" := by rfl) (hg2 : Gl X y := by rfl) (hn : y ≠ "__name__" := by decide) (hd : (y == ("__debug__" : Str)) = false := by decide)
    (hs1 : starEach [a, .Name y p2] X.env = (false, eval a X.env) :: starEach [.Name y p2] X.env := by rfl) (hs2 : starEach [.Name y p2] X.env = [(false, eval (.Name y p2) X.env)] := by rfl) (hpl : (backTo pos (starEach [.Name y p2] X.env)).any (·.1) = false := by rfl) :
    DE ca X md (.Call (.Name "isinstance" p) [a, .Name y p2] [] pos) (eOp (oIsi k) (aCons bf aNil)) :=
  PEm (pe_callB call_isi hg hm boot_isinstance' (pa_cons ha (pa_cons (pe_bltn (v := .ty k.nm) hg2 hm2 hv2 rfl hn hd) pa_nil hs2) hs1) (by decide) (by decide) hs1 hpl) fun _ _ _ h => te_isi h
theorem d_isi2 {y z : Str} {p2 p3 p4 : Pos} {kt} (k k2 : Ty) (hm : X.mg "isinstance" = none) (hm2 : X.mg y = none) (hm3 : X.mg z = none) (hv2 : bootBuiltins y = some (.type k.nm)) (hv3 : bootBuiltins z = some (.type k2.nm)) (ha : DB ca X md a bf) (hg : Gl X "isinstance" := by rfl) (hg2 : Gl X y := by rfl) (hg3 : Gl X z := by rfl)
    (hn : y ≠ "__name__" := by decide) (hd : (y == ("__debug__" : Str)) = false := by decide) (hn3 : z ≠ "__name__" := by decide) (hd3 : (z == ("__debug__" : Str)) = false := by decide)
    (hs1 : starEach [a, .Tuple [.Name y p2, .Name z p3] kt p4] X.env = (false, eval a X.env) :: starEach [.Tuple [.Name y p2, .Name z p3] kt p4] X.env := by rfl) (hs2 : starEach [.Tuple [.Name y p2, .Name z p3] kt p4] X.env = [(false, eval (.Tuple [.Name y p2, .Name z p3] kt p4) X.env)] := by rfl)
    (hpl : (backTo pos (starEach [.Tuple [.Name y p2, .Name z p3] kt p4] X.env)).any (·.1) = false := by rfl) :
    DE ca X md (.Call (.Name "isinstance" p) [a, .Tuple [.Name y p2, .Name z p3] kt p4] [] pos) (eOp (oIsi2 k k2) (aCons bf aNil)) :=
  PEm (pe_callB call_isiT hg hm boot_isinstance' (pa_cons ha (pa_cons (pe_tup (pa_cons (pe_bltn (v := .ty k.nm) hg2 hm2 hv2 rfl hn hd) (pa_cons (pe_bltn (v := .ty k2.nm) hg3 hm3 hv3 rfl hn3 hd3) pa_nil))) pa_nil hs2) hs1) (by decide) (by decide) hs1 hpl)
    fun σ H Q h => by
      have q : TBof X.K ca md bf σ H (fun x H1 => rIsi2 X.K k k2 x H1 Q) := te_op1 s_isi2 h
      exact TBof.mono q fun x H1 hq => ⟨by show 2 ≤ sizeLine; decide, fun p hp => hq p hp⟩
theorem d_lc {elt tg iter : Expr} {ifs : List Expr} {scope : Scope} (own : List (Str × Nat)) {src : En → R (List T × En)} {gt : T → En → R En} {cond : BT} (hN : X.N.Nodup) (hi : DI ca X md tg iter src) (ok : blkC X.N X.env.scope scope own = true)
    (hg : ∀ (s : Shared) (H : Hp) (C : Addr) (cl : List (Str × Addr)) (fp : List Addr), DG ca (X.blk s H scope (compEnvC scope cl C X.env) fp) (own.map (·.2)) tg gt)
    (ht : ∀ (s : Shared) (H : Hp) (C : Addr) (cl : List (Str × Addr)) (fp : List Addr), PTs (X.blk s H scope (compEnvC scope cl C X.env) fp) ifs (TTof X.K ca md cond))
    (he : ∀ (s : Shared) (H : Hp) (C : Addr) (cl : List (Str × Addr)) (fp : List Addr), DE ca (X.blk s H scope (compEnvC scope cl C X.env) fp) md elt f)
    (hm : ∀ i, i ∈ own.map (·.2) → i ∉ md := by decide) (hc : X.calm = true := by rfl) (hs : ∀ x, foldedSetIterable iter X.env x = pure x := by intro _; rfl) :
    DE ca X md (.ListComp elt [⟨tg, iter, ifs, 0⟩] scope pos) (eLc src gt cond f (own.map (·.2))) :=
  PEm (pe_lc hc hN hi (blkOk_by ok) hg ht he hs) fun _ _ _ h => te_lc hm h
theorem c_yes : PTs X [] (TTof X.K ca md cYes) := PTsm pts_nil fun _ _ _ h => tt_yes h
theorem c_if (h : DT ca X md e tc) : PTs X [e] (TTof X.K ca md tc) := pts_one h
theorem g_name (i : Nat) (hN : X.N.Nodup) (hi : X.N[i]? = some x := by rfl) (ht : i ∈ tv := by decide) (hx : Loc X.env.scope x := by first | exact Or.inl rfl | exact Or.inr rfl) (hf : X.fn x = true ∨ X.env.scope.names.lookup x = some .local := by first | exact .inl rfl | exact .inr rfl) : DG ca X tv (.Name x pos) (gN i) :=
  PGm (pg_name hN hi hx hf) fun _ _ _ _ h => tg_name ht h
theorem gs_nil : DGs ca X tv [] gsN := PGsm pgs_nil fun _ _ _ _ h => tgs_nil h
theorem gs_cons {gt : T → En → R En} {gs : List T → En → R En} (h1 : DG ca X tv e gt) (h2 : DGs ca X tv es gs) (hs : (assignEach (e :: es) X.env).map (·.2) = assign e X.env :: (assignEach es X.env).map (·.2) := by rfl) : DGs ca X tv (e :: es) (gsC gt gs) := PGsm (pgs_cons h1 h2 hs) fun _ _ _ _ h => tgs_cons h
theorem g_tup {k n : Nat} {gs : List T → En → R En} (h : DGs ca X tv es gs) (hc : X.calm = true := by rfl) (hn : (assignEach es X.env).length = n := by rfl) (hst : (assignEach es X.env).findIdx? (·.1) = none := by rfl) : DG ca X tv (.Tuple es k pos) (gT n gs) := PGm (pg_tup hc h hn hst) fun _ _ _ _ h => tg_tup h
variable {tg : Expr}
theorem i_seq (h : DB ca X md e bf) : DI ca X md tg e (iSeq bf) := PIm (pi_any h) fun _ _ _ h => is_seq h
theorem i_rng1 (hm : X.mg "range" = none) (ha : DA ca X md [a] af) (hg : Gl X "range" := by rfl) (hs : starEach [a] X.env = [(false, eval a X.env)] := by rfl) : DI ca X md tg (.Call (.Name "range" p) [a] [] pos) (iRng rng1 af) := PIm (pi_range1 hg hm ha hs) fun _ _ _ h => is_rng1 h
theorem i_rng2 (hm : X.mg "range" = none) (ha : DA ca X md [a, b] af) (hg : Gl X "range" := by rfl) (hs : starEach [a, b] X.env = [(false, eval a X.env), (false, eval b X.env)] := by rfl) (hs2 : starEach [b] X.env = [(false, eval b X.env)] := by rfl) : DI ca X md tg (.Call (.Name "range" p) [a, b] [] pos) (iRng rng2 af) := PIm (pi_range2 hg hm ha hs hs2) fun _ _ _ h => is_rng2 h
theorem i_rng3 (hm : X.mg "range" = none) (ha : DA ca X md [a, b, c] af) (hg : Gl X "range" := by rfl) (hs : starEach [a, b, c] X.env = (false, eval a X.env) :: starEach [b, c] X.env := by rfl) (hpl : (backTo pos (starEach [b, c] X.env)).any (·.1) = false := by rfl) : DI ca X md tg (.Call (.Name "range" p) [a, b, c] [] pos) (iRng rng3 af) := PIm (pi_range3 hg hm ha hs hpl) fun _ _ _ h => is_rng3 h
theorem i_enum {elts : List Expr} {kk : Nat} {tpos : Pos} (hm : X.mg "enumerate" = none) (ha : DA ca X md [a] af) (hg : Gl X "enumerate" := by rfl) (hs : starEach [a] X.env = [(false, eval a X.env)] := by rfl) : DI ca X md (.Tuple elts kk tpos) (.Call (.Name "enumerate" p) [a] [] pos) (iRng enm af) := PIm (pi_enum hg hm ha hs) fun _ _ _ h => is_enum h
theorem i_zip {elts : List Expr} {kk : Nat} {tpos : Pos} (hm : X.mg "zip" = none) (ha : DA ca X md [a, b] af) (hg : Gl X "zip" := by rfl) (hs : starEach [a, b] X.env = (false, eval a X.env) :: starEach [b] X.env := by rfl) (hpl : (backTo pos (starEach [b] X.env)).any (·.1) = false := by rfl) : DI ca X md (.Tuple elts kk tpos) (.Call (.Name "zip" p) [a, b] [] pos) (iRng zp af) := PIm (pi_zipA hg hm ha hs hpl) fun _ _ _ h => is_zip h
theorem d_mut {name : Str} {id : String} {r : V → List V → Hp → VK → Prop} {m : T → List T → R (T × T)} (i : Nat) (slot : Slot "list" name id) (hty : typeOf (.builtin id) = pure (.type "method_descriptor")) (hm : MtR X id r) (hs : MutS X.K ca r m) (md0 : List Nat) (ha : DA ca X md0 (e :: es) af)
    (hN : X.N[i]? = some x := by rfl) (him : i ∈ md := by decide) (hmd : ∀ j, j ∈ md0 → j ∈ md := by decide) (hi0 : i ∉ md0 := by decide) (hv : Vis X.env.scope x := by first | exact Or.inl rfl | exact Or.inr (Or.inl rfl) | exact Or.inr (Or.inr rfl)) (hd : (x == ("__debug__" : Str)) = false := by decide) (hcd : (x == ("__classdict__" : Str)) = false := by decide)
    (hbase : attributeBase (.Name x p) name X.env (eval (.Name x p) X.env) = eval (.Name x p) X.env := by rfl)
    (hfew : ((backTo cpos (starEach (e :: es) X.env)).all (fun x => !x.1) && (backToKw cpos (keywordEach [] X.env)).all (fun x => x.1.isSome)
      && decide ((e :: es).length + ([] : List Keyword).length + (if ([] : List Keyword).isEmpty then 0 else 1) < 30)) = true := by rfl)
    (hline : (apos.endLine == cpos.line) = true := by rfl) (hst : starEach (e :: es) X.env = (false, eval e X.env) :: starEach es X.env := by rfl) (hplain : (backTo cpos (starEach es X.env)).any (·.1) = false := by rfl) :
    DE ca X md (.Call (.Attribute (.Name x p) name apos) (e :: es) [] cpos) (eMut i T.isLst m af) :=
  PEm (pe_bm PySem.F.plainAttrs_list slot hty hm (pv i hN hv hd hcd) ha hbase hfew hline hst hplain) fun _ _ _ h => te_mut him hmd hi0 hs ty_lst h
theorem d_mut0 {name : Str} {id : String} {r : V → List V → Hp → VK → Prop} {m : T → List T → R (T × T)} (i : Nat) (slot : Slot "list" name id) (hty : typeOf (.builtin id) = pure (.type "method_descriptor")) (hm : MtR X id r) (hs : MutS X.K ca r m)
    (hN : X.N[i]? = some x := by rfl) (him : i ∈ md := by decide) (hv : Vis X.env.scope x := by first | exact Or.inl rfl | exact Or.inr (Or.inl rfl) | exact Or.inr (Or.inr rfl)) (hd : (x == ("__debug__" : Str)) = false := by decide) (hcd : (x == ("__classdict__" : Str)) = false := by decide)
    (hbase : attributeBase (.Name x p) name X.env (eval (.Name x p) X.env) = eval (.Name x p) X.env := by rfl) (hline : (apos.endLine == cpos.line) = true := by rfl) :
    DE ca X md (.Call (.Attribute (.Name x p) name apos) [] [] cpos) (eMut i T.isLst m aNil) :=
  PEm (pe_bm0 PySem.F.plainAttrs_list slot hty hm (pv i hN hv hd hcd) hbase hline) fun σ H Q h => by
    obtain ⟨v, h1, h2, h3⟩ := te_mut (md0 := []) him (fun _ z => absurd z (by simp)) (by simp) hs ty_lst h
    exact ⟨v, h1, h2, ta_nil h3⟩
variable {st : Stmt} {sts : List Stmt} {sf sg : SM} {value : Expr}
theorem ss_nil : DSs ca X pn [] sNil := PSsm pss_nil fun _ _ _ h => ts_nil h
theorem ss_cons (h1 : DS ca X pn st sf) (h2 : DSs ca X pn sts sg) : DSs ca X pn (st :: sts) (sSeq sf sg) := PSsm (pss_cons h1 h2) fun _ _ _ h => ts_seq h
theorem ss_one (h1 : DS ca X pn st sf) : DSs ca X pn [st] sf := pss_one h1
theorem s_pass : DS ca X pn (.Pass pos) sNil := PSm ps_pass fun _ _ _ h => ts_pass h
theorem s_break : DS ca X pn (.Break pos) sBreak := PSm ps_break fun _ _ _ h => ts_break h
theorem s_cont : DS ca X pn (.Continue pos) sCont := PSm ps_continue fun _ _ _ h => ts_cont h
theorem s_if {as bs : List Stmt} (hc : DT ca X md c tc) (ha : DSs ca X pn as sf) (hb : DSs ca X pn bs sg) : DS ca X pn (.If c as bs pos) (sIf tc sf sg) := PSm (ps_if hc ha hb) fun _ _ _ h => ts_if h
theorem s_ret (h : DE ca X md e f) : DS ca X pn (.Return (some e) pos) (sRet f) := PSm (ps_ret h) fun _ _ _ h => ts_ret h
theorem s_retN : DS ca X pn (.Return none pos) sRetN := PSm ps_retN fun _ _ _ h => ts_retN h
theorem s_expr (h : DE ca X md e f) (hs : swapsWith e none pos.line X.env = pure false := by rfl) : DS ca X pn (.Expr e pos) (sDrop f) := PSm (ps_expr h hs) fun _ _ _ h => ts_drop h
theorem s_asg {gt : T → En → R En} (tv : List Nat) (he : DE ca X md e f) (hg : DG ca X tv a gt) (hp : Apt tv pn := by decide) (hs : swapsWithSole [a] e pos.line X.env = pure false := by rfl) (hw : swappedStores [a] e X.env = pure none := by rfl) (h1 : (assignEach [a] X.env).map (·.2) = [assign a X.env] := by rfl) :
    DS ca X pn (.Assign [a] e pos) (sAsg f gt) := PSm (ps_asg he hg hs hw h1) fun _ _ _ h => ts_asg hp h
theorem s_set {pos' : Pos} (i : Nat) (hN : X.N.Nodup) (he : DE ca X md e f) (hi : X.N[i]? = some x := by rfl) (hp : Apt [i] pn := by decide) (hx : Loc X.env.scope x := by first | exact Or.inl rfl | exact Or.inr rfl) (hs : swapsWith e (some (.Name x pos')) pos.line X.env = pure false := by rfl) (hf : X.fn x = true ∨ X.env.scope.names.lookup x = some .local := by first | exact .inl rfl | exact .inr rfl) :
    DS ca X pn (.Assign [.Name x pos'] e pos) (sAsg f (gN i)) := PSm (ps_set hN hi hx he hs hf) fun _ _ _ h => (ts_asg (md := md) (tv := [i]) hp h : tAsg _ _ _ _ _) |> fun q => TEof.mono q fun v H1 h1 => tg_name (List.mem_singleton.mpr rfl) h1
theorem s_aug {pos' : Pos} (i : Nat) (hN : X.N.Nodup) (he : DE ca X md e f) (hi : X.N[i]? = some x := by rfl) (hp : Apt [i] pn := by decide) (him : i ∉ md := by decide) (hx : Loc X.env.scope x := by first | exact Or.inl rfl | exact Or.inr rfl) (hf : X.fn x = true ∨ X.env.scope.names.lookup x = some .local := by first | exact .inl rfl | exact .inr rfl) :
    DS ca X pn (.AugAssign (.Name x pos') .Add e pos) (sAug i f) := PSm (ps_aug hN hi hx he ip_add hf) fun _ _ _ h => ts_aug hp him h
/-- y = [..] on one line -/
theorem s_setLc {py cpos : Pos} {elt tg iter : Expr} {ifs : List Expr} {scope : Scope} (i : Nat) (own : List (Str × Nat)) {src : En → R (List T × En)} {gt : T → En → R En} {cond : BT} (hN : X.N.Nodup) (hi : DI ca X md tg iter src) (ok : blkC X.N X.env.scope scope own = true)
    (hg : ∀ (s : Shared) (H : Hp) (C : Addr) (cl : List (Str × Addr)) (fp : List Addr), DG ca (X.blk s H scope (compEnvC scope cl C X.env) fp) (own.map (·.2)) tg gt)
    (ht : ∀ (s : Shared) (H : Hp) (C : Addr) (cl : List (Str × Addr)) (fp : List Addr), PTs (X.blk s H scope (compEnvC scope cl C X.env) fp) ifs (TTof X.K ca md cond))
    (he : ∀ (s : Shared) (H : Hp) (C : Addr) (cl : List (Str × Addr)) (fp : List Addr), DE ca (X.blk s H scope (compEnvC scope cl C X.env) fp) md elt f)
    (hsw : swapsWith (.ListComp elt [⟨tg, iter, ifs, 0⟩] scope cpos) (some (.Name x py)) pos.line X.env = pure true) (hy : X.N[i]? = some x := by rfl) (hyl : X.env.scope.names.lookup x = some .local := by rfl) (hp : Apt [i] pn := by decide)
    (hm : ∀ i, i ∈ own.map (·.2) → i ∉ md := by decide) (hc : X.calm = true := by rfl) (hs : ∀ x, foldedSetIterable iter X.env x = pure x := by intro _; rfl) :
    DS ca X pn (.Assign [.Name x py] (.ListComp elt [⟨tg, iter, ifs, 0⟩] scope cpos) pos) (sAsg (eLc src gt cond f (own.map (·.2))) (gN i)) :=
  PSm (ps_setLc hc hN hy hyl hsw hi (blkOk_by ok) hg ht he hs) fun _ _ _ h => te_lc hm ((ts_asg (md := md) (tv := [i]) hp h : tAsg _ _ _ _ _) |> fun q => TEof.mono q fun v H1 h1 => tg_name (List.mem_singleton.mpr rfl) h1)
theorem s_par {y : Str} {px py pt : Pos} {kt k2 pt2} (i j : Nat) (hN : X.N.Nodup) (ha : DA ca X md [a, b] af) (hw : swappedStores [.Tuple [.Name x px, .Name y py] kt pt] (.Tuple [a, b] k2 pt2) X.env = pure (some [x, y]) := by rfl) (hi : X.N[i]? = some x := by rfl) (hj : X.N[j]? = some y := by rfl) (hij : i ≠ j := by decide)
    (hpi : i ∉ pn := by decide) (hpj : j ∉ pn := by decide) (hx : X.env.scope.names.lookup x = some .local := by rfl) (hy : X.env.scope.names.lookup y = some .local := by rfl) (hc : X.calm = true := by rfl)
    (hs : swapsWithSole [.Tuple [.Name x px, .Name y py] kt pt] (.Tuple [a, b] k2 pt2) pos.line X.env = pure false := by rfl) :
    DS ca X pn (.Assign [.Tuple [.Name x px, .Name y py] kt pt] (.Tuple [a, b] k2 pt2) pos) (sPar af i j) := PSm (ps_par hc hN hi hj hij hx hy ha hw hs) fun _ _ _ h => ts_par hpi hpj hij h
theorem s_par3 {y z : Str} {px py pz pt : Pos} {kt k2 pt2} (i j l : Nat) (hN : X.N.Nodup) (ha : DA ca X md [a, b, c] af) (hw : swappedStores [.Tuple [.Name x px, .Name y py, .Name z pz] kt pt] (.Tuple [a, b, c] k2 pt2) X.env = pure (some [x, y, z]) := by rfl) (hi : X.N[i]? = some x := by rfl) (hj : X.N[j]? = some y := by rfl) (hl : X.N[l]? = some z := by rfl) (hij : i ≠ j := by decide) (hil : i ≠ l := by decide) (hjl : j ≠ l := by decide)
    (hpi : i ∉ pn := by decide) (hpj : j ∉ pn := by decide) (hpl : l ∉ pn := by decide) (hx : X.env.scope.names.lookup x = some .local := by rfl) (hy : X.env.scope.names.lookup y = some .local := by rfl) (hz : X.env.scope.names.lookup z = some .local := by rfl) (hc : X.calm = true := by rfl)
    (hs : swapsWithSole [.Tuple [.Name x px, .Name y py, .Name z pz] kt pt] (.Tuple [a, b, c] k2 pt2) pos.line X.env = pure false := by rfl) :
    DS ca X pn (.Assign [.Tuple [.Name x px, .Name y py, .Name z pz] kt pt] (.Tuple [a, b, c] k2 pt2) pos) (sPar3 af i j l) := PSm (ps_par3 hc hN hi hj hl hij hil hjl hx hy hz ha hw hs) fun _ _ _ h => ts_par3 hpi hpj hpl h
theorem s_while {body : List Stmt} (n : Nat) (hp : PassesOwn (model X.prog X.w) X.A X.env X.xe) (hc : DT ca X md c tc) (hb : DSs ca X pn body sf) : DS ca X pn (.While c body [] pos) (sWhile n tc sf) := PSm (ps_while hp hc hb) fun _ _ _ h => ts_while h
theorem s_for {body : List Stmt} {iter : Expr} {src : En → R (List T × En)} {gt : T → En → R En} (tv : List Nat) (hp : PassesOwn (model X.prog X.w) X.A X.env X.xe) (hi : DI ca X md a iter src) (hg : DG ca X tv a gt) (hb : DSs ca X pn body sf) (ht : Apt tv pn := by decide) (hc : X.calm = true := by rfl)
    (hs : ∀ x, foldedSetIterable iter X.env x = pure x := by intro _; rfl) : DS ca X pn (.For a iter body [] pos) (sFor src gt sf) := PSm (ps_for hp hc hi hg hb hs) fun _ _ _ h => ts_for ht h
/-- xs[i] = v -/
theorem s_setix {px pos' : Pos} (i : Nat) (hi : DE ca X md b g) (hv : DE ca X md value f) (him : i ∉ md := by decide) (hN : X.N[i]? = some x := by rfl) (hvs : Vis X.env.scope x := by first | exact Or.inl rfl | exact Or.inr (Or.inl rfl) | exact Or.inr (Or.inr rfl)) (hd : (x == ("__debug__" : Str)) = false := by decide) (hcd : (x == ("__classdict__" : Str)) = false := by decide)
    (ha : ∀ v, assign (.Subscript (.Name x px) b pos') X.env v = (do
      let ov ← holding [v] (eval (.Name x px) X.env)
      let iv ← holding [v, ov] (eval b X.env)
      standAt pos'
      holding [v, ov, iv] (setItem ov iv v)
      release [v, ov, iv] []) := by intro _; rfl) (hs : swapsWithSole [.Subscript (.Name x px) b pos'] value pos.line X.env = pure false := by rfl) (hw : swappedStores [.Subscript (.Name x px) b pos'] value X.env = pure none := by rfl) (h1 : (assignEach [.Subscript (.Name x px) b pos'] X.env).map (·.2) = [assign (.Subscript (.Name x px) b pos') X.env] := by rfl) :
    DS ca X pn (.Assign [.Subscript (.Name x px) b pos'] value pos) (sSetIx i f g) := PSm (ps_asg hv (pg_sub (pv i hN hvs hd hcd) hi set_list ha) hs hw h1) fun _ _ _ h => ts_setIx him h
end

structure Def (ca : Ca) (P : Program) (w : World) (K : PySem.W.Frag) (mg : Str → Option Value) (base : Heap) (lvl : Nat) (name : Str) (ps : List Str) (io : Option Nat) (g : Fn) : Prop where
  ex : ∃ fd, FnOk P w K mg base CX0 lvl (He.ga K name) fd ps (spOf K ca io g) ∧ Binds K fd ps [] ∧ ∃ oc od osl, K.lookup (He.ga K name) = some ⟨oc, od, .func fd, osl⟩
  at_ : mg name = some (.ref (He.ga K name))
  kp : PySem.W.keepIn K (.ref (He.ga K name)) = true
theorem Def.of {ca : Ca} {P : Program} {w : World} {K : PySem.W.Frag} {mg : Str → Option Value} {base : Heap} {lvl : Nat} {name : Str} {ps : List Str} {io : Option Nat} {g : Fn} (D : Def ca P w K mg base lvl name ps io g) {x qual : Str} {params : Arguments} {st : List Stmt} {sc : Scope} {fd : FuncData}
    (F : FunD K x qual params st sc [] [] (He.ga K name) fd) : FnOk P w K mg base CX0 lvl (He.ga K name) fd ps (spOf K ca io g) := by
  obtain ⟨fd2, G, _, oc, od, osl, lk⟩ := D.ex
  obtain ⟨oc', od', dV, kV, doc, pm, an, cdv, ct, osl', e1, lk', _⟩ := F.ex
  rw [lk] at lk'
  have e : fd2 = fd := by
    injection Option.some.inj lk' with _ _ h3 _
    injection h3
  rw [← e]
  exact G
section
variable {ca : Ca} {X : Cx} {md : List Nat} {e : Expr} {es : List Expr} {p pos : Pos} {x : Str} {af : AM} {lvl k : Nat} {ps : List Str} {io : Option Nat} {g : Fn}
theorem d_call (D : Def ca X.prog X.w X.K X.mg X.base lvl x ps io g) (hr : Room k X.A) (md0 : List Nat) (sl : Option Nat) (ha : DA ca X md0 (e :: es) af) (hm : ∀ i, i ∈ md0 → i ∈ md := by decide) (hsl : ∀ i, sl = some i → i ∈ md := by first | (intro i h; cases h; done) | (intro i h; cases h; decide)) (hk : lvl ≤ k := by first | decide | omega) (hg : Gl X x := by rfl) (hdb : (x == ("__debug__" : Str)) = false := by decide)
    (he : starEach (e :: es) X.env = (false, eval e X.env) :: starEach es X.env := by rfl) (hpl : (backTo pos (starEach es X.env)).any (·.1) = false := by rfl) : DE ca X md (.Call (.Name x p) (e :: es) [] pos) (eCall io sl g af) := by
  obtain ⟨fd, F, B, _⟩ := D.ex
  exact PEm (pe_call (E := E0) F (hr.mono hk) hg D.at_ D.kp B .nil pass0 ha hdb he hpl) fun _ _ _ h => te_call hm hsl h
end
section
variable {ca : Ca} {P : Program} {w : World} {K : PySem.W.Frag} {mg : Str → Option Value} {base h : Heap}
/-- a def that is never asked -/
theorem def_stk {x qual : Str} {params : Arguments} {st : List Stmt} {sc : Scope} {fd : FuncData} {ps : List Str} {k : Nat} {io : Option Nat} (F : FunD K x qual params st sc [] [] (He.ga K x) fd) (hat : mg x = some (.ref (He.ga K x)))
    (hb : ∀ (kV doc pm : Value) (an : Option Addr) (cdv ct : Value) (us : List Value), us.length = ps.length → bindArgs (PySem.W.fnOf x qual params st sc .none kV doc pm an cdv ct) ⟨us, []⟩ = pure (ps.zip us)) : Def ca P w K mg base k x ps io (fun _ => stk) := by
  have lk : ∃ oc od osl, K.lookup (He.ga K x) = some ⟨oc, od, .func fd, osl⟩ := by
    obtain ⟨oc, od, dV, kV, doc, pm, an, cdv, ct, osl, _, lk, _⟩ := F.ex
    exact ⟨oc, od, osl, lk⟩
  refine ⟨⟨fd, ⟨fun vs H Q E h => ?_, fun A outer s H args us vs Q E hr he hb hv h => ?_⟩, F.bindsN hb, lk⟩, hat, F.kp⟩
  · obtain ⟨F, ts, fi, t, out, s, e, k⟩ := h
    cases e
  · obtain ⟨F, ts, fi, t, out, s, e, k⟩ := h
    cases e
theorem spOf_len {io : Option Nat} {n : Nat} {g : Fn} (hg : ∀ ts z, g ts = .ok z → ts.length = n) : ∀ vs H Q E, spOf K ca io g vs H Q E → vs.length = n := by
  intro vs H Q E ⟨F, ts, fi, t, out, s, e, k⟩
  have := s.len
  simp at this
  rw [← this]
  exact hg ts _ e
/-- a def of so many parameters -/
def fnN (m n : Nat) (io : Option Nat) (body : SM) : Fn := fun ts => do
  let _ ← ck (decide (ts.length = m))
  fnOf n io body ts
theorem fnN_of {m n : Nat} {io : Option Nat} {body : SM} {ts : List T} {z : T × Option T} (h : fnN m n io body ts = .ok z) : ts.length = m ∧ fnOf n io body ts = .ok z := by
  obtain ⟨_, c, e⟩ := bind_ok h
  exact ⟨of_decide_eq_true (ck_ok c), e⟩
theorem spOf_body {io : Option Nat} {m n : Nat} {body : SM} {vs : List V} {H : Hp} {Q : VK} {E : XK} (h : spOf K ca io (fnN m n io body) vs H Q E) : spOf K ca io (fnOf n io body) vs H Q E := by
  obtain ⟨F, ts, fi, t, out, s, e, k⟩ := h
  exact ⟨F, ts, fi, t, out, s, (fnN_of e).2, k⟩
theorem def_mk {x qual : Str} {params : Arguments} {st : List Stmt} {sc : Scope} {fd : FuncData} {N ps : List Str} {k m n : Nat} {io : Option Nat} {body : SM} (F : FunD K x qual params st sc [] [] (He.ga K x) fd) (hat : mg x = some (.ref (He.ga K x))) (S : FnScope N ps sc) (hm : ps.length = m) (hn : N.length = n)
    (hb : ∀ (kV doc pm : Value) (an : Option Addr) (cdv ct : Value) (us : List Value), us.length = ps.length → bindArgs (PySem.W.fnOf x qual params st sc .none kV doc pm an cdv ct) ⟨us, []⟩ = pure (ps.zip us))
    (hbody : ∀ (cdv : Value) (A : Around) (outer : List Env) (s : Shared) (H : Hp) (E : XK), Room k (A.deeper (PyProof.Rows.envOfC qual sc s.heap.objs.size (He.ga K x) cdv)) → DSs ca (cxOf CX0 P w K mg base N qual sc (He.ga K x) cdv A outer s H E).nox (ioPins io) st body) :
    Def ca P w K mg base (k + 1) x ps io (fnN m n io body) := by
  have lk : ∃ oc od osl, K.lookup (He.ga K x) = some ⟨oc, od, .func fd, osl⟩ := by
    obtain ⟨oc, od, dV, kV, doc, pm, an, cdv, ct, osl, _, lk, _⟩ := F.ex
    exact ⟨oc, od, osl, lk⟩
  refine ⟨⟨fd, F.ok S (spOf_len fun ts z e => by rw [hm]; exact (fnN_of e).1) (fun cdv A outer s H vs Q E hr h => ⟨_, (hbody cdv A outer s H E hr).nox, body_ok hn (spOf_body h)⟩), F.bindsN hb, lk⟩, hat, F.kp⟩
end
end QL
namespace QL
open PySem L2
section
variable {K : PySem.W.Frag} {ca : Ca} {F F' F1 H H' H1 : Hp} {O O' : Addr → Prop} {σ : L2.St} {env : En} {fp : Fp} {t : T} {v : V} {fv : List Addr} {ts : List T} {vs : List V} {md : List Nat}
/-- an owned slot lent, frozen, to a value that changes nothing and keeps nothing -/
def eLd (i : Nat) (f : EM) : EM := fun env => match T.at env i with
  | some t => if t.ow then do
      let _ ← ck t.nob
      let (r, _) ← f (env.set i (some t.fz))
      let _ ← ck r.flat
      .ok (r, env)
    else f env
  | none => f env
theorem te_none {f : EM} {Q : VK} (h : TEof K ca md f σ H Q) : TEof K ca md f σ H Q := h
theorem te_wide {f : EM} {Q : VK} {F : Hp} {env env' : En} {fp : Fp} {t : T} (s : SR K ca F H σ env fp) (e : f env = .ok (t, env')) (k : ∀ v H' F' fp' fv, Go F H (OwM md fp) F' H' (fun a => OwM md fp' a ∨ a ∈ fv) → Keep md env fp env' fp' → SR K ca F' H' σ env' fp' → Tm K ca F' H' fp' t v fv → Q v H') : TEof K ca [] f σ H Q :=
  ⟨F, env, fp, t, env', s, e, fun v H' F' fp' fv g kp s' m => k v H' F' fp' fv (Go.full_md g kp fun _ z => nomatch z) ⟨fun i _ => kp.fp i fun z => (nomatch z), fun i _ => kp.env i fun z => (nomatch z)⟩ s' m⟩
open Classical in
theorem te_ld {i : Nat} {f : EM} {Q : VK} (h : TEof K ca md (eLd i f) σ H Q) : TEof K ca [] f σ H Q := by
  obtain ⟨F, env, fp, t, env', s, e, k⟩ := h
  unfold eLd at e
  split at e
  case h_2 => exact te_wide s e k
  case h_1 u eu =>
    split at e
    case isFalse => exact te_wide s e k
    case isTrue =>
    obtain ⟨_, c, e⟩ := bind_ok e
    obtain ⟨⟨r0, env2⟩, e2, e⟩ := bind_ok e
    obtain ⟨_, c2, e⟩ := bind_ok e
    cases e
    have eu : env[i]? = some (some u) := by
      unfold T.at at eu
      cases q : env[i]? with
      | none => rw [q] at eu; cases eu
      | some o => rw [q] at eu; exact congrArg some eu
    obtain ⟨w, e1, r⟩ := s.slot i u eu
    obtain ⟨Fv, v1, v2⟩ : ∃ Fv : Hp, (∀ a, a ∈ fp i → Fv a = H a) ∧ (∀ a, a ∉ fp i → Fv a = F a) := ⟨fun a => if a ∈ fp i then H a else F a, fun a z => if_pos z, fun a z => if_neg z⟩
    have sv : Sub F Fv := fun a o ea => by
      by_cases z : a ∈ fp i
      · rw [v1 a z]; exact s.sub a o ea
      · rw [v2 a z]; exact ea
    have svH : Sub Fv H := fun a o ea => by
      by_cases z : a ∈ fp i
      · rw [v1 a z] at ea; exact ea
      · rw [v2 a z] at ea; exact s.sub a o ea
    have g : Go F H (· ∈ fp i) Fv H (fun _ => False) := ⟨sv, svH, fun _ _ e _ => e, fun b e => by
      by_cases z : b ∈ fp i
      · exact .inr (.inl z)
      · rw [v2 b z] at e; exact .inl e, fun _ z => z.elim⟩
    have rv := Rep.frz (H' := H) sv u (ck_ok c) r v1
    have sD : SR K ca Fv H σ (env.set i none) (fpSet fp i []) := s.drop.of_go g fun a ⟨j, hj⟩ z => by
      by_cases w : j = i
      · subst w; rw [fpSet_same] at hj; cases hj
      · rw [fpSet_ne w] at hj; exact w (s.one j i a hj z)
    have hil : i < env.length := (List.getElem?_eq_some_iff.mp eu).1
    have sP := sD.put (i := i) (t := u.fz) (v := w) (fv := []) ⟨rv, List.nodup_nil, fun _ z => nomatch z⟩ (by rw [List.length_set]; exact hil)
    have e1' : σ.set i (some w) = σ := List.ext_getElem? fun j => by
      by_cases hji : i = j
      · subst hji; rw [List.getElem?_set_self (by rw [← s.len]; exact hil), e1]
      · rw [List.getElem?_set_ne hji]
    have e2' : (env.set i none).set i (some u.fz) = env.set i (some u.fz) := List.set_set ..
    rw [e1', e2'] at sP
    refine ⟨Fv, _, _, t, env2, sP, e2, fun v H' F' fp' fv g1 _ _ m => ?_⟩
    have g2 : Go F H (fun _ => False) F H' (fun _ => False) := ⟨Sub.refl F, sv.trans (g1.ext.trans g1.sub), fun b o e _ => g1.frame b o e fun ⟨j, hj, _⟩ => (nomatch hj), fun b e => .inl e, fun _ z => z.elim⟩
    refine k v H' F fp [] ⟨g2.ext, g2.sub, fun b o e _ => g2.frame b o e id, fun b e => .inl e, fun b z => z.elim .inl fun z => nomatch z⟩ Keep.refl (s.of_go g2 fun _ _ z => z) ⟨?_, List.nodup_nil, fun _ z => nomatch z⟩
    have c2 := ck_ok c2
    have mr := m.rep
    revert c2 mr
    cases t <;> intro c2 mr <;> first | (simp only [Rep] at mr; simp [Rep, mr.1]; done) | (exact absurd c2 (by simp [T.flat]))
end
section
variable {ca : Ca} {X : Cx} {md : List Nat} {e : Expr} {f : EM}
theorem d_ld (i : Nat) (h : DE ca X [] e f) : DE ca X md e (eLd i f) := PEm h fun _ _ _ h => te_ld h
end
end QL
namespace QL
open PySem L2 RZ

section
variable {K : PySem.W.Frag} {ca : Ca} {F F' F1 H H' H1 : Hp} {O O' : Addr → Prop} {σ : L2.St} {env : En} {fp : Fp} {t : T} {v : V} {fv : List Addr} {ts : List T} {vs : List V} {md : List Nat}
def getT (ks : List (Key × T)) (k : Key) : Option T := (ks.find? fun p => decide (p.1 = k)).map (·.2)
def putT (ks : List (Key × T)) (k : Key) (t : T) : List (Key × T) := if (ks.any fun p => decide (p.1 = k)) = true then ks.map (fun p => if p.1 = k then (p.1, t) else p) else ks ++ [(k, t)]
def mergeT (ks more : List (Key × T)) : List (Key × T) := more.foldl (fun acc p => putT acc p.1 p.2) ks
theorem Repk.get {k : Key} : ∀ {ks : List (Key × T)} {us : List (Key × V)} {f : List Addr}, Repk K ca F H ks us f → f.Nodup →
    (∀ t, getT ks k = some t → ∃ v g, valV us k = some v ∧ Rep K ca F H t v g ∧ g.Nodup ∧ ∀ a ∈ g, a ∈ f) ∧ (getT ks k = none → valV us k = none)
  | [], _, _, h, _ => by
    simp only [Repk] at h
    rw [h.1]
    exact ⟨fun t e => by simp [getT] at e, fun _ => rfl⟩
  | (k0, t0) :: ks, _, _, h, n => by
    simp only [Repk] at h
    obtain ⟨v, us, f, g, rfl, r1, r2, rfl⟩ := h
    have hn := List.nodup_append.mp n
    by_cases e : k0 = k
    · have h1 : getT ((k0, t0) :: ks) k = some t0 := by simp [getT, List.find?_cons, e]
      rw [h1, valV_pos (p := (k0, v)) e]
      exact ⟨fun t q => by cases q; exact ⟨v, f, rfl, r1, hn.1, fun a ha => List.mem_append_left _ ha⟩, fun q => by cases q⟩
    · have h1 : getT ((k0, t0) :: ks) k = getT ks k := by simp [getT, List.find?_cons, e]
      rw [h1, valV_neg (p := (k0, v)) e]
      obtain ⟨i1, i2⟩ := Repk.get (k := k) r2 hn.2.1
      exact ⟨fun t q => by obtain ⟨v', g', a1, a2, a3, a4⟩ := i1 t q; exact ⟨v', g', a1, a2, a3, fun a ha => List.mem_append_right _ (a4 a ha)⟩, i2⟩
theorem nil_app {a b : List Addr} (h : ([] : List Addr) = a ++ b) : a = [] ∧ b = [] := List.append_eq_nil_iff.mp h.symm
theorem Repk.any0 {k : Key} : ∀ {ks : List (Key × T)} {us : List (Key × V)} {f : List Addr}, Repk K ca F H ks us f → (us.any fun p => decide (p.1 = k)) = (ks.any fun p => decide (p.1 = k))
  | [], _, _, h => by simp only [Repk] at h; rw [h.1]; rfl
  | (k0, t0) :: ks, _, _, h => by
    simp only [Repk] at h
    obtain ⟨v, us, f, g, rfl, _, r2, _⟩ := h
    rw [List.any_cons, List.any_cons, Repk.any0 r2]
theorem Repk.len : ∀ {ks : List (Key × T)} {us : List (Key × V)} {f : List Addr}, Repk K ca F H ks us f → us.length = ks.length
  | [], _, _, h => by simp only [Repk] at h; rw [h.1]; rfl
  | (k0, t0) :: ks, _, _, h => by
    simp only [Repk] at h
    obtain ⟨v, us, f, g, rfl, _, r2, _⟩ := h
    rw [List.length_cons, List.length_cons, Repk.len r2]
theorem Repk.snoc0 {k : Key} (r : Rep K ca F H t v []) : ∀ {ks : List (Key × T)} {us : List (Key × V)}, Repk K ca F H ks us [] → Repk K ca F H (ks ++ [(k, t)]) (us ++ [(k, v)]) []
  | [], _, h => by
    simp only [Repk] at h
    rw [h.1]
    simp only [List.nil_append, Repk]
    exact ⟨v, [], [], [], rfl, r, ⟨rfl, rfl⟩, rfl⟩
  | (k0, t0) :: ks, _, h => by
    simp only [Repk] at h
    obtain ⟨w, us, f, g, rfl, r1, r2, e⟩ := h
    obtain ⟨rfl, rfl⟩ := nil_app e
    simp only [List.cons_append, Repk]
    exact ⟨w, us ++ [(k, v)], [], [], rfl, r1, Repk.snoc0 r r2, rfl⟩
theorem Repk.map0 {k : Key} (r : Rep K ca F H t v []) : ∀ {ks : List (Key × T)} {us : List (Key × V)}, Repk K ca F H ks us [] → Repk K ca F H (ks.map fun p => if p.1 = k then (p.1, t) else p) (us.map fun p => if p.1 = k then (p.1, v) else p) []
  | [], _, h => by simp only [Repk] at h; rw [h.1]; simp only [List.map_nil, Repk]; trivial
  | (k0, t0) :: ks, _, h => by
    simp only [Repk] at h
    obtain ⟨w, us, f, g, rfl, r1, r2, e⟩ := h
    obtain ⟨rfl, rfl⟩ := nil_app e
    have ih := Repk.map0 (k := k) r r2
    by_cases e : k0 = k
    · simp only [List.map_cons, e, if_true, Repk]
      exact ⟨v, _, [], [], rfl, r, ih, rfl⟩
    · simp only [List.map_cons, e, if_false, Repk]
      exact ⟨w, _, [], [], rfl, r1, ih, rfl⟩
theorem Repk.put0 {k : Key} (r : Rep K ca F H t v []) {ks : List (Key × T)} {us : List (Key × V)} (h : Repk K ca F H ks us []) : Repk K ca F H (putT ks k t) (putK us k v) [] := by
  unfold putT putK
  rw [h.any0]
  split
  · exact h.map0 r
  · exact h.snoc0 r
theorem Repk.merge0 : ∀ {more : List (Key × T)} {ws : List (Key × V)} {ks : List (Key × T)} {us : List (Key × V)}, Repk K ca F H more ws [] → Repk K ca F H ks us [] → Repk K ca F H (mergeT ks more) (mergeK us ws) []
  | [], _, _, _, h, r => by simp only [Repk] at h; rw [h.1]; exact r
  | (k0, t0) :: more, _, ks, us, h, r => by
    simp only [Repk] at h
    obtain ⟨w, ws, f, g, rfl, r1, r2, e⟩ := h
    obtain ⟨rfl, rfl⟩ := nil_app e
    show Repk K ca F H (mergeT (putT ks k0 t0) more) (mergeK (putK us k0 w) ws) []
    exact Repk.merge0 r2 (r.put0 r1)
theorem Rep.dct {o : Bool} {ks : List (Key × T)} (s : Sub F H) (h : Rep K ca F H (.dct o ks) v fv) (n : fv.Nodup) : ∃ a us g, v = .ref a ∧ Rd H a (.dK us) ∧ Repk K ca F H ks us g ∧ g.Nodup ∧ (∀ x ∈ g, x ∈ fv) := by
  cases o with
  | true =>
    simp only [Rep] at h
    obtain ⟨a, us, g, h1, h2, h3, h4, h5⟩ := h
    subst h5
    exact ⟨a, us, g, h1, .inl h2, h4, (List.nodup_cons.mp n).2, fun x hx => List.mem_cons_of_mem _ hx⟩
  | false =>
    simp only [Rep] at h
    obtain ⟨a, us, h1, h2, h4, h5⟩ := h
    exact ⟨a, us, [], h1, s.rd h2, h4, List.nodup_nil, (fun _ z => absurd z (by simp))⟩
def keyT : T → Option Key
  | .int i => some (.inl i)
  | .str s => some (.inr s)
  | _ => none
theorem keyT_ok {k : Key} (e : keyT t = some k) (h : Rep K ca F H t v fv) : v = kV k ∧ fv = [] := by
  cases t <;> first | (cases e; simp only [Rep] at h; exact h) | cases e
/-- what stands at a key -/
def dctAt (d y : T) (k : Option T → R T) : R T := match d, keyT y with
  | .dct _ ks, some j => k (getT ks j)
  | _, _ => stk
def oDIn : List T → R T
  | [y, d] => dctAt d y fun o => .ok (.bl o.isSome)
  | _ => stk
def oDNin : List T → R T
  | [y, d] => dctAt d y fun o => .ok (.bl (!o.isSome))
  | _ => stk
def oDIx : List T → R T
  | [d, y] => dctAt d y fun o => match o with
    | some t => .ok t
    | none => stk
  | _ => stk
def oDGet : List T → R T
  | [d, y, z] => dctAt d y fun o => .ok (o.getD z)
  | _ => stk
theorem dctAt_ok {d y t : T} {k : Option T → R T} (e : dctAt d y k = .ok t) : ∃ o ks j, d = .dct o ks ∧ keyT y = some j ∧ k (getT ks j) = .ok t := by
  unfold dctAt at e
  split at e
  · exact ⟨_, _, _, rfl, by assumption, e⟩
  · cases e
theorem s_din : CallS K ca (fun vs H Q => ∃ y x, vs = [y, x] ∧ ∃ a o, x = .ref a ∧ DGet H a y o ∧ Q (.bl o.isSome) H) oDIn := by
  intro F H ts vs f t Q s r nd e q
  unfold oDIn at e
  split at e
  · rename_i y d
    obtain ⟨o, ks, j, rfl, hj, e⟩ := dctAt_ok e
    cases e
    obtain ⟨x', y', g1, g2, rfl, r1, r2, rfl⟩ := reps2 r
    obtain ⟨rfl, rfl⟩ := keyT_ok hj r1
    obtain ⟨a, us, g, rfl, h2, h3, h4, h5⟩ := r2.dct s (nd_app nd).2
    obtain ⟨i1, i2⟩ := h3.get (k := j) h4
    cases w : getT ks j with
    | some t =>
      obtain ⟨v, _, hv, _⟩ := i1 t w
      exact ⟨_, _, rfl, a, some v, rfl, .inl ⟨us, j, h2, rfl, hv.symm⟩, by rw [w] at q; exact give s (fun _ _ => rep_bl) q⟩
    | none => exact ⟨_, _, rfl, a, none, rfl, .inl ⟨us, j, h2, rfl, (i2 w).symm⟩, by rw [w] at q; exact give s (fun _ _ => rep_bl) q⟩
  · cases e
theorem s_dnin : CallS K ca (fun vs H Q => ∃ y x, vs = [y, x] ∧ ∃ a o, x = .ref a ∧ DGet H a y o ∧ Q (.bl (!o.isSome)) H) oDNin := by
  intro F H ts vs f t Q s r nd e q
  unfold oDNin at e
  split at e
  · rename_i y d
    obtain ⟨o, ks, j, rfl, hj, e⟩ := dctAt_ok e
    cases e
    obtain ⟨x', y', g1, g2, rfl, r1, r2, rfl⟩ := reps2 r
    obtain ⟨rfl, rfl⟩ := keyT_ok hj r1
    obtain ⟨a, us, g, rfl, h2, h3, h4, h5⟩ := r2.dct s (nd_app nd).2
    obtain ⟨i1, i2⟩ := h3.get (k := j) h4
    cases w : getT ks j with
    | some t =>
      obtain ⟨v, _, hv, _⟩ := i1 t w
      exact ⟨_, _, rfl, a, some v, rfl, .inl ⟨us, j, h2, rfl, hv.symm⟩, by rw [w] at q; exact give s (fun _ _ => rep_bl) q⟩
    | none => exact ⟨_, _, rfl, a, none, rfl, .inl ⟨us, j, h2, rfl, (i2 w).symm⟩, by rw [w] at q; exact give s (fun _ _ => rep_bl) q⟩
  · cases e
theorem s_dix : CallS K ca (fun vs H Q => ∃ x y, vs = [x, y] ∧ ∃ a v, x = .ref a ∧ DGet H a y (some v) ∧ Q v H) oDIx := by
  intro F H ts vs f t Q s r nd e q
  unfold oDIx at e
  split at e
  · rename_i d y
    obtain ⟨o, ks, j, rfl, hj, e⟩ := dctAt_ok e
    obtain ⟨x', y', g1, g2, rfl, r1, r2, rfl⟩ := reps2 r
    obtain ⟨rfl, rfl⟩ := keyT_ok hj r2
    obtain ⟨a, us, g, rfl, h2, h3, h4, h5⟩ := r1.dct s (nd_app nd).1
    obtain ⟨i1, i2⟩ := h3.get (k := j) h4
    cases w : getT ks j with
    | some t =>
      rw [w] at e
      cases e
      obtain ⟨v, g', hv, hr, hn, hg⟩ := i1 _ w
      exact ⟨_, _, rfl, a, v, rfl, .inl ⟨us, j, h2, rfl, hv.symm⟩, keep s hr hn (fun a ha => List.mem_append_left _ (h5 a (hg a ha))) q⟩
    | none => rw [w] at e; cases e
  · cases e
theorem s_dget : CallS K ca (fun vs H Q => ∃ x y z, vs = [x, y, z] ∧ ∃ a, x = .ref a ∧ IsD H a ∧ ∃ o, DGet H a y o ∧ Q (o.getD z) H) oDGet := by
  intro F H ts vs f t Q s r nd e q
  unfold oDGet at e
  split at e
  · rename_i d y z
    obtain ⟨o, ks, j, rfl, hj, e⟩ := dctAt_ok e
    cases e
    obtain ⟨x', y', z', g1, g2, g3, rfl, r1, r2, r3, rfl⟩ := reps3 r
    obtain ⟨rfl, rfl⟩ := keyT_ok hj r2
    obtain ⟨a, us, g, rfl, h2, h3, h4, h5⟩ := r1.dct s (nd_app nd).1
    obtain ⟨i1, i2⟩ := h3.get (k := j) h4
    refine ⟨_, _, _, rfl, a, rfl, .inl ⟨us, h2⟩, ?_⟩
    cases w : getT ks j with
    | some t =>
      rw [w] at q
      obtain ⟨v, g', hv, hr, hn, hg⟩ := i1 _ w
      exact ⟨some v, .inl ⟨us, j, h2, rfl, hv.symm⟩, keep s hr hn (fun a ha => List.mem_append_left _ (h5 a (hg a ha))) q⟩
    | none =>
      rw [w] at q
      exact ⟨none, .inl ⟨us, j, h2, rfl, (i2 w).symm⟩, keep s r3 (nd_app (nd_app nd).2).2 (fun a ha => List.mem_append_right _ (List.mem_append_right _ ha)) q⟩
  · cases e
/-- dict(pairs) -/
def pairsT : List T → Option (List (Key × T))
  | [] => some []
  | .tup [k, x] :: ts => match keyT k, pairsT ts with
    | some j, some r => if x.ow then none else some ((j, x) :: r)
    | _, _ => none
  | _ => none
theorem pairs_ok (s : Sub F H) : ∀ {ts : List T} {us : List V} {f : List Addr} {ks : List (Key × T)}, Reps K ca F H ts us f → pairsT ts = some ks →
    ∃ (ps : List Addr) (ws : List (Key × V)), us = ps.map V.ref ∧ Paired (fun p kv => SqT K H p [kV kv.1, kv.2]) ps ws ∧ Repk K ca F H ks ws []
  | [], _, _, _, h, e => by
    cases e
    simp only [Reps] at h
    exact ⟨[], [], h.1, .nil, by simp only [Repk]; trivial⟩
  | t :: ts, _, _, ks, h, e => by
    unfold pairsT at e
    split at e
    · rename_i e0; cases e0
    · rename_i k x ts' e0
      cases e0
      split at e
      · rename_i j r hj hr
        split at e
        · cases e
        · rename_i how
          have how : x.ow = false := by simpa using how
          cases e
          simp only [Reps] at h
          obtain ⟨v, us, f, g, rfl, r1, r2, rfl⟩ := h
          simp only [Rep] at r1
          obtain ⟨a, vs, rfl, hq, r1⟩ := r1
          obtain ⟨y, z, g1, g2, rfl, q1, q2, rfl⟩ := reps2 r1
          obtain ⟨rfl, rfl⟩ := keyT_ok hj q1
          have := Rep.pure_fp x how q2
          subst this
          obtain ⟨ps, ws, rfl, i2, i3⟩ := pairs_ok s r2 hr
          refine ⟨a :: ps, (j, z) :: ws, rfl, .cons (s.sqT hq) i2, ?_⟩
          simp only [Repk]
          exact ⟨z, ws, [], [], rfl, q2, i3, rfl⟩
      · cases e
    · cases e
def oDict : List T → R T
  | [.lst _ xs] => match pairsT xs with
    | some ks => .ok (.dct true (mergeT [] ks))
    | none => stk
  | _ => stk
theorem newDct {Q : VK} {f : List Addr} {ks : List (Key × T)} {us : List (Key × V)} {p : Addr} (s : Sub F H) (hp : H p = none) (r : Repk K ca F H ks us []) (q : ∀ v H' F' k, Go F H (· ∈ f) F' H' (· ∈ k) → Rep K ca F' H' (.dct true ks) v k → k.Nodup → Q v H') :
    Q (.ref p) (upd H p (.dK us)) := by
  have g : Go F H (· ∈ f) F (upd H p (.dK us)) (· ∈ [p]) := Go.newO s hp fun b z => .inr (by rw [List.mem_singleton.mp z]; exact hp)
  refine q _ _ F [p] g ?_ (by simp)
  simp only [Rep]
  exact ⟨p, us, [], rfl, upd_same, none_of_sub s hp, Repk.go (Sub.refl F) ks r (fun _ z => absurd z (by simp)) (fun _ z => absurd z (by simp)), rfl⟩
theorem s_dict : CallS K ca (fun xs H Q => ∃ (a : Addr) (ps : List Addr) (kvs : List (Key × V)), xs = [.ref a] ∧ SqL K H a (ps.map V.ref) ∧ Paired (fun p kv => SqT K H p [kV kv.1, kv.2]) ps kvs ∧ ∀ p, H p = none → Q (.ref p) (upd H p (.dK (mergeK [] kvs)))) oDict := by
  intro F H ts vs f t Q s r nd e q
  unfold oDict at e
  split at e
  · split at e
    · rename_i o xs ks hk
      cases e
      obtain ⟨x', rfl, r1⟩ := reps1 r
      obtain ⟨a, us, g, rfl, h1, h2, h3, h4, _⟩ := r1.lst s nd
      obtain ⟨ps, ws, rfl, i2, i3⟩ := pairs_ok s h2 hk
      refine ⟨a, ps, ws, rfl, SqL.of h1, i2, fun p hp => newDct s hp (Repk.merge0 i3 (ks := []) (us := []) (by simp only [Repk]; trivial)) q⟩
    · cases e
  · cases e
def eDnew : EM := fun env => .ok (.dct true [], env)
theorem te_dnew {Q : VK} (h : TEof K ca md eDnew σ H Q) : tDNewK σ H Q := by
  obtain ⟨F, env, fp, t, env', s, e, k⟩ := h
  cases e
  intro p hp
  have g : Go F H (fun _ => False) F (upd H p (.dK [])) (· = p) := Go.newO s.sub hp fun b z => .inr (by rw [z]; exact hp)
  have g0 : Go F H (OwM md fp) F H (OwM md fp) := Go.refl s.sub fun _ z => z
  refine k (.ref p) _ F fp [p] (g0.trans g (fun _ z => z.elim) fun a z => ?_) Keep.refl (s.of_go g fun _ _ z => z) ⟨?_, by simp, fun a ha z => ?_⟩
  · rcases z with z | z
    · exact .inr z
    · exact .inl (List.mem_singleton.mp z)
  · simp only [Rep]
    exact ⟨p, [], [], rfl, upd_same, none_of_sub s.sub hp, by simp only [Repk]; trivial, rfl⟩
  · rw [List.mem_singleton.mp ha] at z
    exact (s.alive p z).1 hp
def oSorted : List T → R T
  | [.lst _ xs] => match intsOf xs with
    | some ns => .ok (.lst true ((ns.mergeSort (fun a b => decide (a ≤ b))).map T.int))
    | none => stk
  | _ => stk
theorem sorted_one {ns ns' : List Int} (h : ns'.Perm ns) (h2 : ns'.Pairwise (· ≤ ·)) : ns' = ns.mergeSort (fun a b => decide (a ≤ b)) := by
  have h3 : (ns.mergeSort (fun a b => decide (a ≤ b))).Pairwise (fun a b => decide (a ≤ b) = true) := List.pairwise_mergeSort (fun a b c => by simp; omega) (fun a b => by simp; omega) ns
  have h3 : (ns.mergeSort (fun a b => decide (a ≤ b))).Pairwise (fun a b : Int => a ≤ b) := h3.imp (by simp)
  exact List.Perm.eq_of_pairwise (le := fun a b : Int => a ≤ b) (fun a b _ _ h1 h2 => by omega) h2 h3 (h.trans (List.mergeSort_perm ns _).symm)
theorem reps_ints : ∀ ns : List Int, Reps K ca F H (ns.map T.int) (ns.map V.int) []
  | [] => by simp only [List.map_nil, Reps]; trivial
  | n :: ns => by
    simp only [List.map_cons, Reps]
    exact ⟨_, _, [], [], rfl, rep_int, reps_ints ns, rfl⟩
theorem s_sorted : CallS K ca (rSortedI K) oSorted := by
  intro F H ts vs f t Q s r nd e q
  unfold oSorted at e
  split at e
  · split at e
    · rename_i o xs ns hn
      cases e
      obtain ⟨x', rfl, r1⟩ := reps1 r
      obtain ⟨a, us, g, rfl, h1, h2, h3, h4, _⟩ := r1.lst s nd
      have := intsOf_ok h2 hn
      subst this
      refine ⟨a, ns, rfl, SqL.of h1, fun ns' p hp hs hnew => ?_⟩
      have := sorted_one hp hs
      subst this
      exact newLst s hnew (reps_ints _) List.nodup_nil (fun _ z => absurd z (by simp)) q
    · cases e
  · cases e
end
end QL
namespace QL
open PySem L2 RZ

inductive Stp where
  | ix (k : Int)
  | fd (c x : Str)
def setF : List (Str × T) → Str → T → List (Str × T)
  | [], _, _ => []
  | (k, t) :: r, x, y => if x == k then (k, y) :: r else (k, t) :: setF r x y
def T.foc : List Stp → T → Option T
  | [], t => some t
  | .ix k :: p, t => match t with
    | .lst _ xs => (atI xs k).bind (T.foc p)
    | .tup xs => (atI xs k).bind (T.foc p)
    | _ => none
  | .fd c x :: p, t => match t with
    | .obj d fs => if c = d then (fs.lookup x).bind (T.foc p) else none
    | _ => none
/-- the place filled anew -/
def T.upf : List Stp → T → T → Option T
  | [], _, u => some u
  | .ix k :: p, t, u => match t with
    | .lst true xs => (ixN xs.length k).bind fun n => (xs[n]?).bind fun y => (T.upf p y u).map fun z => .lst true (xs.set n z)
    | .tup xs => (ixN xs.length k).bind fun n => (xs[n]?).bind fun y => (T.upf p y u).map fun z => .tup (xs.set n z)
    | _ => none
  | .fd c x :: p, t, u => match t with
    | .obj d fs => (fs.lookup x).bind fun y => (T.upf p y u).map fun z => .obj d (setF fs x z)
    | _ => none
def Via (K : PySem.W.Frag) (ca : Ca) (H : Hp) : List Stp → V → V → Prop
  | [], v, w => v = w
  | .ix k :: p, v, w => ∃ a us y, v = .ref a ∧ (SqL K H a us ∨ SqT K H a us) ∧ atI us k = some y ∧ Via K ca H p y w
  | .fd c x :: p, v, w => ∃ a dx gs y, v = .ref a ∧ H a = some (.ins (ca.cl c) dx gs) ∧ gs.lookup x = some y ∧ Via K ca H p y w
section
variable {K : PySem.W.Frag} {ca : Ca} {F F' F1 H H' H1 : Hp} {O O' : Addr → Prop} {σ : L2.St} {env : En} {fp : Fp} {t : T} {v : V} {fv : List Addr} {ts : List T} {vs : List V} {md : List Nat}
theorem Reps.foc : ∀ {xs : List T} {vs : List V} {g : List Addr} {n : Nat} {y : T}, Reps K ca F H xs vs g → g.Nodup → xs[n]? = some y →
    ∃ (z : V) (fy gr : List Addr), vs[n]? = some z ∧ Rep K ca F H y z fy ∧ (∀ a, a ∈ g ↔ a ∈ gr ∨ a ∈ fy) ∧ fy.Nodup ∧ gr.Nodup ∧ (∀ a ∈ fy, a ∉ gr) ∧
      ∀ F' H' y' fy', Sub F F' → (∀ a ∈ gr, H' a = H a ∧ F' a = none) → Rep K ca F' H' y' z fy' → fy'.Nodup → (∀ a ∈ fy', a ∉ gr) → ∃ g', Reps K ca F' H' (xs.set n y') vs g' ∧ g'.Nodup ∧ ∀ a, a ∈ g' ↔ a ∈ gr ∨ a ∈ fy'
  | [], _, _, n, y, _, _, e => by simp at e
  | x :: xs, _, _, 0, y, h, nd, e => by
    simp only [Reps] at h
    obtain ⟨v, us, f, g, rfl, r1, r2, rfl⟩ := h
    have hn := List.nodup_append.mp nd
    simp only [List.getElem?_cons_zero, Option.some.injEq] at e
    subst e
    refine ⟨v, f, g, rfl, r1, fun a => by rw [List.mem_append, or_comm], hn.1, hn.2.1, fun a ha hb => hn.2.2 a ha a hb rfl, fun F' H' y' fy' s hfr r' nd' dj => ?_⟩
    refine ⟨fy' ++ g, ?_, List.nodup_append.mpr ⟨nd', hn.2.1, fun a ha b hb e => by subst e; exact dj a ha hb⟩, fun a => by rw [List.mem_append, or_comm]⟩
    simp only [List.set_cons_zero, Reps]
    exact ⟨v, us, fy', g, rfl, r', Reps.go s xs r2 (fun a ha => (hfr a ha).1) (fun a ha => (hfr a ha).2), rfl⟩
  | x :: xs, _, _, n + 1, y, h, nd, e => by
    simp only [Reps] at h
    obtain ⟨v, us, f, g, rfl, r1, r2, rfl⟩ := h
    have hn := List.nodup_append.mp nd
    simp only [List.getElem?_cons_succ] at e
    obtain ⟨z, fy, gr, h1, h2, h3, h4, h5, h6, h7⟩ := Reps.foc r2 hn.2.1 e
    refine ⟨z, fy, f ++ gr, by simpa using h1, h2, fun a => by rw [List.mem_append, List.mem_append, h3, or_assoc], h4, List.nodup_append.mpr ⟨hn.1, h5, fun a ha b hb e => hn.2.2 a ha b ((h3 b).mpr (.inl hb)) e⟩, fun a ha hb => ?_, fun F' H' y' fy' s hfr r' nd' dj => ?_⟩
    · rcases List.mem_append.mp hb with hb | hb
      · exact hn.2.2 a hb a ((h3 a).mpr (.inr ha)) rfl
      · exact h6 a ha hb
    · obtain ⟨g', i1, i2, i3⟩ := h7 F' H' y' fy' s (fun a ha => hfr a (List.mem_append_right _ ha)) r' nd' fun a ha hb => dj a ha (List.mem_append_right _ hb)
      refine ⟨f ++ g', ?_, List.nodup_append.mpr ⟨hn.1, i2, fun a ha b hb e => ?_⟩, fun a => by rw [List.mem_append, List.mem_append, i3, or_assoc]⟩
      · simp only [List.set_cons_succ, Reps]
        exact ⟨v, us, f, g', rfl, Rep.go s x r1 (fun a ha => (hfr a (List.mem_append_left _ ha)).1) (fun a ha => (hfr a (List.mem_append_left _ ha)).2), i1, rfl⟩
      · subst e
        rcases (i3 a).mp hb with q | q
        · exact hn.2.2 a ha a ((h3 a).mpr (.inl q)) rfl
        · exact dj a q (List.mem_append_left _ ha)
theorem Repf.foc {x : Str} : ∀ {fs : List (Str × T)} {gs : List (Str × V)} {g : List Addr} {y : T}, Repf K ca F H fs gs g → g.Nodup → fs.lookup x = some y →
    ∃ (z : V) (fy gr : List Addr), gs.lookup x = some z ∧ Rep K ca F H y z fy ∧ (∀ a, a ∈ g ↔ a ∈ gr ∨ a ∈ fy) ∧ fy.Nodup ∧ gr.Nodup ∧ (∀ a ∈ fy, a ∉ gr) ∧
      ∀ F' H' y' fy', Sub F F' → (∀ a ∈ gr, H' a = H a ∧ F' a = none) → Rep K ca F' H' y' z fy' → fy'.Nodup → (∀ a ∈ fy', a ∉ gr) → ∃ g', Repf K ca F' H' (setF fs x y') gs g' ∧ g'.Nodup ∧ ∀ a, a ∈ g' ↔ a ∈ gr ∨ a ∈ fy'
  | [], _, _, y, _, _, e => by simp at e
  | (k, t) :: fs, _, _, y, h, nd, e => by
    simp only [Repf] at h
    obtain ⟨v, us, f, g, rfl, r1, r2, rfl⟩ := h
    have hn := List.nodup_append.mp nd
    simp only [List.lookup_cons] at e ⊢
    cases hk : x == k with
    | true =>
      rw [hk] at e
      cases e
      refine ⟨v, f, g, rfl, r1, fun a => by rw [List.mem_append, or_comm], hn.1, hn.2.1, fun a ha hb => hn.2.2 a ha a hb rfl, fun F' H' y' fy' s hfr r' nd' dj => ?_⟩
      refine ⟨fy' ++ g, ?_, List.nodup_append.mpr ⟨nd', hn.2.1, fun a ha b hb e => by subst e; exact dj a ha hb⟩, fun a => by rw [List.mem_append, or_comm]⟩
      simp only [setF, hk, if_true, Repf]
      exact ⟨v, us, fy', g, rfl, r', Repf.go s fs r2 (fun a ha => (hfr a ha).1) (fun a ha => (hfr a ha).2), rfl⟩
    | false =>
      rw [hk] at e
      obtain ⟨z, fy, gr, h1, h2, h3, h4, h5, h6, h7⟩ := Repf.foc r2 hn.2.1 e
      refine ⟨z, fy, f ++ gr, h1, h2, fun a => by rw [List.mem_append, List.mem_append, h3, or_assoc], h4, List.nodup_append.mpr ⟨hn.1, h5, fun a ha b hb e => hn.2.2 a ha b ((h3 b).mpr (.inl hb)) e⟩, fun a ha hb => ?_, fun F' H' y' fy' s hfr r' nd' dj => ?_⟩
      · rcases List.mem_append.mp hb with hb | hb
        · exact hn.2.2 a hb a ((h3 a).mpr (.inr ha)) rfl
        · exact h6 a ha hb
      · obtain ⟨g', i1, i2, i3⟩ := h7 F' H' y' fy' s (fun a ha => hfr a (List.mem_append_right _ ha)) r' nd' fun a ha hb => dj a ha (List.mem_append_right _ hb)
        refine ⟨f ++ g', ?_, List.nodup_append.mpr ⟨hn.1, i2, fun a ha b hb e => ?_⟩, fun a => by rw [List.mem_append, List.mem_append, i3, or_assoc]⟩
        · simp only [setF, hk, Repf]
          exact ⟨v, us, f, g', rfl, Rep.go s t r1 (fun a ha => (hfr a (List.mem_append_left _ ha)).1) (fun a ha => (hfr a (List.mem_append_left _ ha)).2), i1, rfl⟩
        · subst e
          rcases (i3 a).mp hb with q | q
          · exact hn.2.2 a ha a ((h3 a).mpr (.inl q)) rfl
          · exact dj a q (List.mem_append_left _ ha)
/-- a place, its value, what is around -/
structure Foc (K : PySem.W.Frag) (ca : Ca) (F H : Hp) (p : List Stp) (t u : T) (v w : V) (f fu fr : List Addr) : Prop where
  via : ∀ F1 H1, Sub F F1 → Sub F1 H1 → (∀ a ∈ fr, H1 a = H a) → Via K ca H1 p v w
  rep : Rep K ca F H u w fu
  mem : ∀ a, a ∈ f ↔ a ∈ fr ∨ a ∈ fu
  ndu : fu.Nodup
  dis : ∀ a ∈ fu, a ∉ fr
  ndr : fr.Nodup
  upd : ∀ F' H' u' fu' t', Sub F F' → (∀ a ∈ fr, H' a = H a ∧ F' a = none) → Rep K ca F' H' u' w fu' → fu'.Nodup → (∀ a ∈ fu', a ∉ fr) → T.upf p t u' = some t' → ∃ f', Rep K ca F' H' t' v f' ∧ f'.Nodup ∧ ∀ a, a ∈ f' ↔ a ∈ fr ∨ a ∈ fu'
theorem atI_get {α : Type} {xs : List α} {k : Int} {y : α} (h : atI xs k = some y) : ∃ n, ixN xs.length k = some n ∧ xs[n]? = some y := atI_some h
theorem atI_of {α : Type} {xs : List α} {k : Int} {n : Nat} {y : α} (h : ixN xs.length k = some n) (h2 : xs[n]? = some y) : atI xs k = some y := by
  unfold atI; rw [h]; exact h2
theorem Rep.foc : ∀ (p : List Stp) (t u : T) {v : V} {f : List Addr}, Rep K ca F H t v f → f.Nodup → T.foc p t = some u → ∃ w fu fr, Foc K ca F H p t u v w f fu fr
  | [], t, u, v, f, r, nd, e => by
    cases e
    exact ⟨v, f, [], ⟨fun _ _ _ _ _ => rfl, r, fun a => by simp, nd, fun _ _ => by simp, List.nodup_nil, fun F' H' u' fu' t' _ _ r' nd' _ e => by cases e; exact ⟨fu', r', nd', fun a => by simp⟩⟩⟩
  | .ix k :: p, t, u, v, f, r, nd, e => by
    cases t with
    | lst o xs =>
      have e : (atI xs k).bind (T.foc p) = some u := e
      obtain ⟨y, e1, e2⟩ := Option.bind_eq_some_iff.mp e
      obtain ⟨n, hn1, hn2⟩ := atI_get e1
      cases o with
      | true =>
        simp only [Rep] at r
        obtain ⟨a, us, g, rfl, h1, h2, h3, rfl⟩ := r
        have hna := List.nodup_cons.mp nd
        obtain ⟨z, fy, gr, q1, q2, q3, q4, q5, q6, q7⟩ := h3.foc hna.2 hn2
        obtain ⟨w, fu, fr, c⟩ := Rep.foc p y u q2 q4 e2
        refine ⟨w, fu, a :: (gr ++ fr), ⟨fun F1 H1 s1 s2 hh => ?_, c.rep, fun b => ?_, c.ndu, fun b hb hc => ?_, ?_, fun F' H' u' fu' t' s' hfr r' nd' dj e' => ?_⟩⟩
        · refine ⟨a, us, z, rfl, .inl (SqL.of (by rw [hh a List.mem_cons_self]; exact h1)), atI_of (by rw [Reps.length h3]; exact hn1) q1, c.via F1 H1 s1 s2 fun b hb => hh b (List.mem_cons_of_mem _ (List.mem_append_right _ hb))⟩
        · simp only [List.mem_cons, List.mem_append, q3, c.mem, or_assoc]
        · rcases List.mem_cons.mp hc with rfl | hc
          · exact hna.1 ((q3 _).mpr (.inr ((c.mem _).mpr (.inr hb))))
          · rcases List.mem_append.mp hc with hc | hc
            · exact q6 b ((c.mem b).mpr (.inr hb)) hc
            · exact c.dis b hb hc
        · refine List.nodup_cons.mpr ⟨fun hc => ?_, List.nodup_append.mpr ⟨q5, c.ndr, fun b hb d hd e => by subst e; exact q6 b ((c.mem b).mpr (.inl hd)) hb⟩⟩
          rcases List.mem_append.mp hc with hc | hc
          · exact hna.1 ((q3 _).mpr (.inl hc))
          · exact hna.1 ((q3 _).mpr (.inr ((c.mem _).mpr (.inl hc))))
        · simp only [T.upf, hn1, hn2, Option.bind_some] at e'
          obtain ⟨y', e3, e4⟩ := Option.map_eq_some_iff.mp e'
          subst e4
          obtain ⟨fy', i1, i2, i3⟩ := c.upd F' H' u' fu' y' s' (fun b hb => hfr b (List.mem_cons_of_mem _ (List.mem_append_right _ hb))) r' nd' (fun b hb hc => dj b hb (List.mem_cons_of_mem _ (List.mem_append_right _ hc))) e3
          have dj2 : ∀ b ∈ fy', b ∉ gr := fun b hb hc => by
            rcases (i3 b).mp hb with q | q
            · exact q6 b ((c.mem b).mpr (.inl q)) hc
            · exact dj b q (List.mem_cons_of_mem _ (List.mem_append_left _ hc))
          obtain ⟨g', j1, j2, j3⟩ := q7 F' H' y' fy' s' (fun b hb => hfr b (List.mem_cons_of_mem _ (List.mem_append_left _ hb))) i1 i2 dj2
          have ha := hfr a List.mem_cons_self
          refine ⟨a :: g', ?_, List.nodup_cons.mpr ⟨fun hc => ?_, j2⟩, fun b => ?_⟩
          · simp only [Rep]
            exact ⟨a, us, g', rfl, by rw [ha.1]; exact h1, ha.2, j1, rfl⟩
          · rcases (j3 a).mp hc with q | q
            · exact hna.1 ((q3 _).mpr (.inl q))
            · rcases (i3 a).mp q with q | q
              · exact hna.1 ((q3 _).mpr (.inr ((c.mem _).mpr (.inl q))))
              · exact dj a q List.mem_cons_self
          · simp only [List.mem_cons, List.mem_append, j3, i3, or_assoc]
      | false =>
        simp only [Rep] at r
        obtain ⟨a, us, rfl, h1, h3, rfl⟩ := r
        obtain ⟨z, fy, gr, q1, q2, q3, q4, q5, q6, q7⟩ := h3.foc List.nodup_nil hn2
        have hgr : gr = [] := List.eq_nil_iff_forall_not_mem.mpr fun b hb => absurd ((q3 b).mpr (.inl hb)) (by simp)
        have hfy : fy = [] := List.eq_nil_iff_forall_not_mem.mpr fun b hb => absurd ((q3 b).mpr (.inr hb)) (by simp)
        subst hgr hfy
        obtain ⟨w, fu, fr, c⟩ := Rep.foc p y u q2 q4 e2
        refine ⟨w, fu, fr, ⟨fun F1 H1 s1 s2 hh => ⟨a, us, z, rfl, .inl (SqL.of (s2 _ _ (s1 _ _ h1))), atI_of (by rw [Reps.length h3]; exact hn1) q1, c.via F1 H1 s1 s2 hh⟩, c.rep, c.mem, c.ndu, c.dis, c.ndr, fun F' H' u' fu' t' s' hfr r' nd' dj e' => by simp [T.upf] at e'⟩⟩
    | tup xs =>
      have e : (atI xs k).bind (T.foc p) = some u := e
      obtain ⟨y, e1, e2⟩ := Option.bind_eq_some_iff.mp e
      obtain ⟨n, hn1, hn2⟩ := atI_get e1
      simp only [Rep] at r
      obtain ⟨a, us, rfl, h1, h3⟩ := r
      obtain ⟨z, fy, gr, q1, q2, q3, q4, q5, q6, q7⟩ := h3.foc nd hn2
      obtain ⟨w, fu, fr, c⟩ := Rep.foc p y u q2 q4 e2
      refine ⟨w, fu, gr ++ fr, ⟨fun F1 H1 s1 s2 hh => ?_, c.rep, fun b => ?_, c.ndu, fun b hb hc => ?_, ?_, fun F' H' u' fu' t' s' hfr r' nd' dj e' => ?_⟩⟩
      · refine ⟨a, us, z, rfl, .inr (s2.sqT (s1.sqT h1)), atI_of (by rw [Reps.length h3]; exact hn1) q1, c.via F1 H1 s1 s2 fun b hb => hh b (List.mem_append_right _ hb)⟩
      · rw [List.mem_append, q3, c.mem, or_assoc]
      · rcases List.mem_append.mp hc with hc | hc
        · exact q6 b ((c.mem b).mpr (.inr hb)) hc
        · exact c.dis b hb hc
      · exact List.nodup_append.mpr ⟨q5, c.ndr, fun b hb d hd e => by subst e; exact q6 b ((c.mem b).mpr (.inl hd)) hb⟩
      · simp only [T.upf, hn1, hn2, Option.bind_some] at e'
        obtain ⟨y', e3, e4⟩ := Option.map_eq_some_iff.mp e'
        subst e4
        obtain ⟨fy', i1, i2, i3⟩ := c.upd F' H' u' fu' y' s' (fun b hb => hfr b (List.mem_append_right _ hb)) r' nd' (fun b hb hc => dj b hb (List.mem_append_right _ hc)) e3
        have dj2 : ∀ b ∈ fy', b ∉ gr := fun b hb hc => by
          rcases (i3 b).mp hb with q | q
          · exact q6 b ((c.mem b).mpr (.inl q)) hc
          · exact dj b q (List.mem_append_left _ hc)
        obtain ⟨g', j1, j2, j3⟩ := q7 F' H' y' fy' s' (fun b hb => hfr b (List.mem_append_left _ hb)) i1 i2 dj2
        refine ⟨g', ?_, j2, fun b => ?_⟩
        · simp only [Rep]
          exact ⟨a, us, rfl, s'.sqT h1, j1⟩
        · rw [List.mem_append, j3, i3, or_assoc]
    | _ => cases e
  | .fd c x :: p, t, u, v, f, r, nd, e => by
    cases t with
    | obj d fs =>
      by_cases hcd : c = d
      case neg => exact absurd (show (if c = d then (fs.lookup x).bind (T.foc p) else none) = some u from e) (by rw [if_neg hcd]; simp)
      subst hcd
      have e : (fs.lookup x).bind (T.foc p) = some u := by
        have e : (if c = c then (fs.lookup x).bind (T.foc p) else none) = some u := e
        rw [if_pos rfl] at e
        exact e
      obtain ⟨y, e1, e2⟩ := Option.bind_eq_some_iff.mp e
      simp only [Rep] at r
      obtain ⟨a, dx, us, g, rfl, h1, h2, h3, rfl⟩ := r
      have hna := List.nodup_cons.mp nd
      obtain ⟨z, fy, gr, q1, q2, q3, q4, q5, q6, q7⟩ := h3.foc hna.2 e1
      obtain ⟨w, fu, fr, c'⟩ := Rep.foc p y u q2 q4 e2
      refine ⟨w, fu, a :: (gr ++ fr), ⟨fun F1 H1 s1 s2 hh => ?_, c'.rep, fun b => ?_, c'.ndu, fun b hb hc => ?_, ?_, fun F' H' u' fu' t' s' hfr r' nd' dj e' => ?_⟩⟩
      · exact ⟨a, dx, us, z, rfl, by rw [hh a List.mem_cons_self]; exact h1, q1, c'.via F1 H1 s1 s2 fun b hb => hh b (List.mem_cons_of_mem _ (List.mem_append_right _ hb))⟩
      · simp only [List.mem_cons, List.mem_append, q3, c'.mem, or_assoc]
      · rcases List.mem_cons.mp hc with rfl | hc
        · exact hna.1 ((q3 _).mpr (.inr ((c'.mem _).mpr (.inr hb))))
        · rcases List.mem_append.mp hc with hc | hc
          · exact q6 b ((c'.mem b).mpr (.inr hb)) hc
          · exact c'.dis b hb hc
      · refine List.nodup_cons.mpr ⟨fun hc => ?_, List.nodup_append.mpr ⟨q5, c'.ndr, fun b hb d hd e => by subst e; exact q6 b ((c'.mem b).mpr (.inl hd)) hb⟩⟩
        rcases List.mem_append.mp hc with hc | hc
        · exact hna.1 ((q3 _).mpr (.inl hc))
        · exact hna.1 ((q3 _).mpr (.inr ((c'.mem _).mpr (.inl hc))))
      · simp only [T.upf, e1, Option.bind_some] at e'
        obtain ⟨y', e3, e4⟩ := Option.map_eq_some_iff.mp e'
        subst e4
        obtain ⟨fy', i1, i2, i3⟩ := c'.upd F' H' u' fu' y' s' (fun b hb => hfr b (List.mem_cons_of_mem _ (List.mem_append_right _ hb))) r' nd' (fun b hb hc => dj b hb (List.mem_cons_of_mem _ (List.mem_append_right _ hc))) e3
        have dj2 : ∀ b ∈ fy', b ∉ gr := fun b hb hc => by
          rcases (i3 b).mp hb with q | q
          · exact q6 b ((c'.mem b).mpr (.inl q)) hc
          · exact dj b q (List.mem_cons_of_mem _ (List.mem_append_left _ hc))
        obtain ⟨g', j1, j2, j3⟩ := q7 F' H' y' fy' s' (fun b hb => hfr b (List.mem_cons_of_mem _ (List.mem_append_left _ hb))) i1 i2 dj2
        have ha := hfr a List.mem_cons_self
        refine ⟨a :: g', ?_, List.nodup_cons.mpr ⟨fun hc => ?_, j2⟩, fun b => ?_⟩
        · simp only [Rep]
          exact ⟨a, dx, us, g', rfl, by rw [ha.1]; exact h1, ha.2, j1, rfl⟩
        · rcases (j3 a).mp hc with q | q
          · exact hna.1 ((q3 _).mpr (.inl q))
          · rcases (i3 a).mp q with q | q
            · exact hna.1 ((q3 _).mpr (.inr ((c'.mem _).mpr (.inl q))))
            · exact dj a q List.mem_cons_self
        · simp only [List.mem_cons, List.mem_append, j3, i3, or_assoc]
    | _ => cases e
def tP (K : PySem.W.Frag) (ca : Ca) (i : Nat) (p : List Stp) : TE := fun σ H Q => ∃ v w, σ[i]? = some (some v) ∧ Via K ca H p v w ∧ Q w H
/-- what stands at a place within a slot's value, as an operand -/
def bP (i : Nat) (p : List Stp) : BM := fun env => match (T.at env i).bind (T.foc p) with
  | some u => .ok (.br u i, env)
  | none => stk
theorem at_slot {i : Nat} {u : T} {p : List Stp} (h : (T.at env i).bind (T.foc p) = some u) : ∃ t, env[i]? = some (some t) ∧ T.foc p t = some u := by
  obtain ⟨t, e1, e2⟩ := Option.bind_eq_some_iff.mp h
  exact ⟨t, T.at_some e1, e2⟩
theorem tb_p {i : Nat} {p : List Stp} {Q : VK} (hi : i ∉ md) (h : TBof K ca md (bP i p) σ H Q) : tP K ca i p σ H Q := by
  obtain ⟨F, env, fp, b, env', s, e, k⟩ := h
  unfold bP at e
  split at e
  case h_2 => cases e
  case h_1 u hu =>
    cases e
    obtain ⟨t, et, ef⟩ := at_slot hu
    obtain ⟨v, e1, r⟩ := s.slot i t et
    obtain ⟨w, fu, fr, c⟩ := Rep.foc p t u r (s.nd i) ef
    refine ⟨v, w, e1, c.via F H (Sub.refl F) s.sub (fun _ _ => rfl), k w H F fp [] (Go.refl s.sub fun b z => z.elim id (fun z => nomatch z)) Keep.refl s ?_ List.nodup_nil (fun _ z => nomatch z)⟩
    simp only [Ops]
    exact ⟨w, [], [], [], rfl, ⟨hi, rfl, fu, c.rep, fun a ha => (c.mem a).mpr (.inr ha)⟩, ⟨rfl, rfl⟩, rfl⟩
def eMutP (i : Nat) (p : List Stp) (sh : T → Bool) (m : T → List T → R (T × T)) (f : AM) : EM := fun env => do
  let _ ← ck (match (T.at env i).bind (T.foc p) with | some t => sh t | none => false)
  let (bs, env1) ← f env
  let ts ← tmps bs
  match T.at env1 i with
  | some t => match T.foc p t with
    | some u => do
      let (u', w) ← m u ts
      match T.upf p t u' with
      | some t' => .ok (w, env1.set i (some t'))
      | none => stk
    | none => stk
  | none => stk
theorem te_mutP {md0 : List Nat} {i : Nat} {p : List Stp} {sh : T → Bool} {m : T → List T → R (T × T)} {ty : String} {r : V → List V → Hp → VK → Prop} {f : AM} {Q : VK} (him : i ∈ md) (hm : ∀ j, j ∈ md0 → j ∈ md) (hi0 : i ∉ md0) (hs : MutS K ca r m)
    (hty : ∀ (F H : Hp) (t : T) (v : V) (fv : List Addr), sh t = true → Sub F H → Rep K ca F H t v fv → tyV K ty v H) (h : TEof K ca md (eMutP i p sh m f) σ H Q) : tBM K ty r (tP K ca i p) (TAof K ca md0 f) σ H Q := by
  obtain ⟨F, env, fp, u, env', s, e, k⟩ := h
  obtain ⟨_, c0, e0⟩ := bind_ok e
  have c0 := ck_ok c0
  obtain ⟨⟨bs, env1⟩, e1, ea⟩ := bind_ok e0
  obtain ⟨ts, e2, eb⟩ := bind_ok ea
  clear e ea e0
  cases h0 : (T.at env i).bind (T.foc p) with
  | none => rw [h0] at c0; cases c0
  | some u0 =>
    rw [h0] at c0
    obtain ⟨t0, et0, ef0⟩ := at_slot h0
    obtain ⟨v0, hv0, r0⟩ := s.slot i t0 et0
    obtain ⟨w0, fu, fr, c⟩ := Rep.foc p t0 u0 r0 (s.nd i) ef0
    refine ⟨v0, w0, hv0, c.via F H (Sub.refl F) s.sub (fun _ _ => rfl), hty F H u0 w0 fu c0 s.sub c.rep, F, env, fp, bs, env1, s, e1, fun vs H1 F1 fp1 ft g1 k1 s1 o1 n1 d1 => ?_⟩
    have et1 : env1[i]? = some (some t0) := by rw [k1.env i hi0]; exact et0
    have ea1 : T.at env1 i = some t0 := by unfold T.at; rw [et1]; rfl
    rw [ea1] at eb
    simp only [ef0] at eb
    obtain ⟨⟨u', w'⟩, e3, e4⟩ := bind_ok eb
    cases h5 : T.upf p t0 u' with
    | none => simp only [h5] at e4; cases e4
    | some t' =>
      simp only [h5] at e4
      cases e4
      have efp : fp1 i = fp i := k1.fp i hi0
      have nom : ∀ a, a ∈ fp i → ¬ OwM md0 fp a := fun a ha ⟨j, hj, hj2⟩ => hi0 (by rw [s.one i j a ha hj2]; exact hj)
      have alv : ∀ a, a ∈ fp i → H1 a = H a ∧ F1 a = none ∧ H a ≠ none := fun a ha => by
        obtain ⟨q1, q2⟩ := s.alive a ⟨i, ha⟩
        refine ⟨?_, (s1.alive a ⟨i, by rw [efp]; exact ha⟩).2, q1⟩
        cases w : H a with
        | none => exact absurd w q1
        | some o => exact g1.frame a o w (nom a ha)
      have fu_in : ∀ a ∈ fu, a ∈ fp i := fun a ha => (c.mem a).mpr (.inr ha)
      have fr_in : ∀ a ∈ fr, a ∈ fp i := fun a ha => (c.mem a).mpr (.inl ha)
      have ru : Rep K ca F1 H1 u0 w0 fu := Rep.go g1.ext u0 c.rep (fun a ha => (alv a (fu_in a ha)).1) (fun a ha => (alv a (fu_in a ha)).2.1)
      refine hs F1 H1 u0 w0 fu ts vs ft u' u Q s1.sub ru c.ndu (o1.tmps e2) n1 (fun a ha z => d1 a z ⟨i, by rw [efp]; exact fu_in a ha⟩) e3 fun w H2 F2 fu' fw g2 r1 r2 n2 n3 d2 => ?_
      have off_fr : ∀ a ∈ fr, ¬ (a ∈ fu ∨ a ∈ ft) := fun a ha z => z.elim (fun q => c.dis a q ha) fun q => d1 a q ⟨i, by rw [efp]; exact fr_in a ha⟩
      have fr2 : ∀ a ∈ fr, H2 a = H a ∧ F2 a = none := fun a ha => by
        obtain ⟨q1, q2, q3⟩ := alv a (fr_in a ha)
        constructor
        · cases w : H a with
          | none => exact absurd w q3
          | some o => exact g2.frame a o (by rw [q1]; exact w) (off_fr a ha)
        · cases w : F2 a with
          | none => rfl
          | some o =>
            exfalso
            rcases g2.nofz a (by rw [w]; simp) with z | z | z
            · exact z q2
            · exact off_fr a ha z
            · exact q3 (by rw [← q1]; exact z)
      obtain ⟨f', i1, i2, i3⟩ := c.upd F2 H2 u' fu' t' (g1.ext.trans g2.ext) fr2 r1 n2 (fun a ha hb => by
        rcases g2.fresh a (.inl ha) with z | z
        · exact off_fr a hb z
        · exact (alv a (fr_in a hb)).2.2 (by rw [← (alv a (fr_in a hb)).1]; exact z)) h5
      have g3 : Go F1 H1 (fun a => a ∈ fp1 i ∨ a ∈ ft) F2 H2 (fun a => a ∈ f' ∨ a ∈ fw) := by
        refine ⟨g2.ext, g2.sub, fun b o eb n => g2.frame b o eb fun z => n (z.imp (fun q => by rw [efp]; exact fu_in b q) id), fun b eb => (g2.nofz b eb).imp id (Or.imp (fun z => z.imp (fun q => by rw [efp]; exact fu_in b q) id) id), fun b z => ?_⟩
        rcases z with z | z
        · rcases (i3 b).mp z with z | z
          · exact .inl (.inl (by rw [efp]; exact fr_in b z))
          · exact (g2.fresh b (.inl z)).imp (fun z => z.imp (fun q => by rw [efp]; exact fu_in b q) id) id
        · exact (g2.fresh b (.inr z)).imp (fun z => z.imp (fun q => by rw [efp]; exact fu_in b q) id) id
      have dw : ∀ a ∈ fw, a ∉ f' := fun a ha hb => by
        rcases (i3 a).mp hb with z | z
        · rcases g2.fresh a (.inr ha) with q | q
          · exact off_fr a z q
          · exact (alv a (fr_in a z)).2.2 (by rw [← (alv a (fr_in a z)).1]; exact q)
        · exact d2 a ha z
      obtain ⟨sP, dP⟩ := s1.replace hv0 g3 (fun a ha => d1 a ha) i1 i2 dw
      refine k w H2 F2 (fpSet fp1 i f') fw (Go.slot him hm g1 k1 g3) ⟨fun j hj => ?_, fun j hj => ?_⟩ sP ⟨r2, n3, dP⟩
      · have hji : j ≠ i := fun z => hj (by rw [z]; exact him)
        rw [fpSet_ne hji]
        exact k1.fp j fun z => hj (hm j z)
      · have hji : i ≠ j := fun z => hj (by rw [← z]; exact him)
        rw [List.getElem?_set_ne hji]
        exact k1.env j fun z => hj (hm j z)
end
end QL
namespace QL
open PySem L2 RZ

section
variable {K : PySem.W.Frag} {ca : Ca} {H : Hp}
theorem Via.snoc {s : Stp} : ∀ {p : List Stp} {v w : V}, Via K ca H (p ++ [s]) v w → ∃ m, Via K ca H p v m ∧ Via K ca H [s] m w
  | [], v, w, h => ⟨v, rfl, h⟩
  | .ix k :: p, v, w, h => by
    obtain ⟨a, us, y, h1, h2, h3, h4⟩ := (show Via K ca H (.ix k :: (p ++ [s])) v w from h)
    obtain ⟨m, q1, q2⟩ := Via.snoc h4
    exact ⟨m, ⟨a, us, y, h1, h2, h3, q1⟩, q2⟩
  | .fd c x :: p, v, w, h => by
    obtain ⟨a, dx, gs, y, h1, h2, h3, h4⟩ := (show Via K ca H (.fd c x :: (p ++ [s])) v w from h)
    obtain ⟨m, q1, q2⟩ := Via.snoc h4
    exact ⟨m, ⟨a, dx, gs, y, h1, h2, h3, q1⟩, q2⟩
end
section
variable {ca : Ca} {X : Cx} {md md0 tv pn : List Nat} {a b c e o : Expr} {es : List Expr} {pos p apos cpos : Pos} {f g h : EM} {bf bg bh : BM} {af : AM} {x : Str} {i : Nat} {pt : List Stp}
abbrev DP (ca : Ca) (X : Cx) (i : Nat) (pt : List Stp) (e : Expr) : Prop := PE X e (tP X.K ca i pt)
theorem p_name (i : Nat) (hN : X.N[i]? = some x := by rfl) (hv : Vis X.env.scope x := by first | exact Or.inl rfl | exact Or.inr (Or.inl rfl) | exact Or.inr (Or.inr rfl)) (hd : (x == ("__debug__" : Str)) = false := by decide) (hcd : (x == ("__classdict__" : Str)) = false := by decide) :
    DP ca X i [] (.Name x pos) := PEm (pv i hN hv hd hcd) fun σ H Q ⟨v, w, h1, h2, q⟩ => ⟨v, h1, by cases h2; exact q⟩
theorem rIx_via {K : PySem.W.Frag} {H : Hp} {k : Int} {m w : V} {Q : VK} (h : Via K ca H [.ix k] m w) (q : Q w H) : rIx K m (.int k) H Q := by
  obtain ⟨a, us, y, rfl, h2, h3, h4⟩ := h
  cases h4
  rcases h2 with h2 | h2
  · exact .inl ⟨a, us, k, _, rfl, rfl, h2, h3, q⟩
  · exact .inr (.inl ⟨a, us, k, _, rfl, rfl, h2, h3, q⟩)
theorem p_ix {k : Int} {j} {pos' : Pos} (ho : DP ca X i pt o) (hs : PlainIx (.Constant (.int k) j pos') := by exact fun _ _ => rfl) : DP ca X i (pt ++ [.ix k]) (.Subscript o (.Constant (.int k) j pos') pos) :=
  PEm (pe_ix ix_seq ho pe_int hs) fun σ H Q ⟨v, w, h1, h2, q⟩ => by
    obtain ⟨m, q1, q2⟩ := h2.snoc
    exact ⟨v, m, h1, q1, rIx_via q2 q⟩
theorem p_ixn {k : Int} {j} {pos' pos2 : Pos} (ho : DP ca X i pt o) (hs : PlainIx (.UnaryOp .USub (.Constant (.int k) j pos') pos2) := by exact fun _ _ => rfl) : DP ca X i (pt ++ [.ix (-k)]) (.Subscript o (.UnaryOp .USub (.Constant (.int k) j pos') pos2) pos) :=
  PEm (pe_ix ix_seq ho (pe_un un_neg pe_int) hs) fun σ H Q ⟨v, w, h1, h2, q⟩ => by
    obtain ⟨m, q1, q2⟩ := h2.snoc
    exact ⟨v, m, h1, q1, k, rfl, rIx_via q2 q⟩
/-- facts of a class -/
structure ClsF (ca : Ca) (K : PySem.W.Frag) (c : Str) (fs : List Str) : Prop where
  cls : Cls K (ca.cl c)
  no : ∀ f, f ∈ fs → NoAttr K (ca.cl c) f
theorem p_fd {cl f : Str} {fs : List Str} (hc : ClsF ca X.K cl fs) (ho : DP ca X i pt o) (hf : f ∈ fs := by decide) (hb : attributeBase o f X.env (eval o X.env) = eval o X.env := by rfl) : DP ca X i (pt ++ [.fd cl f]) (.Attribute o f pos) :=
  PEm (pe_fld ho hb) fun σ H Q ⟨v, w, h1, h2, q⟩ => by
    obtain ⟨m, q1, a, dx, gs, y, rfl, h3, h4, h5⟩ := h2.snoc
    cases h5
    exact ⟨v, .ref a, h1, q1, a, _, dx, gs, _, rfl, h3, hc.cls, hc.no f hf, h4, q⟩
theorem b_p (ho : DP ca X i pt e) (hi : i ∉ md := by decide) : DB ca X md e (bP i pt) := PEm ho fun _ _ _ h => tb_p hi h
theorem d_mutP {name : Str} {id : String} {r : V → List V → Hp → VK → Prop} {m : T → List T → R (T × T)} (slot : Slot "list" name id) (hty : typeOf (.builtin id) = pure (.type "method_descriptor")) (hm : MtR X id r) (hs : MutS X.K ca r m) (md0 : List Nat) (ho : DP ca X i pt o) (ha : DA ca X md0 (e :: es) af)
    (him : i ∈ md := by decide) (hmd : ∀ j, j ∈ md0 → j ∈ md := by decide) (hi0 : i ∉ md0 := by decide)
    (hbase : attributeBase o name X.env (eval o X.env) = eval o X.env := by rfl)
    (hfew : ((backTo cpos (starEach (e :: es) X.env)).all (fun x => !x.1) && (backToKw cpos (keywordEach [] X.env)).all (fun x => x.1.isSome)
      && decide ((e :: es).length + ([] : List Keyword).length + (if ([] : List Keyword).isEmpty then 0 else 1) < 30)) = true := by rfl)
    (hline : (apos.endLine == cpos.line) = true := by rfl) (hst : starEach (e :: es) X.env = (false, eval e X.env) :: starEach es X.env := by rfl) (hplain : (backTo cpos (starEach es X.env)).any (·.1) = false := by rfl) :
    DE ca X md (.Call (.Attribute o name apos) (e :: es) [] cpos) (eMutP i pt T.isLst m af) :=
  PEm (pe_bm PySem.F.plainAttrs_list slot hty hm ho ha hbase hfew hline hst hplain) fun _ _ _ h => te_mutP him hmd hi0 hs ty_lst h
theorem d_mutP0 {name : Str} {id : String} {r : V → List V → Hp → VK → Prop} {m : T → List T → R (T × T)} (slot : Slot "list" name id) (hty : typeOf (.builtin id) = pure (.type "method_descriptor")) (hm : MtR X id r) (hs : MutS X.K ca r m) (ho : DP ca X i pt o)
    (him : i ∈ md := by decide) (hbase : attributeBase o name X.env (eval o X.env) = eval o X.env := by rfl) (hline : (apos.endLine == cpos.line) = true := by rfl) :
    DE ca X md (.Call (.Attribute o name apos) [] [] cpos) (eMutP i pt T.isLst m aNil) :=
  PEm (pe_bm0 PySem.F.plainAttrs_list slot hty hm ho hbase hline) fun σ H Q h => by
    obtain ⟨v, w, h1, h2, h3, h4⟩ := te_mutP (md0 := []) him (fun _ z => absurd z (by simp)) (by simp) hs ty_lst h
    exact ⟨v, w, h1, h2, h3, ta_nil h4⟩
theorem ta_2 {r : List V → Hp → VK → Prop} {Q : VK} {σ : L2.St} {H : Hp} {P : V → V → Hp → Prop} (h : TAof X.K ca md (aCons bf (aCons bg aNil)) σ H (fun vs H1 => r vs H1 Q)) (q : ∀ x y H1, r [x, y] H1 Q → P x y H1) : TBof X.K ca md bf σ H fun x H1 => TBof X.K ca md bg σ H1 fun y H2 => P x y H2 :=
  (ta_cons h : TBof X.K ca md bf σ H _).mono fun x H1 h1 => (ta_cons h1 : TBof X.K ca md bg σ H1 _).mono fun y H2 h2 => q x y H2 (ta_nil h2 : _)
theorem d_din (hu : X.A.units + 1 < cLine) (ha : DB ca X md a bf) (hb : DB ca X md b bg) (h1 : behindInMarks .In b = false := by rfl) : DE ca X md (.Compare a [.In] [b] pos) (eOp oDIn (aCons bf (aCons bg aNil))) :=
  PEm (pe_cmp (pc_din hu ha hb) h1) fun σ H Q h => ta_2 (te_op s_din h) fun x y H1 ⟨x', y', e, q⟩ => by cases e; exact q
theorem t_din (hu : X.A.units + 1 < cLine) (ha : DB ca X md a bf) (hb : DB ca X md b bg) (h1 : behindInMarks .In b = false := by rfl) : DT ca X md (.Compare a [.In] [b] pos) (tV (eOp oDIn (aCons bf (aCons bg aNil)))) :=
  PTm (pt_cmp (pc_din hu ha hb) h1) fun σ H Q h => ta_2 (te_op s_din (tt_v h)) fun x y H1 ⟨x', y', e, q⟩ => by cases e; exact q
theorem d_dnin (hu : X.A.units + 1 < cLine) (ha : DB ca X md a bf) (hb : DB ca X md b bg) (h1 : behindInMarks .NotIn b = false := by rfl) : DE ca X md (.Compare a [.NotIn] [b] pos) (eOp oDNin (aCons bf (aCons bg aNil))) :=
  PEm (pe_cmp (pc_dnotin hu ha hb) h1) fun σ H Q h => ta_2 (te_op s_dnin h) fun x y H1 ⟨x', y', e, q⟩ => by cases e; exact q
theorem t_dnin (hu : X.A.units + 1 < cLine) (ha : DB ca X md a bf) (hb : DB ca X md b bg) (h1 : behindInMarks .NotIn b = false := by rfl) : DT ca X md (.Compare a [.NotIn] [b] pos) (tV (eOp oDNin (aCons bf (aCons bg aNil)))) :=
  PTm (pt_cmp (pc_dnotin hu ha hb) h1) fun σ H Q h => ta_2 (te_op s_dnin (tt_v h)) fun x y H1 ⟨x', y', e, q⟩ => by cases e; exact q
theorem d_dix (hu : X.A.units + 1 < cLine) (ha : DB ca X md a bf) (hb : DB ca X md b bg) (hs : NoSl b := by exact fun _ _ => rfl) : DE ca X md (.Subscript a b pos) (eOp oDIx (aCons bf (aCons bg aNil))) :=
  PEm (pe_dget hu ha hb hs) fun σ H Q h => ta_2 (te_op s_dix h) fun x y H1 ⟨x', y', e, q⟩ => by cases e; exact q
theorem d_dnew : DE ca X md (.Dict [] [] pos) eDnew := PEm pe_dnewK fun _ _ _ h => te_dnew h
def oLRg1 : List T → R T
  | [.int j] => do
    let _ ← ck (decide (-1000000000000 < j) && decide (j < 1000000))
    .ok (.lst true (rngT 0 j.toNat))
  | _ => stk
def oLRg2 : List T → R T
  | [.int i, .int j] => do
    let _ ← ck (decide (-1000000000000 < i) && (decide (i < 1000000000000) && (decide (-1000000000000 < j) && (decide (j < 1000000000000) && decide (j - i < 1000000)))))
    .ok (.lst true (rngT i (j - i).toNat))
  | _ => stk
theorem reps_rng {K : PySem.W.Frag} {F H : Hp} {lo : Int} {n : Nat} : Reps K ca F H (rngT lo n) ((List.range n).map fun i => V.int (lo + (i : Nat))) [] := by
  have : rngT lo n = ((List.range n).map fun i : Nat => lo + (i : Int)).map T.int := by unfold rngT; rw [List.map_map]; rfl
  rw [this]
  have e : ((List.range n).map fun i : Nat => V.int (lo + (i : Int))) = ((List.range n).map fun i : Nat => lo + (i : Int)).map V.int := by rw [List.map_map]; rfl
  rw [e]
  exact reps_ints _
theorem s_lrg1 {K : PySem.W.Frag} : CallS K ca (fun vs H Q => ∃ x, vs = [x] ∧ ∃ n, x = .int n ∧ RgOk 0 n ∧ ∀ q, H q = none → Q (.ref q) (upd H q (.lst (rgV 0 n)))) oLRg1 := by
  intro F H ts vs f t Q s r nd e q
  unfold oLRg1 at e
  split at e
  case h_2 => cases e
  case h_1 j =>
    obtain ⟨_, c, e⟩ := bind_ok e
    have c := ck_ok c
    simp only [Bool.and_eq_true, decide_eq_true_eq] at c
    cases e
    obtain ⟨x, rfl, r1⟩ := reps1 r
    simp only [Rep] at r1
    obtain ⟨rfl, rfl⟩ := r1
    refine ⟨_, rfl, j, rfl, ⟨by omega, by omega, by omega, by omega, by omega⟩, fun p hp => ?_⟩
    unfold rgV
    have : (j - 0).toNat = j.toNat := by omega
    rw [this]
    exact newLst s hp reps_rng List.nodup_nil (fun _ z => absurd z (by simp)) q
theorem s_lrg2 {K : PySem.W.Frag} : CallS K ca (fun vs H Q => ∃ x y, vs = [x, y] ∧ ∃ i j, x = .int i ∧ y = .int j ∧ RgOk i j ∧ ∀ q, H q = none → Q (.ref q) (upd H q (.lst (rgV i j)))) oLRg2 := by
  intro F H ts vs f t Q s r nd e q
  unfold oLRg2 at e
  split at e
  case h_2 => cases e
  case h_1 i j =>
    obtain ⟨_, c, e⟩ := bind_ok e
    have c := ck_ok c
    simp only [Bool.and_eq_true, decide_eq_true_eq] at c
    cases e
    obtain ⟨x, y, g1, g2, rfl, r1, r2, rfl⟩ := reps2 r
    simp only [Rep] at r1 r2
    obtain ⟨rfl, rfl⟩ := r1
    obtain ⟨rfl, rfl⟩ := r2
    exact ⟨_, _, rfl, i, j, rfl, rfl, ⟨by omega, by omega, by omega, by omega, by omega⟩, fun p hp => newLst s hp reps_rng List.nodup_nil (fun _ z => absurd z (by simp)) q⟩
theorem d_lrg1 {p2 pos2 : Pos} (hm : X.mg "list" = none) (hm2 : X.mg "range" = none) (ha : DB ca X md a bf) (hg : Gl X "list" := by rfl) (hg2 : Gl X "range" := by rfl) (hc : X.calm = true := by rfl) (na : starEach [a] X.env = (false, eval a X.env) :: starEach [] X.env := by rfl)
    (nb : starEach [.Call (.Name "range" p2) [a] [] pos2] X.env = (false, eval (.Call (.Name "range" p2) [a] [] pos2) X.env) :: starEach [] X.env := by rfl) : DE ca X md (.Call (.Name "list" p) [.Call (.Name "range" p2) [a] [] pos2] [] pos) (eOp oLRg1 (aCons bf aNil)) :=
  PEm (pe_listRg hc hg hm (prg_1 hg2 hm2 ha na) nb) fun σ H Q h => (ta_cons (te_op s_lrg1 h) : TBof X.K ca md bf σ H _).mono fun x H1 h1 => by
    obtain ⟨x', e, q⟩ := (ta_nil h1 : _)
    cases e
    exact q
theorem d_lrg2 {p2 pos2 : Pos} (hm : X.mg "list" = none) (hm2 : X.mg "range" = none) (ha : DB ca X md a bf) (hb : DB ca X md b bg) (hg : Gl X "list" := by rfl) (hg2 : Gl X "range" := by rfl) (hc : X.calm = true := by rfl) (na : starEach [a, b] X.env = (false, eval a X.env) :: starEach [b] X.env := by rfl)
    (nb : starEach [b] X.env = (false, eval b X.env) :: starEach [] X.env := by rfl) (hp : (backTo pos2 (starEach [b] X.env)).any (·.1) = false := by rfl)
    (nc : starEach [.Call (.Name "range" p2) [a, b] [] pos2] X.env = (false, eval (.Call (.Name "range" p2) [a, b] [] pos2) X.env) :: starEach [] X.env := by rfl) : DE ca X md (.Call (.Name "list" p) [.Call (.Name "range" p2) [a, b] [] pos2] [] pos) (eOp oLRg2 (aCons bf (aCons bg aNil))) :=
  PEm (pe_listRg hc hg hm (prg_2 hg2 hm2 ha hb na nb hp) nc) fun σ H Q h => ta_2 (te_op s_lrg2 h) fun x y H1 ⟨x', y', e, q⟩ => by cases e; exact q
end
end QL
namespace QL
open PySem L2

mutual
def repB (K : PySem.W.Frag) : T → Value → Bool
  | .non, .none => true
  | .bl b, .bool c => b == c
  | .int i, .int j _ => decide (i = j)
  | .str x, .str y _ => decide (x = y)
  | .tup xs, .ref a => match K.lookup a with
    | some ⟨.type c, _, .seq its _, _⟩ => decide (c = "tuple") && (decide (its.size ≤ sizeLine) && repsB K xs its.toList)
    | _ => false
  | _, _ => false
def repsB (K : PySem.W.Frag) : List T → List Value → Bool
  | [], [] => true
  | t :: ts, u :: us => repB K t u && repsB K ts us
  | _, _ => false
end
mutual
theorem repB_ok {K : PySem.W.Frag} {ca : Ca} {F H : Hp} : ∀ (t : T) {u : Value}, repB K t u = true → ∃ v, RelV v u ∧ Rep K ca F H t v []
  | .non, u, h => by cases u <;> first | exact ⟨.non, rfl, rep_non⟩ | (simp [repB] at h; done)
  | .bl b, u, h => by
    cases u with
    | bool c =>
      have : b = c := by simpa [repB] using h
      subst this
      exact ⟨.bl b, rfl, rep_bl⟩
    | _ => simp [repB] at h
  | .int i, u, h => by
    cases u with
    | int j t =>
      have : i = j := by simpa [repB] using h
      subst this
      exact ⟨.int i, ⟨t, rfl⟩, rep_int⟩
    | _ => simp [repB] at h
  | .str x, u, h => by
    cases u with
    | str y t =>
      have : x = y := by simpa [repB] using h
      subst this
      exact ⟨.str x, ⟨t, rfl⟩, rep_str⟩
    | _ => simp [repB] at h
  | .tup xs, u, h => by
    cases u with
    | ref a =>
      simp only [repB] at h
      split at h
      · rename_i c od its n sl hl
        simp only [Bool.and_eq_true, decide_eq_true_eq] at h
        obtain ⟨vs, r1, r2⟩ := repsB_ok (F := F) (H := H) (ca := ca) xs h.2.2
        refine ⟨.ref a, rfl, ?_⟩
        simp only [Rep]
        exact ⟨a, vs, rfl, .inr ⟨_, its, n, hl, congrArg Value.type h.1, rfl, h.2.1, r1⟩, r2⟩
      · cases h
    | _ => simp [repB] at h
  | .lst _ _, u, h => by simp [repB] at h
  | .lk _, u, h => by simp [repB] at h
  | .dct _ _, u, h => by simp [repB] at h
  | .obj _ _, u, h => by simp [repB] at h
  | .hole, u, h => by simp [repB] at h
theorem repsB_ok {K : PySem.W.Frag} {ca : Ca} {F H : Hp} : ∀ (ts : List T) {us : List Value}, repsB K ts us = true → ∃ vs, Vals vs us ∧ Reps K ca F H ts vs []
  | [], [], _ => ⟨[], .nil, by simp only [Reps]; trivial⟩
  | [], _ :: _, h => by simp [repsB] at h
  | _ :: _, [], h => by simp [repsB] at h
  | t :: ts, u :: us, h => by
    simp only [repsB, Bool.and_eq_true] at h
    obtain ⟨v, r1, r2⟩ := repB_ok (F := F) (H := H) (ca := ca) t h.1
    obtain ⟨vs, r3, r4⟩ := repsB_ok (F := F) (H := H) (ca := ca) ts h.2
    exact ⟨v :: vs, .cons r1 r3, by simp only [Reps]; exact ⟨v, vs, [], [], rfl, r2, r4, rfl⟩⟩
end
def glB (K : PySem.W.Frag) (p : Str × T) : Bool := match PySem.W.nsIn K mainGlobals p.1 with
  | some (some u) => repB K p.2 u
  | _ => false
theorem RelV.fun_ {v w : V} {u : Value} (h : RelV v u) (h' : RelV w u) : v = w := h.inj h'
theorem glB_ok {K : PySem.W.Frag} {h : Heap} {mg : Str → Option Value} {ca : Ca} {x : Str} {t : T} (X : K.In h) (G : h.Ns mainGlobals mg) (c : glB K (x, t) = true) : Glb ca K mg x t := by
  unfold glB at c
  split at c
  · rename_i u hu
    obtain ⟨v, r, _⟩ := repB_ok (ca := ca) (F := fun _ => none) (H := fun _ => none) t c
    refine ⟨⟨u, v, PySem.W.mg_of X G hu, r, fun F H => ?_⟩⟩
    obtain ⟨v', r', rp⟩ := repB_ok (ca := ca) (F := F) (H := H) t c
    rw [RelV.fun_ r r']
    exact rp
  · cases c
abbrev AlQ : Type := Bool × List He.FnW
def obsQ (fa : List He.Fa) (gl : List (Str × T)) (fn : List He.DefD) (K : PySem.W.Frag) : AlQ := (((fa.all fun f => f.ok K) && gl.all (glB K)) && fn.all fun d => d.ok K, fn.map fun d => He.fnW K d.at_)
def valQ (fn : List He.DefD) : AlQ := (true, fn.map He.DefD.val)
def SaysQ (fa : List He.Fa) (gl : List (Str × T)) (fn : List He.DefD) (K : PySem.W.Frag) : Prop := obsQ fa gl fn K = valQ fn
def obsQG (n : Nat) (fa : List He.Fa) (gl : List (Str × T)) (fn : List He.DefD) (g : Addr → Option Obj) : AlQ := obsQ fa gl fn (He.frG g (He.asD g n))
def hookQ (n : Nat) (fa : List He.Fa) (gl : List (Str × T)) (fn : List He.DefD) : PySem.W.Hook where
  α := AlQ
  obs := fun s => obsQG n fa gl fn s.heap.get?
  val := fun _ => valQ fn
  says := fun _ h => ∃ K : PySem.W.Frag, K.In h ∧ SaysQ fa gl fn K
  of := fun _ _ e => ⟨_, He.frG_in, e⟩
  keeps := fun _ _ _ ⟨K, hK, c⟩ k => ⟨K, PySem.W.Frag.In.keeps hK k, c⟩
theorem obsQG_eq {n : Nat} {fa : List He.Fa} {gl : List (Str × T)} {fn : List He.DefD} {g : Addr → Option Obj} {s : Shared} (h : ∀ a, g a = s.heap.get? a) : obsQG n fa gl fn g = (hookQ n fa gl fn).obs s := by
  have e : g = s.heap.get? := funext h
  rw [e] <;> rfl
section
variable {fa : List He.Fa} {gl : List (Str × T)} {fn : List He.DefD} {K : PySem.W.Frag}
theorem SaysQ.all (c : SaysQ fa gl fn K) : ((((fa.all fun f => f.ok K) && gl.all (glB K)) && fn.all fun d => d.ok K) = true) ∧ fn.map (fun d => He.fnW K d.at_) = fn.map He.DefD.val := ⟨congrArg (fun z : AlQ => z.1) c, congrArg (fun z : AlQ => z.2) c⟩
theorem SaysQ.fact (c : SaysQ fa gl fn K) (i : Nat) {f : He.Fa} (h : fa[i]? = some f := by rfl) : f.ok K = true := by
  have c1 := c.all.1
  simp only [Bool.and_eq_true] at c1
  exact List.all_eq_true.mp c1.1.1 f (List.mem_of_getElem? h)
theorem SaysQ.glob (c : SaysQ fa gl fn K) (i : Nat) {p : Str × T} (h : gl[i]? = some p := by rfl) : glB K p = true := by
  have c1 := c.all.1
  simp only [Bool.and_eq_true] at c1
  exact List.all_eq_true.mp c1.1.2 p (List.mem_of_getElem? h)
theorem SaysQ.def_ (c : SaysQ fa gl fn K) (i : Nat) {d : He.DefD} (h : fn[i]? = some d := by rfl) : ∃ fd, FunD K d.name d.qual d.params d.body d.scope (d.dvs K) (d.kws K) (He.fAd K d.at_) fd := by
  have c1 := c.all.1
  simp only [Bool.and_eq_true] at c1
  have e2 : (fn.map fun d => He.fnW K d.at_)[i]? = (fn.map He.DefD.val)[i]? := by rw [c.all.2]
  rw [List.getElem?_map, List.getElem?_map, h] at e2
  exact He.DefD.funD (Option.some.inj e2) (List.all_eq_true.mp c1.2 d (List.mem_of_getElem? h))
end
/-- a script's list -/
theorem script_rep {K : PySem.W.Frag} {ca : Ca} {H : Hp} {a : Addr} {ns : List Int} (h : SqL K H a (ns.map V.int)) : SR K ca H H [some (.ref a)] [some (.lk (ns.map T.int))] (fpI none []) := by
  refine ⟨Sub.refl H, fun i t e => ?_, fun a ha => absurd (ow_fpI ha) (by simp), fun i j a hi => absurd hi (by simp [fpI]), fun i => by simp [fpI], rfl⟩
  cases i with
  | succ i => simp at e
  | zero =>
    simp only [List.getElem?_cons_zero, Option.some.injEq] at e
    subst e
    refine ⟨.ref a, rfl, ?_⟩
    have : ∀ ns : List Int, Reps K ca H H (ns.map T.int) (ns.map V.int) [] := by
      intro ns
      induction ns with
      | nil => simp only [List.map, Reps]; trivial
      | cons n ns ih => simp only [List.map, Reps]; exact ⟨.int n, _, [], [], rfl, rep_int, ih, rfl⟩
    simp only [Rep]
    exact ⟨a, _, rfl, h, this ns, by simp [fpI]⟩
theorem law_sp {K : PySem.W.Frag} {ca : Ca} {H : Hp} {a : Addr} {ns : List Int} {g : Fn} (h : SqL K H a (ns.map V.int)) (e : g [.lk (ns.map T.int)] = .ok (.bl true, none)) : spOf K ca none g [.ref a] H (fun v _ => v = .bl true) fun _ _ _ => False :=
  ⟨H, [.lk (ns.map T.int)], [], .bl true, none, script_rep h, e, fun v H' F' fi' fv _ r _ _ _ _ _ => by simp only [Rep] at r; exact r.1⟩
end QL
namespace QL
open PySem L2

def wp {α : Type} (x : R α) (Q : α → Prop) : Prop := ∃ a, x = .ok a ∧ Q a
section
variable {α β : Type} {x : R α} {Q Q' : α → Prop} {f : α → R β} {P : β → Prop} {a : α}
theorem wp_ok (h : Q a) : wp (.ok a) Q := ⟨a, rfl, h⟩
theorem wp_of {b : α} (e : x = .ok b) (h : Q b) : wp x Q := ⟨b, e, h⟩
theorem wp_mono (h : wp x Q) (m : ∀ a, Q a → Q' a) : wp x Q' := let ⟨a, e, q⟩ := h; ⟨a, e, m a q⟩
theorem wp_bind (h : wp x fun a => wp (f a) P) : wp (x >>= f) P := by
  obtain ⟨a, e, b, e2, p⟩ := h
  subst e
  exact ⟨b, e2, p⟩
theorem wp_ck {b : Bool} {Q : Unit → Prop} (h : b = true) (q : Q ()) : wp (ck b) Q := by subst h; exact ⟨(), rfl, q⟩
end
section
variable {env : En} {o : List T → R T} {f g h : EM} {bf bg : BM} {af : AM} {i j : Nat} {t u : T} {Q : T × En → Prop} {QB : Bop × En → Prop} {QA : List Bop × En → Prop} {QT : Bool × En → Prop} {c d : BT}
theorem wp_bE (h : wp (f env) fun p => QB (.tmp p.1, p.2)) : wp (bE f env) QB := wp_bind (wp_mono h fun ⟨_, _⟩ q => wp_ok q)
theorem wp_bV (e : env[i]? = some (some t)) (q : QB (.br t i, env)) : wp (bV i env) QB := by unfold bV; rw [e]; exact wp_ok q
theorem wp_bIo (e : env[i]? = some (some t)) (q : QB (.io i, env)) : wp (bIo i env) QB := by unfold bIo; rw [e]; exact wp_ok q
theorem wp_bI (h : wp (bf env) fun p => p.1.isI.isSome = true ∧ QB p) : wp (bI bf env) QB := wp_bind (wp_mono h fun ⟨_, _⟩ q => wp_bind (wp_ck q.1 (wp_ok q.2)))
theorem wp_aNil (q : QA ([], env)) : wp (aNil env) QA := wp_ok q
theorem wp_aCons (h : wp (bf env) fun p => wp (af p.2) fun r => QA (p.1 :: r.1, r.2)) : wp (aCons bf af env) QA := wp_bind (wp_mono h fun ⟨_, _⟩ q => wp_bind (wp_mono q fun ⟨_, _⟩ q => wp_ok q))
theorem wp_eC (q : Q (t, env)) : wp (eC t env) Q := wp_ok q
theorem wp_eVar (e : env[i]? = some (some t)) (ho : t.ow = false) (q : Q (t, env)) : wp (eVar i env) Q := by unfold eVar; rw [e]; exact wp_bind (wp_ck (by rw [ho]; rfl) (wp_ok q))
theorem wp_eMv (e : env[i]? = some (some t)) (q : Q (t, env.set i none)) : wp (eMv i env) Q := by unfold eMv; rw [e]; exact wp_ok q
theorem wp_eFz (e : env[i]? = some (some t)) (hn : t.nob = true) (q : Q (t.fz, env.set i (some t.fz))) : wp (eFz i env) Q := by unfold eFz; rw [e]; exact wp_bind (wp_ck hn (wp_ok q))
theorem wp_eAl (e : env[i]? = some (some t)) (ho : t.ow = false) (q : Q (t, env)) : wp (eAl i env) Q := by unfold eAl; rw [e]; simp only [ho]; exact wp_ok q
theorem wp_eAlF (e : env[i]? = some (some t)) (ho : t.ow = true) (hn : t.nob = true) (q : Q (t.fz, env.set i (some t.fz))) : wp (eAl i env) Q := by unfold eAl; rw [e]; simp only [ho]; exact wp_eFz e hn q
/-- operands fit: what they stand for, whether one is borrowed -/
inductive Fit : List Bop → List T → Bool → Prop
  | nil : Fit [] [] false
  | tmp {t : T} {bs : List Bop} {ts : List T} {b : Bool} : Fit bs ts b → Fit (.tmp t :: bs) (t :: ts) b
  | br {t : T} {i : Nat} {bs : List Bop} {ts : List T} {b : Bool} : t.ow = false → Fit bs ts b → Fit (.br t i :: bs) (t :: ts) b
  | bo {t : T} {i : Nat} {bs : List Bop} {ts : List T} {b : Bool} : t.ow = true → t.nob = true → Fit bs ts b → Fit (.br t i :: bs) (t.fz :: ts) true
theorem Fit.ok {bs : List Bop} {ts : List T} {b : Bool} (h : Fit bs ts b) : bs.all Bop.fit = true ∧ bs.map Bop.res = ts ∧ bs.any Bop.bo = b := by
  induction h with
  | nil => exact ⟨rfl, rfl, rfl⟩
  | tmp _ ih => exact ⟨by rw [List.all_cons, ih.1]; rfl, by rw [List.map_cons, ih.2.1]; rfl, by rw [List.any_cons, ih.2.2]; rfl⟩
  | br h _ ih => exact ⟨by rw [List.all_cons, ih.1]; simp [Bop.fit, h], by rw [List.map_cons, ih.2.1]; simp [Bop.res, h], by rw [List.any_cons, ih.2.2]; simp [Bop.bo, h]⟩
  | bo h hn _ ih => exact ⟨by rw [List.all_cons, ih.1]; simp [Bop.fit, hn], by rw [List.map_cons, ih.2.1]; simp [Bop.res, h], by rw [List.any_cons]; simp [Bop.bo, h]⟩
theorem wp_eOp (h : wp (af env) fun p => ∃ ts b, Fit p.1 ts b ∧ wp (o ts) fun t => (b = true → t.nfz = true) ∧ Q (t, p.2)) : wp (eOp o af env) Q := by
  refine wp_bind (wp_mono h fun ⟨bs, env1⟩ ⟨ts, b, hf, q⟩ => wp_bind ?_)
  obtain ⟨h1, h2, h3⟩ := hf.ok
  unfold opApp
  refine wp_bind (wp_ck h1 ?_)
  rw [h2]
  refine wp_bind (wp_mono q fun t q => wp_bind (wp_ck ?_ (wp_ok (wp_ok q.2))))
  rw [h3]
  cases b with
  | false => rfl
  | true => simp [q.1 rfl]
theorem wp_eTup (h : wp (af env) fun p => ∃ ts, tmps p.1 = .ok ts ∧ ts.length ≤ big ∧ Q (.tup ts, p.2)) : wp (eTup af env) Q := wp_bind (wp_mono h fun ⟨_, _⟩ ⟨ts, e, hl, q⟩ => wp_bind ⟨ts, e, wp_bind (wp_ck (decide_eq_true hl) (wp_ok q))⟩)
theorem wp_eLst (h : wp (af env) fun p => ∃ ts, tmps p.1 = .ok ts ∧ ts.length ≤ big ∧ Q (.lst true ts, p.2)) : wp (eLst af env) Q := wp_bind (wp_mono h fun ⟨_, _⟩ ⟨ts, e, hl, q⟩ => wp_bind ⟨ts, e, wp_bind (wp_ck (decide_eq_true hl) (wp_ok q))⟩)
theorem wp_eIf (h : wp (c env) fun p => if p.1 = true then wp (f p.2) Q else wp (g p.2) Q) : wp (eIf c f g env) Q := wp_bind (wp_mono h fun ⟨b, _⟩ q => by cases b <;> exact q)
theorem wp_eAnd (h : wp (f env) fun p => ∃ b, p.1 = .bl b ∧ if b = true then wp (g p.2) Q else Q (.bl false, p.2)) : wp (eAnd f g env) Q := wp_bind (wp_mono h fun ⟨t, _⟩ ⟨b, e, q⟩ => by
  have e : t = .bl b := e
  subst e
  cases b
  · exact wp_bind (wp_ok (wp_ok q))
  · exact wp_bind (wp_ok q))
theorem wp_eOr (h : wp (f env) fun p => ∃ b, p.1 = .bl b ∧ if b = true then Q (.bl true, p.2) else wp (g p.2) Q) : wp (eOr f g env) Q := wp_bind (wp_mono h fun ⟨t, _⟩ ⟨b, e, q⟩ => by
  have e : t = .bl b := e
  subst e
  cases b
  · exact wp_bind (wp_ok q)
  · exact wp_bind (wp_ok (wp_ok q)))
theorem wp_eNot (h : wp (f env) fun p => ∃ b, p.1 = .bl b ∧ Q (.bl (!b), p.2)) : wp (eNot f env) Q := wp_bind (wp_mono h fun ⟨t, _⟩ ⟨b, e, q⟩ => by
  have e : t = .bl b := e
  subst e
  exact wp_bind (wp_ok (wp_ok q)))
theorem wp_eChain {p q : Int → Int → Bool} (hh : wp (f env) fun x => wp (g x.2) fun y => ∃ i j, x.1 = .int i ∧ y.1 = .int j ∧ if p i j = true then wp (h y.2) fun z => ∃ l, z.1 = .int l ∧ Q (.bl (q j l), z.2) else Q (.bl false, y.2)) : wp (eChain p q f g h env) Q :=
  wp_bind (wp_mono hh fun ⟨x, _⟩ h1 => wp_bind (wp_mono h1 fun ⟨y, _⟩ ⟨i, j, e1, e2, h2⟩ => by
    have e1 : x = .int i := e1
    have e2 : y = .int j := e2
    subst e1 e2
    refine wp_bind (wp_ok (wp_bind (wp_ok ?_)))
    cases hp : p i j with
    | false => rw [hp] at h2; exact wp_ok h2
    | true =>
      rw [hp] at h2
      exact wp_bind (wp_mono h2 fun ⟨z, _⟩ ⟨l, e3, h3⟩ => by
        have e3 : z = .int l := e3
        subst e3
        exact wp_bind (wp_ok (wp_ok h3)))))
theorem wp_tV (h : wp (f env) fun p => ∃ b, p.1 = .bl b ∧ QT (b, p.2)) : wp (tV f env) QT := wp_bind (wp_mono h fun ⟨t, _⟩ ⟨b, e, q⟩ => by
  have e : t = .bl b := e
  subst e
  exact wp_bind (wp_ok (wp_ok q)))
theorem wp_tAnd (h : wp (c env) fun p => if p.1 = true then wp (d p.2) QT else QT (false, p.2)) : wp (tAndS c d env) QT := wp_bind (wp_mono h fun ⟨b, _⟩ q => by cases b; exact wp_ok q; exact q)
theorem wp_tOr (h : wp (c env) fun p => if p.1 = true then QT (true, p.2) else wp (d p.2) QT) : wp (tOrS c d env) QT := wp_bind (wp_mono h fun ⟨b, _⟩ q => by cases b; exact q; exact wp_ok q)
theorem wp_tNot (h : wp (c env) fun p => QT (!p.1, p.2)) : wp (tNotS c env) QT := wp_bind (wp_mono h fun ⟨_, _⟩ q => wp_ok q)
variable {s s' : SM} {QS : Fl × En → Prop} {gt : T → En → R En} {gs : List T → En → R En} {QE : En → Prop}
theorem wp_sNil (q : QS (.nx, env)) : wp (sNil env) QS := wp_ok q
theorem wp_sBreak (q : QS (.bk, env)) : wp (sBreak env) QS := wp_ok q
theorem wp_sCont (q : QS (.ct, env)) : wp (sCont env) QS := wp_ok q
theorem wp_sSeq (h : wp (s env) fun p => match p.1 with
    | .nx => wp (s' p.2) QS
    | fl => QS (fl, p.2)) : wp (sSeq s s' env) QS := wp_bind (wp_mono h fun ⟨fl, _⟩ q => by cases fl <;> first | exact q | exact wp_ok q)
theorem wp_sIf (h : wp (c env) fun p => if p.1 = true then wp (s p.2) QS else wp (s' p.2) QS) : wp (sIf c s s' env) QS := wp_bind (wp_mono h fun ⟨b, _⟩ q => by cases b <;> exact q)
theorem wp_sDrop (h : wp (f env) fun p => QS (.nx, p.2)) : wp (sDrop f env) QS := wp_bind (wp_mono h fun ⟨_, _⟩ q => wp_ok q)
theorem wp_sRet (h : wp (f env) fun p => QS (.rt p.1, p.2)) : wp (sRet f env) QS := wp_bind (wp_mono h fun ⟨_, _⟩ q => wp_ok q)
theorem wp_sRetN (q : QS (.rt .non, env)) : wp (sRetN env) QS := wp_ok q
theorem wp_sAsg (h : wp (f env) fun p => wp (gt p.1 p.2) fun e => QS (.nx, e)) : wp (sAsg f gt env) QS := wp_bind (wp_mono h fun ⟨_, _⟩ q => wp_bind (wp_mono q fun _ q => wp_ok q))
theorem wp_gN (hi : i < env.length) (q : QE (env.set i (some t))) : wp (gN i t env) QE := by unfold gN; rw [if_pos hi]; exact wp_ok q
theorem wp_gT {n : Nat} {ts : List T} (hl : ts.length = n) (h : wp (gs ts env) QE) : wp (gT n gs (.tup ts) env) QE := by
  show wp (if ts.length = n then gs ts env else stk) QE
  rw [if_pos hl]
  exact h
theorem wp_gsN (q : QE env) : wp (gsN [] env) QE := wp_ok q
theorem wp_gsC {ts : List T} (h : wp (gt t env) fun e => wp (gs ts e) QE) : wp (gsC gt gs (t :: ts) env) QE := wp_bind h
theorem wp_sPar (h : wp (af env) fun p => ∃ x y, p.1 = [.tmp x, .tmp y] ∧ i < p.2.length ∧ j < p.2.length ∧ QS (.nx, (p.2.set i (some x)).set j (some y))) : wp (sPar af i j env) QS := wp_bind (wp_mono h fun ⟨bs, e1⟩ ⟨x, y, e, h1, h2, q⟩ => by
  have e : bs = [.tmp x, .tmp y] := e
  subst e
  show wp (if i < e1.length ∧ j < e1.length then _ else _) QS
  rw [if_pos ⟨h1, h2⟩]
  exact wp_ok q)
theorem wp_sPar3 {l : Nat} (h : wp (af env) fun p => ∃ x y z, p.1 = [.tmp x, .tmp y, .tmp z] ∧ i < p.2.length ∧ j < p.2.length ∧ l < p.2.length ∧ QS (.nx, ((p.2.set i (some x)).set j (some y)).set l (some z))) : wp (sPar3 af i j l env) QS := wp_bind (wp_mono h fun ⟨bs, e1⟩ ⟨x, y, z, e, h1, h2, h3, q⟩ => by
  have e : bs = [.tmp x, .tmp y, .tmp z] := e
  subst e
  show wp (if i < e1.length ∧ j < e1.length ∧ l < e1.length then _ else _) QS
  rw [if_pos ⟨h1, h2, h3⟩]
  exact wp_ok q)
theorem wp_sAug {a b : Int} (e : env[i]? = some (some (.int a))) (h : wp (f env) fun p => p.1 = .int b ∧ QS (.nx, p.2.set i (some (.int (a + b))))) : wp (sAug i f env) QS := by
  refine wp_bind (wp_of (b := a) (by unfold T.at; rw [e]; rfl) (wp_bind (wp_mono h fun ⟨y, _⟩ ⟨e2, q⟩ => ?_)))
  have e2 : y = .int b := e2
  subst e2
  exact wp_bind (wp_ok (wp_ok q))
theorem wp_sSetIx (h : wp (f env) fun p => wp (g p.2) fun r => ∃ jj n xs, r.1 = .int jj ∧ (T.at p.2 i).getD .non = .lst true xs ∧ r.2[i]? = some (some (.lst true xs)) ∧ T.owl xs = false ∧ p.1.ow = false ∧ ixN xs.length jj = some n ∧ QS (.nx, r.2.set i (some (.lst true (xs.set n p.1))))) : wp (sSetIx i f g env) QS := by
  refine wp_bind (wp_mono h fun ⟨x, e1⟩ h1 => wp_bind (wp_mono h1 fun ⟨y, e2⟩ ⟨jj, n, xs, r1, r2, r3, r4, r5, r6, q⟩ => ?_))
  have r1 : y = .int jj := r1
  subst r1
  refine wp_bind (wp_ok ?_)
  have r3' : T.at e2 i = some (.lst true xs) := by unfold T.at; rw [r3]; rfl
  have r2' : (T.at e1 i).getD .non = .lst true xs := r2
  have r5' : x.ow = false := r5
  simp only [r3']
  refine wp_bind (wp_ck (by rw [r2', r4, r5']; rfl) ?_)
  simp only [r6]
  exact wp_ok q
theorem wp_eMut {sh : T → Bool} {m : T → List T → R (T × T)} (h0 : (match T.at env i with | some t => sh t | none => false) = true) (h : wp (af env) fun p => ∃ ts t, tmps p.1 = .ok ts ∧ p.2[i]? = some (some t) ∧ wp (m t ts) fun r => Q (r.2, p.2.set i (some r.1))) : wp (eMut i sh m af env) Q := by
  refine wp_bind (wp_ck h0 (wp_bind (wp_mono h fun ⟨bs, e1⟩ ⟨ts, t, r1, r2, q⟩ => wp_bind ⟨ts, r1, ?_⟩)))
  have r2 : e1[i]? = some (some t) := r2
  simp only [r2]
  exact wp_bind (wp_mono q fun ⟨_, _⟩ q => wp_ok q)
/-- operands as arguments of a def -/
inductive Arg : En → List Bop → List T → Bool → Prop
  | nil {env : En} : Arg env [] [] false
  | tmp {env : En} {t : T} {bs : List Bop} {ts : List T} {b : Bool} : t.ow = false → Arg env bs ts b → Arg env (.tmp t :: bs) (t :: ts) b
  | tmpO {env : En} {t : T} {bs : List Bop} {ts : List T} {b : Bool} : t.ow = true → t.nob = true → Arg env bs ts b → Arg env (.tmp t :: bs) (t.fz :: ts) b
  | br {env : En} {t : T} {i : Nat} {bs : List Bop} {ts : List T} {b : Bool} : t.ow = false → Arg env bs ts b → Arg env (.br t i :: bs) (t :: ts) b
  | bo {env : En} {t : T} {i : Nat} {bs : List Bop} {ts : List T} {b : Bool} : t.ow = true → t.nob = true → Arg env bs ts b → Arg env (.br t i :: bs) (t.fz :: ts) true
  | io {env : En} {t : T} {i : Nat} {bs : List Bop} {ts : List T} {b : Bool} : env[i]? = some (some t) → Arg env bs ts b → Arg env (.io i :: bs) (t :: ts) b
theorem Arg.ok {bs : List Bop} {ts : List T} {b : Bool} (h : Arg env bs ts b) : argsT env bs = .ok ts ∧ bs.any Bop.bo = b := by
  induction h with
  | nil => exact ⟨rfl, rfl⟩
  | tmp h _ ih => exact ⟨by simp [argsT, argT, h, ih.1, ck]; rfl, by rw [List.any_cons, ih.2]; rfl⟩
  | tmpO h hn _ ih => exact ⟨by simp [argsT, argT, h, hn, ih.1, ck]; rfl, by rw [List.any_cons, ih.2]; rfl⟩
  | br h _ ih => exact ⟨by simp [argsT, argT, h, ih.1, ck]; rfl, by rw [List.any_cons, ih.2]; simp [Bop.bo, h]⟩
  | bo h hn _ ih => exact ⟨by simp [argsT, argT, h, hn, ih.1, ck]; rfl, by rw [List.any_cons]; simp [Bop.bo, h]⟩
  | io h _ ih => exact ⟨by simp [argsT, argT, h, ih.1]; rfl, by rw [List.any_cons, ih.2]; rfl⟩
theorem wp_call0 {gf : Fn} (h : wp (af env) fun p => ∃ ts b, Arg p.2 p.1 ts b ∧ ioFind p.1 0 = none ∧ wp (gf ts) fun r => (b = true → r.1.nfz = true) ∧ r.2 = none ∧ Q (r.1, p.2)) : wp (eCall none none gf af env) Q := by
  refine wp_bind (wp_mono h fun ⟨bs, e1⟩ ⟨ts, b, ha, hio, q⟩ => ?_)
  obtain ⟨h1, h2⟩ := ha.ok
  have hio : ioFind bs 0 = none := hio
  refine wp_bind (wp_ck (by rw [hio]; rfl) (wp_bind ⟨ts, h1, wp_bind (wp_ck (by unfold ioOk; rw [hio]) (wp_bind (wp_mono q fun ⟨t, out⟩ ⟨q1, q2, q3⟩ => wp_bind (wp_ck ?_ ?_))))⟩))
  · have q2 : out = none := q2
    subst q2
    rw [h2]
    cases b with
    | false => rfl
    | true => simp [show t.nfz = true from q1 rfl]
  · have q2 : out = none := q2
    subst q2
    simp only [hio]
    exact wp_ok q3
theorem wp_call1 {gf : Fn} {k : Nat} (h : wp (af env) fun p => ∃ ts b, Arg p.2 p.1 ts b ∧ ioFind p.1 0 = some (k, i) ∧ ioCount p.1 = 1 ∧ brOk i p.1 = true ∧ wp (gf ts) fun r => (b = true → r.1.nfz = true ∧ ∀ u, r.2 = some u → u.nfz = true) ∧ ∃ u, r.2 = some u ∧ Q (r.1, p.2.set i (some u))) : wp (eCall (some k) (some i) gf af env) Q := by
  refine wp_bind (wp_mono h fun ⟨bs, e1⟩ ⟨ts, b, ha, hio, hc, hb, q⟩ => ?_)
  obtain ⟨h1, h2⟩ := ha.ok
  have hio : ioFind bs 0 = some (k, i) := hio
  have hc : ioCount bs = 1 := hc
  refine wp_bind (wp_ck (by rw [hio]; simp) (wp_bind ⟨ts, h1, wp_bind (wp_ck (by unfold ioOk; rw [hio]; simp [hc]) (wp_bind (wp_mono q fun ⟨t, out⟩ ⟨q1, u, q2, q3⟩ => wp_bind (wp_ck ?_ ?_))))⟩))
  · have q2 : out = some u := q2
    subst q2
    rw [h2]
    cases b with
    | false => rfl
    | true => simp [show t.nfz = true from (q1 rfl).1, (q1 rfl).2 u rfl]
  · have q2 : out = some u := q2
    subst q2
    simp only [hio]
    exact wp_bind (wp_ck hb (wp_ok q3))
theorem wp_fnN {m n : Nat} {body : SM} {ts : List T} {QF : T × Option T → Prop} (hl : ts.length = m) (h : wp (body (ts.map some ++ List.replicate (n - ts.length) none)) fun p => ∃ t, retOf p.1 = .ok t ∧ QF (t, none)) : wp (fnN m n none body ts) QF :=
  wp_bind (wp_ck (decide_eq_true hl) (wp_bind (wp_mono h fun ⟨_, _⟩ ⟨t, e, q⟩ => wp_bind ⟨t, e, wp_ok q⟩)))
theorem wp_fnN1 {m n k : Nat} {body : SM} {ts : List T} {QF : T × Option T → Prop} (hl : ts.length = m) (h : wp (body (ts.map some ++ List.replicate (n - ts.length) none)) fun p => ∃ t u, retOf p.1 = .ok t ∧ p.2[k]? = some (some u) ∧ QF (t, some u)) : wp (fnN m n (some k) body ts) QF := by
  refine wp_bind (wp_ck (decide_eq_true hl) (wp_bind (wp_mono h fun ⟨_, e1⟩ ⟨t, u, e, e2, q⟩ => wp_bind ⟨t, e, ?_⟩)))
  have e2 : e1[k]? = some (some u) := e2
  simp only [e2]
  exact wp_ok q
theorem wp_src {w : List T → R (List T)} {QI : List T × En → Prop} (h : wp (af env) fun p => ∃ ts, srcT p.1 p.2 = .ok ts ∧ wp (w ts) fun xs => QI (xs, p.2)) : wp (iRng w af env) QI := wp_bind (wp_mono h fun ⟨_, _⟩ ⟨ts, e, q⟩ => wp_bind ⟨ts, e, wp_bind (wp_mono q fun _ q => wp_ok q)⟩)
theorem wp_seq {QI : List T × En → Prop} (h : wp (aCons bf aNil env) fun p => ∃ ts, srcT p.1 p.2 = .ok ts ∧ wp (seqT ts) fun xs => QI (xs, p.2)) : wp (iSeq bf env) QI := wp_bind (wp_mono h fun ⟨_, _⟩ ⟨ts, e, q⟩ => wp_bind ⟨ts, e, wp_bind (wp_mono q fun _ q => wp_ok q)⟩)
/-- a for by an invariant over what is left -/
theorem wp_forGo {ts : List T} (I : List T → En → Prop) (h0 : I ts env) (hs : ∀ t r e, I (t :: r) e → wp (gt t e) fun e1 => wp (s e1) fun p => match p.1 with
    | .nx => I r p.2
    | .ct => I r p.2
    | .bk => QS (.nx, p.2)
    | .rt u => QS (.rt u, p.2)) (hd : ∀ e, I [] e → QS (.nx, e)) : wp (forGo gt s ts env) QS := by
  induction ts generalizing env with
  | nil => exact wp_ok (hd env h0)
  | cons t r ih =>
    refine wp_bind (wp_mono (hs t r env h0) fun e1 q => wp_bind (wp_mono q fun ⟨fl, e2⟩ q => ?_))
    cases fl with
    | nx => exact ih q
    | ct => exact ih q
    | bk => exact wp_ok q
    | rt u => exact wp_ok q
theorem wp_sFor {src : En → R (List T × En)} (h : wp (src env) fun p => wp (forGo gt s p.1 p.2) QS) : wp (sFor src gt s env) QS := wp_bind (wp_mono h fun ⟨_, _⟩ q => q)
/-- a while by an invariant and a measure -/
theorem wp_while {n : Nat} (I : En → Prop) (μ : En → Nat) (h0 : I env) (hμ : μ env < n) (hs : ∀ e, I e → wp (c e) fun p => if p.1 = true then wp (s p.2) fun r => match r.1 with
    | .nx => I r.2 ∧ μ r.2 < μ e
    | .ct => I r.2 ∧ μ r.2 < μ e
    | .bk => QS (.nx, r.2)
    | .rt u => QS (.rt u, r.2) else QS (.nx, p.2)) : wp (sWhile n c s env) QS := by
  unfold sWhile
  induction n generalizing env with
  | zero => omega
  | succ n ih =>
    refine wp_bind (wp_mono (hs env h0) fun ⟨b, e1⟩ q => ?_)
    cases b with
    | false => exact wp_ok q
    | true =>
      refine wp_bind (wp_mono (show wp (s e1) _ from q) fun ⟨fl, e2⟩ q => ?_)
      cases fl with
      | nx => exact ih q.1 (by have q2 : μ e2 < μ env := q.2; omega)
      | ct => exact ih q.1 (by have q2 : μ e2 < μ env := q.2; omega)
      | bk => exact wp_ok q
      | rt u => exact wp_ok q
/-- a comprehension by an invariant: what is left, what is made -/
theorem wp_lcGo {vs : List Nat} {ts : List T} (I : List T → List T → En → Prop) {QL' : List T × En → Prop} (acc : List T) (h0 : I ts acc env) (hs : ∀ t r a e, I (t :: r) a e → wp (gt t e) fun e1 => wp (c e1) fun p => if p.1 = true then wp (f p.2) fun y => I r (a ++ [y.1]) (wipeE y.2 vs) else I r a (wipeE p.2 vs))
    (hd : ∀ a e, I [] a e → ∃ ys, a = acc ++ ys ∧ QL' (ys, e)) : wp (lcGo gt c f vs ts env) QL' := by
  have key : ∀ ts a env, I ts a env → wp (lcGo gt c f vs ts env) fun p => I [] (a ++ p.1) p.2 := by
    intro ts
    induction ts with
    | nil => intro a env h; exact wp_ok (by rw [List.append_nil]; exact h)
    | cons t r ih =>
      intro a env h
      refine wp_bind (wp_mono (hs t r a env h) fun e1 q => wp_bind (wp_mono q fun ⟨b, e2⟩ q => ?_))
      cases b with
      | false => exact ih a _ q
      | true =>
        refine wp_bind (wp_mono (show wp (f e2) _ from q) fun ⟨y, e3⟩ q => wp_bind (wp_mono (ih _ _ q) fun ⟨ys, e4⟩ q => wp_ok ?_))
        simpa using q
  refine wp_mono (key ts acc env h0) fun ⟨ys, e⟩ q => ?_
  obtain ⟨zs, e1, q'⟩ := hd _ e q
  have e2 := List.append_cancel_left e1
  simp only at e2
  subst e2
  exact q'
theorem wp_eLc {vs : List Nat} {src : En → R (List T × En)} (h : wp (src env) fun p => p.1.length ≤ big ∧ wp (lcGo gt c f vs p.1 (wipeE p.2 vs)) fun r => Q (.lst true r.1, restE p.2 r.2 vs)) : wp (eLc src gt c f vs env) Q := wp_bind (wp_mono h fun ⟨_, _⟩ ⟨hl, q⟩ => wp_bind (wp_ck (decide_eq_true hl) (wp_bind (wp_mono q fun ⟨_, _⟩ q => wp_ok q))))
theorem wp_cYes (q : QT (true, env)) : wp (cYes env) QT := wp_ok q
theorem wp_lcNil {vs : List Nat} {Q' : List T × En → Prop} (q : Q' ([], env)) : wp (lcGo gt c f vs [] env) Q' := wp_ok q
theorem wp_lcCons {vs : List Nat} {t : T} {r : List T} {Q' : List T × En → Prop} (h : wp (gt t env) fun e1 => wp (c e1) fun p => if p.1 = true then wp (f p.2) fun y => wp (lcGo gt c f vs r (wipeE y.2 vs)) fun z => Q' (y.1 :: z.1, z.2) else wp (lcGo gt c f vs r (wipeE p.2 vs)) Q') : wp (lcGo gt c f vs (t :: r) env) Q' := by
  refine wp_bind (wp_mono h fun e1 q => wp_bind (wp_mono q fun ⟨b, e2⟩ q => ?_))
  cases b with
  | false => exact q
  | true => exact wp_bind (wp_mono (show wp (f e2) _ from q) fun ⟨y, e3⟩ q => wp_bind (wp_mono q fun ⟨ys, e4⟩ q => wp_ok q))
theorem wp_eLd {t : T} (e : T.at env i = some t) (ho : t.ow = true) (hn : t.nob = true) (h : wp (f (env.set i (some t.fz))) fun p => p.1.flat = true ∧ Q (p.1, env)) : wp (eLd i f env) Q := by
  unfold eLd
  rw [e]
  simp only [ho]
  exact wp_bind (wp_ck hn (wp_bind (wp_mono h fun ⟨_, _⟩ q => wp_bind (wp_ck q.1 (wp_ok q.2)))))
theorem wp_op {o : List T → R T} (h : wp (af env) fun p => p.1.all Bop.fit = true ∧ wp (o (p.1.map Bop.res)) fun t => (p.1.any Bop.bo = true → t.nfz = true) ∧ Q (t, p.2)) : wp (eOp o af env) Q := by
  refine wp_bind (wp_mono h fun ⟨bs, env1⟩ ⟨h1, q⟩ => wp_bind ?_)
  unfold opApp
  refine wp_bind (wp_ck h1 (wp_bind (wp_mono q fun t q => wp_bind (wp_ck ?_ (wp_ok (wp_ok q.2))))))
  cases hb : bs.any Bop.bo with
  | false => rfl
  | true => simp [q.1 hb]
theorem wp_c0 {gf : Fn} (h : wp (af env) fun p => ioFind p.1 0 = none ∧ ∃ ts, argsT p.2 p.1 = .ok ts ∧ wp (gf ts) fun r => (p.1.any Bop.bo = true → r.1.nfz = true) ∧ r.2 = none ∧ Q (r.1, p.2)) : wp (eCall none none gf af env) Q := by
  refine wp_bind (wp_mono h fun ⟨bs, e1⟩ ⟨hio, ts, h1, q⟩ => ?_)
  have hio : ioFind bs 0 = none := hio
  refine wp_bind (wp_ck (by rw [hio]; rfl) (wp_bind ⟨ts, h1, wp_bind (wp_ck (by unfold ioOk; rw [hio]) (wp_bind (wp_mono q fun ⟨t, out⟩ ⟨q1, q2, q3⟩ => wp_bind (wp_ck ?_ ?_))))⟩))
  · have q2 : out = none := q2
    subst q2
    cases hb : bs.any Bop.bo with
    | false => rfl
    | true => simp [show t.nfz = true from q1 hb]
  · have q2 : out = none := q2
    subst q2
    simp only [hio]
    exact wp_ok q3
theorem wp_c1 {gf : Fn} {k : Nat} (h : wp (af env) fun p => ioFind p.1 0 = some (k, i) ∧ ioCount p.1 = 1 ∧ brOk i p.1 = true ∧ ∃ ts, argsT p.2 p.1 = .ok ts ∧ wp (gf ts) fun r => (p.1.any Bop.bo = true → r.1.nfz = true ∧ ∀ u, r.2 = some u → u.nfz = true) ∧ ∃ u, r.2 = some u ∧ Q (r.1, p.2.set i (some u))) : wp (eCall (some k) (some i) gf af env) Q := by
  refine wp_bind (wp_mono h fun ⟨bs, e1⟩ ⟨hio, hc, hb, ts, h1, q⟩ => ?_)
  have hio : ioFind bs 0 = some (k, i) := hio
  have hc : ioCount bs = 1 := hc
  refine wp_bind (wp_ck (by rw [hio]; simp) (wp_bind ⟨ts, h1, wp_bind (wp_ck (by unfold ioOk; rw [hio]; simp [hc]) (wp_bind (wp_mono q fun ⟨t, out⟩ ⟨q1, u, q2, q3⟩ => wp_bind (wp_ck ?_ ?_))))⟩))
  · have q2 : out = some u := q2
    subst q2
    cases hb : bs.any Bop.bo with
    | false => rfl
    | true => simp [show t.nfz = true from (q1 hb).1, (q1 hb).2 u rfl]
  · have q2 : out = some u := q2
    subst q2
    simp only [hio]
    exact wp_bind (wp_ck hb (wp_ok q3))
end
end QL
namespace QL
open PySem L2

section
variable {α β : Type} {x : R α} {Q : α → Prop} {env : En}
theorem zzaa {a : α} : wp (Except.ok a : R α) Q = Q a := propext ⟨fun z => (by obtain ⟨_, e, q⟩ := z; cases e; exact q), wp_ok⟩
theorem we_pure {a : α} : wp (pure a : R α) Q = Q a := zzaa
theorem zzab {f : α → R β} {P : β → Prop} : wp (x >>= f) P = wp x fun a => wp (f a) P := propext ⟨fun ⟨b, e, q⟩ => by
  obtain ⟨a, e1, e2⟩ := bind_ok e
  exact ⟨a, e1, b, e2, q⟩, wp_bind⟩
theorem zzac : wp (stk : R α) Q = False := propext ⟨fun z => (by obtain ⟨_, e, _⟩ := z; cases e), False.elim⟩
theorem zzad {b : Bool} {Q : Unit → Prop} : wp (ck b) Q = (b = true ∧ Q ()) := propext ⟨fun z => (let ⟨_, e, q⟩ := z; ⟨ck_ok e, q⟩), fun z => wp_ck z.1 z.2⟩
theorem wp_congr {x y : R α} {Q : α → Prop} (h : x = y) : wp x Q = wp y Q := by rw [h]
theorem zzae {c : Prop} [Decidable c] {x y : R α} : wp (if c then x else y) Q = if c then wp x Q else wp y Q := by split <;> rfl
/-- an option that must be there -/
def opt (o : Option α) (k : α → Prop) : Prop := match o with
  | some a => k a
  | none => False
theorem zzaf {a : α} {k : α → Prop} : opt (some a) k = k a := rfl
theorem zzag {k : α → Prop} : opt none k = False := rfl
theorem opt_congr {x y : Option α} {k : α → Prop} (h : x = y) : opt x k = opt y k := by rw [h]
def look (env : En) (i : Nat) : Option T := env[i]?.join
theorem zzah {t : Option T} {e : En} : look (t :: e) 0 = t := by cases t <;> rfl
theorem zzai {t : Option T} {e : En} {n : Nat} : look (t :: e) (n + 1) = look e n := rfl
theorem look_eq {i : Nat} {k : T → Prop} : opt (look env i) k ↔ ∃ t, env[i]? = some (some t) ∧ k t := by
  unfold look opt
  cases e : env[i]? with
  | none => simp
  | some o => cases o <;> simp
end
section
variable {env e : En} {i j : Nat} {f g h : EM} {bf : BM} {af : AM} {c d : BT} {s s' : SM} {gt : T → En → R En} {gs : List T → En → R En} {t : T} {b : Bool} {bs : List Bop} {bo : Bop} {ts : List T}
variable {Q : T × En → Prop} {QB : Bop × En → Prop} {QA : List Bop × En → Prop} {QT : Bool × En → Prop} {QS : Fl × En → Prop} {QE : En → Prop} {QI : List T × En → Prop}
theorem match_look {α : Type} {k : T → R α} {P : α → Prop} {o : Option (Option T)} : wp (match o with
  | some (some t) => k t
  | _ => stk) P = opt o.join fun t => wp (k t) P := by
  cases o with
  | none => exact zzac
  | some o => cases o with
    | none => exact zzac
    | some t => rfl
def kB (QB : Bop × En → Prop) : T × En → Prop := fun p => QB (.tmp p.1, p.2)
theorem zzfe : kB QB (t, e) = QB (.tmp t, e) := rfl
theorem zzaj : wp (bE f env) QB = wp (f env) (kB QB) := zzab.trans (by congr 1; funext p; exact zzaa)
theorem zzak : wp (bV i env) QB = opt (look env i) fun t => QB (.br t i, env) := match_look.trans (by congr 1; funext t; exact zzaa)
theorem zzal : wp (bIo i env) QB = opt (look env i) fun _ => QB (.io i, env) := by
  refine propext ⟨fun ⟨b, e, q⟩ => ?_, fun z => ?_⟩
  · unfold bIo at e
    split at e
    · rename_i t ht
      cases e
      exact look_eq.mpr ⟨t, ht, q⟩
    · cases e
  · obtain ⟨t, ht, q⟩ := look_eq.mp z
    exact ⟨_, by unfold bIo; rw [ht], q⟩
def kI (QB : Bop × En → Prop) : Bop × En → Prop := fun p => p.1.isI.isSome = true ∧ QB p
theorem zzff : kI QB (bo, e) = (bo.isI.isSome = true ∧ QB (bo, e)) := rfl
theorem zzam : wp (bI bf env) QB = wp (bf env) (kI QB) := zzab.trans (by congr 1; funext p; exact zzab.trans (zzad.trans (by rw [zzaa]; rfl)))
theorem zzan : wp (aNil env) QA = QA ([], env) := zzaa
def kA (af : AM) (QA : List Bop × En → Prop) : Bop × En → Prop := fun p => wp (af p.2) fun r => QA (p.1 :: r.1, r.2)
def kA2 (b : Bop) (QA : List Bop × En → Prop) : List Bop × En → Prop := fun r => QA (b :: r.1, r.2)
theorem zzfg : kA af QA (bo, e) = wp (af e) (kA2 bo QA) := rfl
theorem zzfh : kA2 bo QA (bs, e) = QA (bo :: bs, e) := rfl
theorem zzao : wp (aCons bf af env) QA = wp (bf env) (kA af QA) := zzab.trans (by congr 1; funext p; exact zzab.trans (by show _ = wp _ _; congr 1; funext r; exact zzaa))
theorem zzap : wp (eC t env) Q = Q (t, env) := zzaa
theorem zzaq : wp (eVar i env) Q = opt (look env i) fun t => t.ow = false ∧ Q (t, env) := match_look.trans (by
  congr 1; funext t; rw [zzab, zzad, zzaa]; cases t.ow <;> simp)
theorem zzar : wp (eMv i env) Q = opt (look env i) fun t => Q (t, env.set i none) := match_look.trans (by congr 1; funext t; exact zzaa)
theorem zzas : wp (eFz i env) Q = opt (look env i) fun t => t.nob = true ∧ Q (t.fz, env.set i (some t.fz)) := match_look.trans (by congr 1; funext t; rw [zzab, zzad, zzaa])
theorem zzat : wp (eAl i env) Q = opt (look env i) fun t => if t.ow = true then (t.nob = true ∧ Q (t.fz, env.set i (some t.fz))) else Q (t, env) := match_look.trans (by
  unfold look opt
  cases e : env[i]? with
  | none => rfl
  | some o => cases o with
    | none => rfl
    | some t =>
      show wp (if t.ow = true then eFz i env else _) Q = _
      rw [zzae, zzas]
      unfold look
      rw [e]
      rw [zzaa]
      rfl)
def kOp (o : List T → R T) (Q : T × En → Prop) : List Bop × En → Prop := fun p => p.1.all Bop.fit = true ∧ wp (o (p.1.map Bop.res)) fun t => (p.1.any Bop.bo = true → t.nfz = true) ∧ Q (t, p.2)
def kOp2 (bs : List Bop) (e : En) (Q : T × En → Prop) : T → Prop := fun t => (bs.any Bop.bo = true → t.nfz = true) ∧ Q (t, e)
theorem zzfi {o : List T → R T} : kOp o Q (bs, e) = (bs.all Bop.fit = true ∧ wp (o (bs.map Bop.res)) (kOp2 bs e Q)) := rfl
theorem zzfj : kOp2 bs e Q t = ((bs.any Bop.bo = true → t.nfz = true) ∧ Q (t, e)) := rfl
theorem zzau {o : List T → R T} : wp (eOp o af env) Q = wp (af env) (kOp o Q) := zzab.trans (by
  congr 1; funext p
  rw [zzab]; unfold opApp; rw [zzab, zzad, zzab]
  show _ = (_ ∧ _)
  congr 2; funext t
  rw [zzab, zzad, zzaa, zzaa]
  cases p.1.any Bop.bo <;> simp)
def kDs (m : List T → T) (e : En) (Q : T × En → Prop) : List T → Prop := fun ts => ts.length ≤ big ∧ Q (m ts, e)
theorem zzfk {m : List T → T} : kDs m e Q ts = (ts.length ≤ big ∧ Q (m ts, e)) := rfl
def kD (m : List T → T) (Q : T × En → Prop) : List Bop × En → Prop := fun p => wp (tmps p.1) (kDs m p.2 Q)
theorem zzfl {m : List T → T} : kD m Q (bs, e) = wp (tmps bs) (kDs m e Q) := rfl
theorem zzav : wp (eTup af env) Q = wp (af env) (kD .tup Q) := zzab.trans (by
  congr 1; funext p; rw [zzab]; show _ = wp _ _; congr 1; funext ts; rw [zzab, zzad, zzaa]; simp [kDs])
theorem zzaw : wp (eLst af env) Q = wp (af env) (kD (.lst true) Q) := zzab.trans (by
  congr 1; funext p; rw [zzab]; show _ = wp _ _; congr 1; funext ts; rw [zzab, zzad, zzaa]; simp [kDs])
def kIf {β : Type} (x y : En → R β) (Q : β → Prop) : Bool × En → Prop := fun p => if p.1 = true then wp (x p.2) Q else wp (y p.2) Q
theorem zzfm {β : Type} {x y : En → R β} {Q : β → Prop} : kIf x y Q (b, e) = if b = true then wp (x e) Q else wp (y e) Q := rfl
theorem zzax : wp (eIf c f g env) Q = wp (c env) (kIf f g Q) := zzab.trans (by congr 1; funext p; exact zzae)
theorem w_toB {t : T} {QQ : Bool → Prop} : wp (toB t) QQ = ∃ b, t = .bl b ∧ QQ b := by
  cases t <;> first | (refine propext ⟨fun z => ?_, fun ⟨b, e, q⟩ => by cases e; exact wp_ok q⟩; exact ⟨_, rfl, zzaa.mp z⟩) | (refine propext ⟨fun z => (zzac.mp z).elim, fun ⟨b, e, q⟩ => by cases e⟩)
theorem zzay {b : Bool} {QQ : Bool → Prop} : wp (toB (.bl b)) QQ = QQ b := zzaa
theorem zzaz {b : Int} {QQ : Int → Prop} : wp (toI (.int b)) QQ = QQ b := zzaa
def kTB (k : Bool → En → Prop) : T × En → Prop := fun p => wp (toB p.1) fun b => k b p.2
theorem zzfn {k : Bool → En → Prop} : kTB k (.bl b, e) = k b e := by show wp (toB (.bl b)) (fun b => k b e) = _; exact zzay
def kAnd (g : EM) (Q : T × En → Prop) : Bool → En → Prop := fun b e => if b = true then wp (g e) Q else Q (.bl false, e)
theorem zzfo : kAnd g Q b e = if b = true then wp (g e) Q else Q (.bl false, e) := rfl
def kOr (g : EM) (Q : T × En → Prop) : Bool → En → Prop := fun b e => if b = true then Q (.bl true, e) else wp (g e) Q
theorem zzfp : kOr g Q b e = if b = true then Q (.bl true, e) else wp (g e) Q := rfl
def kNot (Q : T × En → Prop) : Bool → En → Prop := fun b e => Q (.bl (!b), e)
theorem zzfq : kNot Q b e = Q (.bl (!b), e) := rfl
def kV (QT : Bool × En → Prop) : Bool → En → Prop := fun b e => QT (b, e)
theorem zzfr : kV QT b e = QT (b, e) := rfl
theorem zzba : wp (eAnd f g env) Q = wp (f env) (kTB (kAnd g Q)) := zzab.trans (by congr 1; funext p; rw [zzab]; show _ = wp _ _; congr 1; funext b; rw [zzae, zzaa]; rfl)
theorem zzbb : wp (eOr f g env) Q = wp (f env) (kTB (kOr g Q)) := zzab.trans (by congr 1; funext p; rw [zzab]; show _ = wp _ _; congr 1; funext b; rw [zzae, zzaa]; rfl)
theorem zzbc : wp (eNot f env) Q = wp (f env) (kTB (kNot Q)) := zzab.trans (by congr 1; funext p; rw [zzab]; show _ = wp _ _; congr 1; funext b; rw [zzaa]; rfl)
theorem zzbe : wp (tV f env) QT = wp (f env) (kTB (kV QT)) := zzab.trans (by congr 1; funext p; rw [zzab]; show _ = wp _ _; congr 1; funext b; rw [zzaa]; rfl)
def kCh3 (q : Int → Int → Bool) (j : Int) (Q : T × En → Prop) : T × En → Prop := fun z => wp (toI z.1) fun l => Q (.bl (q j l), z.2)
theorem zzfs {q : Int → Int → Bool} {j l : Int} : kCh3 q j Q (.int l, e) = Q (.bl (q j l), e) := by show wp (toI (.int l)) (fun l => Q (.bl (q j l), e)) = _; exact zzaz
def kCh2 (p q : Int → Int → Bool) (x : T) (h : EM) (Q : T × En → Prop) : T × En → Prop := fun y => wp (toI x) fun i => wp (toI y.1) fun j => if p i j = true then wp (h y.2) (kCh3 q j Q) else Q (.bl false, y.2)
theorem zzft {p q : Int → Int → Bool} {i j : Int} : kCh2 p q (.int i) h Q (.int j, e) = if p i j = true then wp (h e) (kCh3 q j Q) else Q (.bl false, e) := by
  show wp (toI (.int i)) _ = _; rw [zzaz, zzaz]
def kCh1 (p q : Int → Int → Bool) (g h : EM) (Q : T × En → Prop) : T × En → Prop := fun x => wp (g x.2) (kCh2 p q x.1 h Q)
theorem zzfu {p q : Int → Int → Bool} : kCh1 p q g h Q (t, e) = wp (g e) (kCh2 p q t h Q) := rfl
theorem zzbd {p q : Int → Int → Bool} : wp (eChain p q f g h env) Q = wp (f env) (kCh1 p q g h Q) := zzab.trans (by
  congr 1; funext x; rw [zzab]; show _ = wp _ _; congr 1; funext y; rw [zzab]; show _ = wp _ _; congr 1; funext i; rw [zzab]; congr 1; funext j
  rw [zzae, zzaa, zzab]; congr 2; funext z; rw [zzab]; show _ = wp _ _; congr 1; funext l; rw [zzaa])
def kTO (d : BT) (QT : Bool × En → Prop) : Bool × En → Prop := fun p => if p.1 = true then QT (true, p.2) else wp (d p.2) QT
theorem zzfv : kTO d QT (b, e) = if b = true then QT (true, e) else wp (d e) QT := rfl
def kTA (d : BT) (QT : Bool × En → Prop) : Bool × En → Prop := fun p => if p.1 = true then wp (d p.2) QT else QT (false, p.2)
theorem zzfw : kTA d QT (b, e) = if b = true then wp (d e) QT else QT (false, e) := rfl
def kTN (QT : Bool × En → Prop) : Bool × En → Prop := fun p => QT (!p.1, p.2)
theorem zzfx : kTN QT (b, e) = QT (!b, e) := rfl
theorem zzbf : wp (tAndS c d env) QT = wp (c env) (kTA d QT) := zzab.trans (by congr 1; funext p; rw [zzae, zzaa]; rfl)
theorem zzbg : wp (tOrS c d env) QT = wp (c env) (kTO d QT) := zzab.trans (by congr 1; funext p; rw [zzae, zzaa]; rfl)
theorem zzbh : wp (tNotS c env) QT = wp (c env) (kTN QT) := zzab.trans (by congr 1; funext p; rw [zzaa]; rfl)
theorem zzbi : wp (sNil env) QS = QS (.nx, env) := zzaa
theorem zzbj : wp (sBreak env) QS = QS (.bk, env) := zzaa
theorem zzbk : wp (sCont env) QS = QS (.ct, env) := zzaa
def kSeq (s' : SM) (QS : Fl × En → Prop) : Fl × En → Prop := fun p => match p.1 with
  | .nx => wp (s' p.2) QS
  | fl => QS (fl, p.2)
theorem zzfy : kSeq s' QS (.nx, e) = wp (s' e) QS := rfl
theorem zzfz : kSeq s' QS (.bk, e) = QS (.bk, e) := rfl
theorem zzga : kSeq s' QS (.ct, e) = QS (.ct, e) := rfl
theorem zzgb : kSeq s' QS (.rt t, e) = QS (.rt t, e) := rfl
theorem zzbl : wp (sSeq s s' env) QS = wp (s env) (kSeq s' QS) := zzab.trans (by congr 1; funext ⟨fl, e⟩; cases fl <;> first | rfl | exact zzaa)
theorem zzbm : wp (sIf c s s' env) QS = wp (c env) (kIf s s' QS) := zzab.trans (by congr 1; funext p; exact zzae)
def kDr (QS : Fl × En → Prop) : T × En → Prop := fun p => QS (.nx, p.2)
theorem zzgc : kDr QS (t, e) = QS (.nx, e) := rfl
theorem zzbn : wp (sDrop f env) QS = wp (f env) (kDr QS) := zzab.trans (by congr 1; funext p; exact zzaa)
def kRt (QS : Fl × En → Prop) : T × En → Prop := fun p => QS (.rt p.1, p.2)
theorem zzgd : kRt QS (t, e) = QS (.rt t, e) := rfl
theorem zzbo : wp (sRet f env) QS = wp (f env) (kRt QS) := zzab.trans (by congr 1; funext p; exact zzaa)
theorem zzbp : wp (sRetN env) QS = QS (.rt .non, env) := zzaa
def kNx (QS : Fl × En → Prop) : En → Prop := fun e => QS (.nx, e)
theorem zzge : kNx QS e = QS (.nx, e) := rfl
def kAs (gt : T → En → R En) (QS : Fl × En → Prop) : T × En → Prop := fun p => wp (gt p.1 p.2) (kNx QS)
theorem zzgf : kAs gt QS (t, e) = wp (gt t e) (kNx QS) := rfl
theorem zzbq : wp (sAsg f gt env) QS = wp (f env) (kAs gt QS) := zzab.trans (by congr 1; funext p; rw [zzab]; show _ = wp _ _; congr 1; funext e; exact zzaa)
theorem zzbr {t : T} : wp (gN i t env) QE = (i < env.length ∧ QE (env.set i (some t))) := by
  unfold gN; rw [zzae, zzaa, zzac]; refine propext ?_; split <;> simp [*]
theorem zzbs {n : Nat} {ts : List T} : wp (gT n gs (.tup ts) env) QE = (ts.length = n ∧ wp (gs ts env) QE) := by
  show wp (if ts.length = n then gs ts env else stk) QE = _; rw [zzae, zzac]; refine propext ?_; split <;> simp [*]
theorem zzbt : wp (gsN [] env) QE = QE env := zzaa
def kG (gs : List T → En → R En) (ts : List T) (QE : En → Prop) : En → Prop := fun e => wp (gs ts e) QE
theorem zzgg : kG gs ts QE e = wp (gs ts e) QE := rfl
theorem zzbu {t : T} {ts : List T} : wp (gsC gt gs (t :: ts) env) QE = wp (gt t env) (kG gs ts QE) := zzab
def kP2 (i j : Nat) (QS : Fl × En → Prop) : List Bop × En → Prop := fun p => opt (two p.1) fun xy => i < p.2.length ∧ j < p.2.length ∧ QS (.nx, (p.2.set i (some xy.1)).set j (some xy.2))
theorem zzgh {x y : T} : kP2 i j QS ([.tmp x, .tmp y], e) = (i < e.length ∧ j < e.length ∧ QS (.nx, (e.set i (some x)).set j (some y))) := rfl
theorem zzbv : wp (sPar af i j env) QS = wp (af env) (kP2 i j QS) := zzab.trans (by
  congr 1; funext p
  show _ = opt _ _
  cases e : two p.1 with
  | none => rw [zzag]; exact (by simp only [e]; exact zzac)
  | some xy =>
    obtain ⟨x, y⟩ := xy
    rw [zzaf]
    simp only [e]
    rw [zzae, zzaa, zzac]; by_cases h1 : i < p.2.length <;> by_cases h2 : j < p.2.length <;> simp [h1, h2])
def kP3 (i j l : Nat) (QS : Fl × En → Prop) : List Bop × En → Prop := fun p => opt (three p.1) fun xy => i < p.2.length ∧ j < p.2.length ∧ l < p.2.length ∧ QS (.nx, ((p.2.set i (some xy.1)).set j (some xy.2.1)).set l (some xy.2.2))
theorem zzgi {l : Nat} {x y z : T} : kP3 i j l QS ([.tmp x, .tmp y, .tmp z], e) = (i < e.length ∧ j < e.length ∧ l < e.length ∧ QS (.nx, ((e.set i (some x)).set j (some y)).set l (some z))) := rfl
theorem zzbw {l : Nat} : wp (sPar3 af i j l env) QS = wp (af env) (kP3 i j l QS) := zzab.trans (by
  congr 1; funext p
  show _ = opt _ _
  cases e : three p.1 with
  | none => rw [zzag]; exact (by simp only [e]; exact zzac)
  | some xy =>
    obtain ⟨x, y, z⟩ := xy
    rw [zzaf]
    simp only [e]
    rw [zzae, zzaa, zzac]; by_cases h1 : i < p.2.length <;> by_cases h2 : j < p.2.length <;> by_cases h3 : l < p.2.length <;> simp [h1, h2, h3])
def kAu2 (i : Nat) (a : Int) (QS : Fl × En → Prop) : T × En → Prop := fun p => wp (toI p.1) fun b => QS (.nx, p.2.set i (some (.int (a + b))))
theorem zzgj {a b : Int} : kAu2 i a QS (.int b, e) = QS (.nx, e.set i (some (.int (a + b)))) := by show wp (toI (.int b)) (fun b => QS (.nx, e.set i (some (.int (a + b))))) = _; exact zzaz
def kAu (i : Nat) (f : EM) (env : En) (QS : Fl × En → Prop) : T → Prop := fun t => wp (toI t) fun a => wp (f env) (kAu2 i a QS)
theorem zzgk {a : Int} : kAu i f env QS (.int a) = wp (f env) (kAu2 i a QS) := by show wp (toI (.int a)) (fun a => wp (f env) (kAu2 i a QS)) = _; exact zzaz
theorem zzbx : wp (sAug i f env) QS = opt (look env i) (kAu i f env QS) := by
  refine zzab.trans ?_
  have e0 : T.at env i = look env i := rfl
  rw [e0]
  cases look env i with
  | none => exact zzac
  | some t =>
    rw [zzaf]
    show wp (toI t) _ = wp (toI t) _
    congr 1; funext a; rw [zzab]; congr 1; funext p; rw [zzab]; show _ = wp _ _; congr 1; funext b; exact zzaa
def kW2 (e : En) (QI : List T × En → Prop) : List T → Prop := fun xs => QI (xs, e)
theorem zzgl : kW2 e QI ts = QI (ts, e) := rfl
def kW1 (w : List T → R (List T)) (e : En) (QI : List T × En → Prop) : List T → Prop := fun ts => wp (w ts) (kW2 e QI)
theorem zzgm {w : List T → R (List T)} : kW1 w e QI ts = wp (w ts) (kW2 e QI) := rfl
def kW (w : List T → R (List T)) (QI : List T × En → Prop) : List Bop × En → Prop := fun p => wp (srcT p.1 p.2) (kW1 w p.2 QI)
theorem zzgn {w : List T → R (List T)} : kW w QI (bs, e) = wp (srcT bs e) (kW1 w e QI) := rfl
theorem zzby {w : List T → R (List T)} : wp (iRng w af env) QI = wp (af env) (kW w QI) := zzab.trans (by
  congr 1; funext p; rw [zzab]; show _ = wp _ _; congr 1; funext ts; rw [zzab]; show _ = wp _ _; congr 1; funext xs; exact zzaa)
def kSq (QI : List T × En → Prop) : Bop × En → Prop := fun p => wp (srcT [p.1] p.2) (kW1 seqT p.2 QI)
theorem zzgo : kSq QI (bo, e) = wp (srcT [bo] e) (kW1 seqT e QI) := rfl
theorem zzbz : wp (iSeq bf env) QI = wp (bf env) (kSq QI) := zzab.trans (by
  rw [zzao]; congr 1; funext p; show wp (aNil p.2) _ = _; rw [zzan]; show wp (srcT [p.1] p.2 >>= fun ts => _) QI = _; rw [zzab]; show _ = wp _ _; congr 1; funext ts; rw [zzab]; show _ = wp _ _; congr 1; funext xs; exact zzaa)
theorem zzca {bs : List Bop} {P : List T → Prop} : wp (srcT bs env) P = (bs.all Bop.still = true ∧ wp (argsT env bs) P) := zzab.trans zzad
theorem zzcb {P : List T → Prop} : wp (argsT env []) P = P [] := zzaa
def kAr2 (t : T) (P : List T → Prop) : List T → Prop := fun ts => P (t :: ts)
theorem zzgp {P : List T → Prop} : kAr2 t P ts = P (t :: ts) := rfl
def kAr (bs : List Bop) (e : En) (P : List T → Prop) : T → Prop := fun t => wp (argsT e bs) (kAr2 t P)
theorem zzgq {P : List T → Prop} : kAr bs e P t = wp (argsT e bs) (kAr2 t P) := rfl
theorem zzcc {b : Bop} {bs : List Bop} {P : List T → Prop} : wp (argsT env (b :: bs)) P = wp (argT env b) (kAr bs env P) := zzab.trans (by congr 1; funext t; rw [zzab]; show _ = wp _ _; congr 1; funext ts; exact zzaa)
theorem zzcd {t : T} {P : T → Prop} : wp (argT env (.tmp t)) P = if t.ow = true then t.nob = true ∧ P t.fz else P t := by
  show wp (ck _ >>= _) P = _; rw [zzab, zzad, zzaa]; cases t.ow <;> simp
theorem zzce {t : T} {P : T → Prop} : wp (argT env (.br t i)) P = if t.ow = true then t.nob = true ∧ P t.fz else P t := by
  show wp (ck _ >>= _) P = _; rw [zzab, zzad, zzaa]; cases t.ow <;> simp
theorem zzcf {P : T → Prop} : wp (argT env (.io i)) P = opt (look env i) P := match_look.trans (by congr 1; funext t; exact zzaa)
theorem zzcg {P : List T → Prop} : wp (tmps []) P = P [] := zzaa
theorem zzch {t : T} {bs : List Bop} {P : List T → Prop} : wp (tmps (.tmp t :: bs)) P = wp (tmps bs) (kAr2 t P) := zzab.trans (by congr 1; funext ts; exact zzaa)
def kC2 (bs : List Bop) (e : En) (Q : T × En → Prop) : T × Option T → Prop := fun r => (bs.any Bop.bo = true → r.1.nfz = true ∧ (∀ u, r.2 = some u → u.nfz = true)) ∧ Q (r.1, e)
theorem zzgr {o : Option T} : kC2 bs e Q (t, o) = ((bs.any Bop.bo = true → t.nfz = true ∧ (∀ u, o = some u → u.nfz = true)) ∧ Q (t, e)) := rfl
def kC1 (gf : Fn) (bs : List Bop) (e : En) (Q : T × En → Prop) : List T → Prop := fun ts => wp (gf ts) (kC2 bs e Q)
theorem zzgs {gf : Fn} : kC1 gf bs e Q ts = wp (gf ts) (kC2 bs e Q) := rfl
def kC (gf : Fn) (Q : T × En → Prop) : List Bop × En → Prop := fun p => ioFind p.1 0 = none ∧ wp (argsT p.2 p.1) (kC1 gf p.1 p.2 Q)
theorem zzgt {gf : Fn} : kC gf Q (bs, e) = (ioFind bs 0 = none ∧ wp (argsT e bs) (kC1 gf bs e Q)) := rfl
theorem zzci {gf : Fn} : wp (eCall none none gf af env) Q = wp (af env) (kC gf Q) := zzab.trans (by
  congr 1; funext ⟨bs, e⟩
  show wp (ck _ >>= fun _ => callApp none gf bs e) Q = (_ ∧ _)
  rw [zzab, zzad]
  cases hf : ioFind bs 0 with
  | some z => simp
  | none =>
    unfold callApp
    simp only [hf, ioOk, Option.map_none, decide_true, true_and]
    rw [zzab]; congr 1; funext ts
    rw [zzab, zzad]
    simp only [true_and]
    rw [zzab]; show _ = wp _ _; congr 1; funext ⟨t, o⟩
    show wp (ck _ >>= fun _ => _) Q = (_ ∧ _)
    rw [zzab, zzad, zzaa]
    cases bs.any Bop.bo <;> cases o <;> simp)
def kM2 (bs : List Bop) (i : Nat) (e : En) (Q : T × En → Prop) : T × Option T → Prop := fun r => (bs.any Bop.bo = true → r.1.nfz = true ∧ (∀ u, r.2 = some u → u.nfz = true)) ∧ opt r.2 fun u => Q (r.1, e.set i (some u))
theorem zzgu {u : T} : kM2 bs i e Q (t, some u) = ((bs.any Bop.bo = true → t.nfz = true ∧ (∀ w, some u = some w → w.nfz = true)) ∧ Q (t, e.set i (some u))) := rfl
def kM1 (gf : Fn) (bs : List Bop) (i : Nat) (e : En) (Q : T × En → Prop) : List T → Prop := fun ts => wp (gf ts) (kM2 bs i e Q)
theorem zzgv {gf : Fn} : kM1 gf bs i e Q ts = wp (gf ts) (kM2 bs i e Q) := rfl
def kM (k i : Nat) (gf : Fn) (Q : T × En → Prop) : List Bop × En → Prop := fun p => ioFind p.1 0 = some (k, i) ∧ ioCount p.1 = 1 ∧ brOk i p.1 = true ∧ wp (argsT p.2 p.1) (kM1 gf p.1 i p.2 Q)
theorem zzgw {k : Nat} {gf : Fn} : kM k i gf Q (bs, e) = (ioFind bs 0 = some (k, i) ∧ ioCount bs = 1 ∧ brOk i bs = true ∧ wp (argsT e bs) (kM1 gf bs i e Q)) := rfl
theorem zzcj {gf : Fn} {k : Nat} : wp (eCall (some k) (some i) gf af env) Q = wp (af env) (kM k i gf Q) := zzab.trans (by
  congr 1; funext ⟨bs, e⟩
  show wp (ck _ >>= fun _ => callApp (some k) gf bs e) Q = (_ ∧ _)
  rw [zzab, zzad]
  cases hf : ioFind bs 0 with
  | none => simp
  | some z =>
    obtain ⟨q, l⟩ := z
    unfold callApp
    simp only [hf, ioOk, Option.map_some, decide_eq_true_eq, Option.some.injEq, Prod.mk.injEq]
    rw [zzab]
    refine propext ⟨?_, ?_⟩
    · rintro ⟨rfl, ts, e1, z⟩
      rw [zzab, zzad] at z
      obtain ⟨z1, z⟩ := z
      simp only [Bool.and_eq_true, decide_eq_true_eq] at z1
      rw [zzab] at z
      obtain ⟨⟨t, o⟩, e2, z⟩ := z
      rw [zzab, zzad] at z
      obtain ⟨z2, z⟩ := z
      cases o with
      | none => exact (zzac.mp z).elim
      | some u =>
        have z : wp (ck (brOk l bs) >>= fun _ => Except.ok (t, e.set l (some u))) Q := z
        rw [zzab, zzad, zzaa] at z
        refine ⟨⟨z1.1.symm, rfl⟩, z1.2, z.1, ts, e1, (t, some u), e2, fun w => ?_, z.2⟩
        rw [w] at z2
        simp at z2
        exact ⟨z2.1, fun u' hu' => by cases hu'; exact z2.2⟩
    · rintro ⟨⟨rfl, rfl⟩, h2, h3, ts, e1, ⟨t, o⟩, e2, h4, h5⟩
      cases o with
      | none => exact (zzag.mp h5).elim
      | some u =>
        refine ⟨rfl, ts, e1, ?_⟩
        show wp (ck (decide (q = q) && decide (ioCount bs = 1)) >>= fun _ => _) Q
        rw [zzab, zzad]
        refine ⟨by simp [h2], ?_⟩
        rw [zzab]
        refine ⟨(t, some u), e2, ?_⟩
        show wp (ck (!bs.any Bop.bo || (t.nfz && u.nfz)) >>= fun _ => _) Q
        rw [zzab, zzad]
        refine ⟨?_, ?_⟩
        · cases w : bs.any Bop.bo with
          | false => rfl
          | true => obtain ⟨a, b⟩ := h4 w; simp [a, b u rfl]
        · show wp (ck (brOk _ bs) >>= fun _ => _) Q
          rw [zzab, zzad, zzaa]
          exact ⟨h3, h5⟩)
def kMu3 (i : Nat) (e : En) (Q : T × En → Prop) : T × T → Prop := fun r => Q (r.2, e.set i (some r.1))
theorem zzgx {u : T} : kMu3 i e Q (t, u) = Q (u, e.set i (some t)) := rfl
def kMu2 (m : T → List T → R (T × T)) (i : Nat) (e : En) (Q : T × En → Prop) : List T → Prop := fun ts => opt (look e i) fun t => wp (m t ts) (kMu3 i e Q)
theorem zzgy {m : T → List T → R (T × T)} : kMu2 m i e Q ts = opt (look e i) fun t => wp (m t ts) (kMu3 i e Q) := rfl
def kMu (m : T → List T → R (T × T)) (i : Nat) (Q : T × En → Prop) : List Bop × En → Prop := fun p => wp (tmps p.1) (kMu2 m i p.2 Q)
theorem zzgz {m : T → List T → R (T × T)} : kMu m i Q (bs, e) = wp (tmps bs) (kMu2 m i e Q) := rfl
theorem zzck {sh : T → Bool} {m : T → List T → R (T × T)} : wp (eMut i sh m af env) Q = opt (look env i) fun t0 => sh t0 = true ∧ wp (af env) (kMu m i Q) := by
  unfold eMut
  rw [zzab, zzad]
  have e0 : T.at env i = look env i := rfl
  rw [e0]
  cases look env i with
  | none => simp [zzag]
  | some t0 =>
    rw [zzaf]
    congr 1
    rw [zzab]; congr 1; funext p
    rw [zzab]; show _ = wp _ _; congr 1; funext ts
    refine match_look.trans ?_; show opt _ _ = opt _ _; congr 1; funext t
    rw [zzab]; congr 1; funext r; exact zzaa
def kFr (gt : T → En → R En) (s : SM) (QS : Fl × En → Prop) : List T × En → Prop := fun p => wp (forGo gt s p.1 p.2) QS
theorem zzha : kFr gt s QS (ts, e) = wp (forGo gt s ts e) QS := rfl
theorem zzcl {src : En → R (List T × En)} : wp (sFor src gt s env) QS = wp (src env) (kFr gt s QS) := zzab
def kLc0 (e : En) (vs : List Nat) (Q : T × En → Prop) : List T × En → Prop := fun r => Q (.lst true r.1, restE e r.2 vs)
theorem zzhb {e' : En} {vs : List Nat} : kLc0 e vs Q (ts, e') = Q (.lst true ts, restE e e' vs) := rfl
def kLc (gt : T → En → R En) (c : BT) (f : EM) (vs : List Nat) (Q : T × En → Prop) : List T × En → Prop := fun p => p.1.length ≤ big ∧ wp (lcGo gt c f vs p.1 (wipeE p.2 vs)) (kLc0 p.2 vs Q)
theorem zzhc {vs : List Nat} : kLc gt c f vs Q (ts, e) = (ts.length ≤ big ∧ wp (lcGo gt c f vs ts (wipeE e vs)) (kLc0 e vs Q)) := rfl
theorem zzcm {vs : List Nat} {src : En → R (List T × En)} : wp (eLc src gt c f vs env) Q = wp (src env) (kLc gt c f vs Q) := zzab.trans (by
  congr 1; funext p; rw [zzab, zzad, zzab]; simp only [decide_eq_true_eq]; show _ = (_ ∧ _); congr 2; funext r; exact zzaa)
theorem zzcn : wp (cYes env) QT = QT (true, env) := zzaa
theorem zzcq {P : T → Prop} : wp (retOf .nx) P = P .non := zzaa
theorem zzcr {t : T} {P : T → Prop} : wp (retOf (.rt t)) P = P t := zzaa
def kF (QF : T × Option T → Prop) : Fl × En → Prop := fun p => wp (retOf p.1) fun t => QF (t, none)
theorem zzhd {QF : T × Option T → Prop} : kF QF (.nx, e) = QF (.non, none) := by show wp (retOf .nx) (fun t => QF (t, none)) = _; exact zzcq
theorem zzhe {QF : T × Option T → Prop} : kF QF (.rt t, e) = QF (t, none) := by show wp (retOf (.rt t)) (fun t => QF (t, none)) = _; exact zzcr
theorem zzco {m n : Nat} {ts : List T} {QF : T × Option T → Prop} : wp (fnN m n none s ts) QF = (ts.length = m ∧ wp (s (ts.map some ++ List.replicate (n - ts.length) none)) (kF QF)) := by
  unfold fnN; rw [zzab, zzad]; simp only [decide_eq_true_eq]; congr 1
  unfold fnOf; rw [zzab]; congr 1; funext p; rw [zzab]; show _ = wp _ _; congr 1; funext t; exact zzaa
def kF1 (k : Nat) (QF : T × Option T → Prop) : Fl × En → Prop := fun p => wp (retOf p.1) fun t => opt (look p.2 k) fun u => QF (t, some u)
theorem zzhf {k : Nat} {QF : T × Option T → Prop} : kF1 k QF (.nx, e) = opt (look e k) fun u => QF (.non, some u) := propext ⟨fun z => (zzaa (Q := fun t => opt (look e k) fun u => QF (t, some u))).mp z, fun z => (zzaa (Q := fun t => opt (look e k) fun u => QF (t, some u))).mpr z⟩
theorem zzhg {k : Nat} {QF : T × Option T → Prop} : kF1 k QF (.rt t, e) = opt (look e k) fun u => QF (t, some u) := propext ⟨fun z => (zzaa (Q := fun t => opt (look e k) fun u => QF (t, some u))).mp z, fun z => (zzaa (Q := fun t => opt (look e k) fun u => QF (t, some u))).mpr z⟩
theorem zzcp {m n k : Nat} {ts : List T} {QF : T × Option T → Prop} : wp (fnN m n (some k) s ts) QF = (ts.length = m ∧ wp (s (ts.map some ++ List.replicate (n - ts.length) none)) (kF1 k QF)) := by
  unfold fnN; rw [zzab, zzad]; simp only [decide_eq_true_eq]; congr 1
  unfold fnOf; rw [zzab]; congr 1; funext p; rw [zzab]; show _ = wp _ _; congr 1; funext t
  refine (match_look (o := p.2[k]?)).trans ?_; show opt _ _ = opt _ _; congr 1; funext u; exact zzaa
end
theorem zzfa {a b : String} : (Str.ofString a = Str.ofString b) = (a = b) := by
  refine propext ⟨fun h => ?_, fun h => h ▸ rfl⟩
  rw [Str.ofString_eq_toList, Str.ofString_eq_toList] at h
  have h := congrArg (fun z : Str => z.cps.toList) h
  have h : a.toList.map Char.toNat = b.toList.map Char.toNat := h
  have inj : ∀ {x y : Char}, x.toNat = y.toNat → x = y := fun {x y} e => Char.ext (UInt32.toNat_inj.mp e)
  have : a.toList = b.toList := by
    generalize a.toList = l at h
    generalize b.toList = m at h
    induction l generalizing m with
    | nil => cases m with
      | nil => rfl
      | cons y m => simp at h
    | cons x l ih => cases m with
      | nil => simp at h
      | cons y m =>
        simp only [List.map_cons, List.cons.injEq] at h
        rw [inj h.1, ih m h.2]
  exact String.toList_inj.mp this
theorem zzfb {a b : String} : (Str.ofString a == Str.ofString b) = decide (a = b) := by
  have : (Str.ofString a == Str.ofString b) = decide (Str.ofString a = Str.ofString b) := by
    rw [Bool.eq_iff_iff]; simp
  rw [this]
  simp only [zzfa]
section
variable {α β : Type} {f : α → T} {xs : List α}
theorem zzek : (xs.any fun _ => false) = false := by induction xs with
  | nil => rfl
  | cons x xs ih => rw [List.any_cons, ih]; rfl
theorem zzel : (xs.all fun _ => true) = true := by induction xs with
  | nil => rfl
  | cons x xs ih => rw [List.all_cons, ih]; rfl
theorem zzec : T.owl (xs.map f) = xs.any fun x => (f x).ow := by induction xs with
  | nil => rfl
  | cons x xs ih => simp only [List.map_cons, T.owl, List.any_cons, ih]
theorem zzed : T.nobl (xs.map f) = xs.all fun x => (f x).nob := by induction xs with
  | nil => rfl
  | cons x xs ih => simp only [List.map_cons, T.nobl, List.all_cons, ih]
theorem zzee : T.nfzl (xs.map f) = xs.all fun x => (f x).nfz := by induction xs with
  | nil => rfl
  | cons x xs ih => simp only [List.map_cons, T.nfzl, List.all_cons, ih]
theorem zzej : T.fzl (xs.map f) = xs.map fun x => (f x).fz := by induction xs with
  | nil => rfl
  | cons x xs ih => simp only [List.map_cons, T.fzl, ih]
theorem zzef {a b : List T} : T.owl (a ++ b) = (T.owl a || T.owl b) := by induction a with
  | nil => rfl
  | cons x a ih => simp only [List.cons_append, T.owl, ih, Bool.or_assoc]
theorem zzeg {a b : List T} : T.nobl (a ++ b) = (T.nobl a && T.nobl b) := by induction a with
  | nil => rfl
  | cons x a ih => simp only [List.cons_append, T.nobl, ih, Bool.and_assoc]
theorem zzeh {a b : List T} : T.nfzl (a ++ b) = (T.nfzl a && T.nfzl b) := by induction a with
  | nil => rfl
  | cons x a ih => simp only [List.cons_append, T.nfzl, ih, Bool.and_assoc]
theorem zzei {a b : List T} : T.fzl (a ++ b) = T.fzl a ++ T.fzl b := by induction a with
  | nil => rfl
  | cons x a ih => simp only [List.cons_append, T.fzl, ih]
theorem ixN_nat {n k : Nat} : ixN n (k : Int) = if k < n then some k else none := by
  unfold ixN
  by_cases h : k < n <;> simp [h] <;> omega
theorem zzde {g : α → β} {xs : List α} {i : Int} : atI (xs.map g) i = (atI xs i).map g := by
  unfold atI
  rw [List.length_map]
  cases ixN xs.length i with
  | none => rfl
  | some k => simp
theorem atI_nat' {xs : List α} {k : Nat} : atI xs (k : Int) = xs[k]? := by
  unfold atI
  rw [ixN_nat]
  split
  · rfl
  · rename_i h; exact (List.getElem?_eq_none (by omega)).symm
/-- one of what is there -/
def kCm (f : α → T) (P : T → Prop) : α → Prop := fun x => P (f x)
theorem zzhh {x : α} {P : T → Prop} : kCm f P x = P (f x) := rfl
theorem oIx_map {o : Bool} {i : Int} {P : T → Prop} : wp (oIx [.lst o (xs.map f), .int i]) P = opt (atI xs i) (kCm f P) := by
  show wp (match atI (xs.map f) i with | some y => Except.ok y | none => stk) P = _
  rw [zzde]
  cases atI xs i with
  | none => exact zzac
  | some x => exact zzaa
theorem zzda {ts : List T} {i : Int} {P : T → Prop} : wp (oIx [.tup ts, .int i]) P = opt (atI ts i) P := by
  show wp (match atI ts i with | some y => Except.ok y | none => stk) P = _
  cases atI ts i with
  | none => exact zzac
  | some x => exact zzaa
theorem zzdb {o : Bool} {ts : List T} {i : Int} {P : T → Prop} : wp (oIx [.lst o ts, .int i]) P = opt (atI ts i) P := by
  show wp (match atI ts i with | some y => Except.ok y | none => stk) P = _
  cases atI ts i with
  | none => exact zzac
  | some x => exact zzaa
theorem zzdc {ts : List T} {i : Int} {P : T → Prop} : wp (oIx [.lk ts, .int i]) P = opt (atI ts i) P := by
  show wp (match atI ts i with | some y => Except.ok y | none => stk) P = _
  cases atI ts i with
  | none => exact zzac
  | some x => exact zzaa
theorem opt_map {g : α → β} {o : Option α} {k : β → Prop} : opt (o.map g) k = opt o fun x => k (g x) := by cases o <;> rfl
theorem zzdr {a : α} {l : List α} : atI (a :: l) 0 = some a := by
  have : atI (a :: l) ((0 : Nat) : Int) = some a := by rw [atI_nat']; rfl
  exact this
theorem zzds {a b : α} {l : List α} : atI (a :: b :: l) 1 = some b := by
  have : atI (a :: b :: l) ((1 : Nat) : Int) = some b := by rw [atI_nat']; rfl
  exact this
theorem zzdt {a b c : α} {l : List α} : atI (a :: b :: c :: l) 2 = some c := by
  have : atI (a :: b :: c :: l) ((2 : Nat) : Int) = some c := by rw [atI_nat']; rfl
  exact this
theorem zzdu {a b c d : α} {l : List α} : atI (a :: b :: c :: d :: l) 3 = some d := by
  have : atI (a :: b :: c :: d :: l) ((3 : Nat) : Int) = some d := by rw [atI_nat']; rfl
  exact this
theorem zzdv {a : α} : atI [a] (-1) = some a := rfl
theorem zzdw {a b : α} : atI [a, b] (-1) = some b := rfl
theorem zzdx {a b c : α} : atI [a, b, c] (-1) = some c := rfl
theorem zzdy {a b c d : α} : atI [a, b, c, d] (-1) = some d := rfl
theorem zzdz {a b : α} : atI [a, b] (-2) = some a := rfl
theorem zzea {a b c : α} : atI [a, b, c] (-2) = some b := rfl
theorem zzeb {a b c d : α} : atI [a, b, c, d] (-2) = some c := rfl
end
/-- one turn of a comprehension -/
def lcStep (g : T → En → R En) (c : En → R (Bool × En)) (f : EM) (vs : List Nat) (t : T) : En → R (Option T × En) := fun env => do
  let env1 ← g t env
  let (b, env2) ← c env1
  if b then do
    let (y, env3) ← f env2
    .ok (some y, wipeE env3 vs)
  else .ok (none, wipeE env2 vs)
section
variable {env : En} {gt : T → En → R En} {c : En → R (Bool × En)} {f : EM} {s : SM} {vs : List Nat} {α : Type} {e : α → T} {xs : List α} {QS : Fl × En → Prop}
theorem w_lcStep0 {t : T} {P : Option T × En → Prop} : wp (lcStep gt c f vs t env) P = wp (gt t env) fun e1 => wp (c e1) fun p => if p.1 = true then wp (f p.2) fun y => P (some y.1, wipeE y.2 vs) else P (none, wipeE p.2 vs) := by
  unfold lcStep
  rw [zzab]; congr 1; funext e1; rw [zzab]; congr 1; funext p; rw [zzae, zzaa, zzab]; congr 2; funext y; exact zzaa
def kS3 (vs : List Nat) (P : Option T × En → Prop) : T × En → Prop := fun y => P (some y.1, wipeE y.2 vs)
theorem zzhi {t : T} {e : En} {P : Option T × En → Prop} : kS3 vs P (t, e) = P (some t, wipeE e vs) := rfl
def kS2 (f : EM) (vs : List Nat) (P : Option T × En → Prop) : Bool × En → Prop := fun p => if p.1 = true then wp (f p.2) (kS3 vs P) else P (none, wipeE p.2 vs)
theorem zzhj {b : Bool} {e : En} {P : Option T × En → Prop} : kS2 f vs P (b, e) = if b = true then wp (f e) (kS3 vs P) else P (none, wipeE e vs) := rfl
def kS1 (c : En → R (Bool × En)) (f : EM) (vs : List Nat) (P : Option T × En → Prop) : En → Prop := fun e => wp (c e) (kS2 f vs P)
theorem zzhk {e : En} {P : Option T × En → Prop} : kS1 c f vs P e = wp (c e) (kS2 f vs P) := rfl
theorem zzcs {t : T} {P : Option T × En → Prop} : wp (lcStep gt c f vs t env) P = wp (gt t env) (kS1 c f vs P) := w_lcStep0
theorem w_lcCons {t : T} {ts : List T} {P : List T × En → Prop} : wp (lcGo gt c f vs (t :: ts) env) P = wp (lcStep gt c f vs t env) fun r => wp (lcGo gt c f vs ts r.2) fun z => P (r.1.toList ++ z.1, z.2) := by
  rw [w_lcStep0]
  show wp (gt t env >>= fun e1 => c e1 >>= fun p => if p.1 = true then (f p.2 >>= fun y => lcGo gt c f vs ts (wipeE y.2 vs) >>= fun z => Except.ok (y.1 :: z.1, z.2)) else lcGo gt c f vs ts (wipeE p.2 vs)) P = _
  rw [zzab]; congr 1; funext e1; rw [zzab]; congr 1; funext ⟨b, e2⟩
  rw [zzae]
  cases b with
  | true =>
    simp only [if_true]
    rw [zzab]; congr 1; funext y; rw [zzab]; congr 1; funext z; rw [zzaa]; rfl
  | false => simp only [Bool.false_eq_true, if_false]; congr 1
theorem zzct {P : List T × En → Prop} : wp (lcGo gt c f vs [] env) P = P ([], env) := zzaa
/-- a comprehension that changes nothing: what comes of each -/
theorem lc_fm {h : α → Option T} {P : List T × En → Prop} (hh : ∀ x, x ∈ xs → ∀ Q : Option T × En → Prop, Q (h x, env) → wp (lcStep gt c f vs (e x) env) Q) (q : P (xs.filterMap h, env)) : wp (lcGo gt c f vs (xs.map e) env) P := by
  induction xs generalizing P with
  | nil => exact zzaa.mpr q
  | cons x xs ih =>
    rw [List.map_cons, w_lcCons]
    refine hh x List.mem_cons_self _ ?_
    refine ih (fun y hy => hh y (List.mem_cons_of_mem _ hy)) ?_
    rw [List.filterMap_cons] at q
    cases w : h x with
    | none => rw [w] at q; exact q
    | some y => rw [w] at q; exact q
theorem lc_map {h : α → T} {P : List T × En → Prop} (hh : ∀ x, x ∈ xs → ∀ Q : Option T × En → Prop, Q (some (h x), env) → wp (lcStep gt c f vs (e x) env) Q) (q : P (xs.map h, env)) : wp (lcGo gt c f vs (xs.map e) env) P :=
  lc_fm (h := fun x => some (h x)) hh (by rw [List.filterMap_eq_map']; exact q)
theorem lc_filter {p : α → Bool} {h : α → T} {P : List T × En → Prop} (hh : ∀ x, x ∈ xs → ∀ Q : Option T × En → Prop, Q (if p x = true then some (h x) else none, env) → wp (lcStep gt c f vs (e x) env) Q) (q : P ((xs.filter p).map h, env)) : wp (lcGo gt c f vs (xs.map e) env) P :=
  lc_fm (h := fun x => if p x = true then some (h x) else none) hh (by
    have : xs.filterMap (fun x => if p x = true then some (h x) else none) = (xs.filter p).map h := by
      clear q hh
      induction xs with
      | nil => rfl
      | cons x xs ih => cases w : p x <;> simp [w, ih]
    rw [this]; exact q)
/-- a comprehension by an invariant: done, left, made -/
theorem lc_inv (I : List α → List α → List T → En → Prop) {P : List T × En → Prop} (h0 : I [] xs [] env)
    (hs : ∀ d x r a e', xs = d ++ x :: r → I d (x :: r) a e' → wp (lcStep gt c f vs (e x) e') fun p => I (d ++ [x]) r (a ++ p.1.toList) p.2) (hd : ∀ a e', I xs [] a e' → P (a, e')) : wp (lcGo gt c f vs (xs.map e) env) P := by
  suffices ∀ r d a env, xs = d ++ r → I d r a env → wp (lcGo gt c f vs (r.map e) env) fun p => I xs [] (a ++ p.1) p.2 from
    wp_mono (this xs [] [] env rfl h0) fun p q => hd _ _ (by simpa using q)
  intro r
  induction r with
  | nil => intro d a env hx h; exact zzaa.mpr (by simp only [List.append_nil] at hx ⊢; subst hx; exact h)
  | cons x r ih =>
    intro d a env hx h
    rw [List.map_cons, w_lcCons]
    refine wp_mono (hs d x r a env hx h) fun p q => ?_
    refine wp_mono (ih (d ++ [x]) (a ++ p.1.toList) p.2 (by rw [hx]; simp) q) fun z q => ?_
    simpa [List.append_assoc] using q
/-- the end of a turn -/
def kT (J : En → Prop) (QS : Fl × En → Prop) : Fl × En → Prop := fun p => match p.1 with
    | .nx => J p.2
    | .ct => J p.2
    | .bk => QS (.nx, p.2)
    | .rt u => QS (.rt u, p.2)
theorem zzhl {J : En → Prop} {e : En} : kT J QS (.nx, e) = J e := rfl
theorem zzhm {J : En → Prop} {e : En} : kT J QS (.ct, e) = J e := rfl
theorem zzhn {J : En → Prop} {e : En} : kT J QS (.bk, e) = QS (.nx, e) := rfl
theorem zzho {J : En → Prop} {e : En} {u : T} : kT J QS (.rt u, e) = QS (.rt u, e) := rfl
def kBd (s : SM) (J : En → Prop) (QS : Fl × En → Prop) : En → Prop := fun e => wp (s e) (kT J QS)
theorem zzhp {J : En → Prop} {e : En} : kBd s J QS e = wp (s e) (kT J QS) := rfl
/-- a for by an invariant: done, left -/
theorem for_inv (I : List α → List α → En → Prop) (h0 : I [] xs env) (hs : ∀ d x r e', xs = d ++ x :: r → I d (x :: r) e' → wp (gt (e x) e') (kBd s (I (d ++ [x]) r) QS)) (hd : ∀ e', I xs [] e' → QS (.nx, e')) : wp (forGo gt s (xs.map e) env) QS := by
  suffices ∀ r d env, xs = d ++ r → I d r env → wp (forGo gt s (r.map e) env) QS from this xs [] env rfl h0
  intro r
  induction r with
  | nil => intro d env hx h; exact wp_ok (hd env (by simp only [List.append_nil] at hx; subst hx; exact h))
  | cons x r ih =>
    intro d env hx h
    rw [List.map_cons]
    refine wp_bind (wp_mono (hs d x r env hx h) fun e1 q => wp_bind (wp_mono q fun ⟨fl, e2⟩ q => ?_))
    cases fl with
    | nx => exact ih _ _ (by rw [hx]; simp) q
    | ct => exact ih _ _ (by rw [hx]; simp) q
    | bk => exact wp_ok q
    | rt u => exact wp_ok q
theorem zzcu : wp (forGo gt s [] env) QS = QS (.nx, env) := zzaa
def kFg (gt : T → En → R En) (s : SM) (ts : List T) (QS : Fl × En → Prop) : En → Prop := fun e => wp (forGo gt s ts e) QS
theorem zzhq {ts : List T} {e : En} : kFg gt s ts QS e = wp (forGo gt s ts e) QS := rfl
theorem w_forCons {t : T} {ts : List T} : wp (forGo gt s (t :: ts) env) QS = wp (gt t env) (kBd s (kFg gt s ts QS) QS) := by
  show wp (gt t env >>= fun _ => _) QS = _
  rw [zzab]; congr 1; funext e1; rw [zzab]; congr 1; funext ⟨fl, e2⟩
  cases fl <;> first | rfl | exact zzaa
end
/-- ranges, enumerations, pairs as pictures -/
theorem rngC_map {lo c : Int} {n : Nat} : rngC lo c n = (List.range n).map fun i => .int (lo + (i : Nat) * c) := rfl
theorem rngT_map {lo : Int} {n : Nat} : rngT lo n = (List.range n).map fun i => .int (lo + (i : Nat)) := rfl
theorem zzeu {n : Nat} : rngT 0 n = (List.range n).map fun i : Nat => T.int i := by
  unfold rngT; congr 1; funext i; rw [Int.zero_add]
theorem zzev {α : Type} {f : α → T} {xs : List α} : enumT 0 (xs.map f) = xs.zipIdx.map fun p => .tup [.int (p.2 : Nat), f p.1] := by
  suffices ∀ n, enumT n (xs.map f) = (xs.zipIdx n).map fun p => .tup [.int (p.2 : Nat), f p.1] from this 0
  induction xs with
  | nil => intro n; rfl
  | cons x xs ih => intro n; simp only [List.map_cons, enumT, List.zipIdx_cons, ih]
theorem zzew {α β : Type} {f : α → T} {g : β → T} {xs : List α} {ys : List β} : zipT (xs.map f) (ys.map g) = (xs.zip ys).map fun p => .tup [f p.1, g p.2] := by
  induction xs generalizing ys with
  | nil => rfl
  | cons x xs ih => cases ys with
    | nil => rfl
    | cons y ys => simp only [List.map_cons, zipT, List.zip_cons_cons, ih]
/-- bounds -/
theorem zzcv {j : Int} {P : List T → Prop} : wp (rng1 [.int j]) P = ((-1000000000000 < j ∧ j < 1000000000000) ∧ P (rngT 0 j.toNat)) := by
  show wp (ck (fitI j) >>= fun _ => Except.ok _) P = _
  rw [zzab, zzad, zzaa]; unfold fitI; simp
theorem zzcw {i j : Int} {P : List T → Prop} : wp (rng2 [.int i, .int j]) P = ((-1000000000000 < i ∧ i < 1000000000000 ∧ -1000000000000 < j ∧ j < 1000000000000) ∧ P (rngT i (j - i).toNat)) := by
  show wp (ck (fitI i && fitI j) >>= fun _ => Except.ok _) P = _
  rw [zzab, zzad, zzaa]; unfold fitI; simp [and_assoc]
theorem bls_map {α : Type} {p : α → Bool} {xs : List α} : bls (xs.map fun x => T.bl (p x)) = some (xs.map p) := by
  induction xs with
  | nil => rfl
  | cons x xs ih => simp only [List.map_cons, bls, ih, Option.map_some]
theorem zzdp {α : Type} {o : Bool} {p : α → Bool} {xs : List α} {P : T → Prop} : wp (oAll [.lst o (xs.map fun x => T.bl (p x))]) P = P (.bl (xs.all p)) := by
  show wp (match bls (xs.map fun x => T.bl (p x)) with | some bs => Except.ok (T.bl (bs.all id)) | none => stk) P = _
  rw [bls_map]
  show wp (Except.ok (T.bl ((xs.map p).all id))) P = _
  rw [zzaa, List.all_map]; rfl
theorem zzdq {α : Type} {o : Bool} {p : α → Bool} {xs : List α} {P : T → Prop} : wp (oAny [.lst o (xs.map fun x => T.bl (p x))]) P = P (.bl (xs.any p)) := by
  show wp (match bls (xs.map fun x => T.bl (p x)) with | some bs => Except.ok (T.bl (bs.any id)) | none => stk) P = _
  rw [bls_map]
  show wp (Except.ok (T.bl ((xs.map p).any id))) P = _
  rw [zzaa, List.any_map]; rfl
theorem zzcx {xs : List T} {t : T} {P : T × T → Prop} : wp (mAppend (.lst true xs) [t]) P = (xs.length < big ∧ P (.lst true (xs ++ [t]), .non)) := by
  show wp (ck _ >>= fun _ => Except.ok _) P = _
  rw [zzab, zzad, zzaa, decide_eq_true_eq]
theorem zzcy {o : Bool} {xs ys : List T} {P : T × T → Prop} : wp (mExtend (.lst true xs) [.lst o ys]) P = (xs.length + ys.length ≤ big ∧ P (.lst true (xs ++ ys), .non)) := by
  show wp (ck _ >>= fun _ => Except.ok _) P = _
  rw [zzab, zzad, zzaa, decide_eq_true_eq]
/-- an owned list's items -/
def T.ol : T → Option (List T)
  | .lst true xs => some xs
  | _ => none
def kX3 (i : Nat) (x : T) (b : Bool) (e : En) (j : Int) (QS : Fl × En → Prop) : List T → Prop := fun xs => T.owl xs = false ∧ x.ow = false ∧ b = true ∧ opt (ixN xs.length j) fun n => QS (.nx, e.set i (some (.lst true (xs.set n x))))
theorem zzhr {i : Nat} {x : T} {b : Bool} {e : En} {j : Int} {QS : Fl × En → Prop} {xs : List T} : kX3 i x b e j QS xs = (T.owl xs = false ∧ x.ow = false ∧ b = true ∧ opt (ixN xs.length j) fun n => QS (.nx, e.set i (some (.lst true (xs.set n x))))) := rfl
def kX2 (i : Nat) (x : T) (e1 : En) (QS : Fl × En → Prop) : T × En → Prop := fun q => wp (toI q.1) fun j => opt (look q.2 i) fun t => opt t.ol (kX3 i x (T.isLst ((look e1 i).getD .non)) q.2 j QS)
theorem zzhs {i : Nat} {x : T} {e1 e : En} {j : Int} {QS : Fl × En → Prop} : kX2 i x e1 QS (.int j, e) = opt (look e i) fun t => opt t.ol (kX3 i x (T.isLst ((look e1 i).getD .non)) e j QS) := by
  show wp (toI _) _ = _; rw [zzaz]
def kX1 (i : Nat) (g : EM) (QS : Fl × En → Prop) : T × En → Prop := fun p => wp (g p.2) (kX2 i p.1 p.2 QS)
theorem zzht {i : Nat} {g : EM} {t : T} {e : En} {QS : Fl × En → Prop} : kX1 i g QS (t, e) = wp (g e) (kX2 i t e QS) := rfl
theorem zzcz {i : Nat} {f g : EM} {env : En} {QS : Fl × En → Prop} : wp (sSetIx i f g env) QS = wp (f env) (kX1 i g QS) := by
  unfold sSetIx
  rw [zzab]; congr 1; funext p; rw [zzab]; show _ = wp _ _; congr 1; funext q; rw [zzab]; show _ = wp _ _; congr 1; funext j
  show wp (match look q.2 i with | some (.lst true xs) => _ | _ => stk) QS = _
  cases look q.2 i with
  | none => exact zzac
  | some t =>
    cases t with
    | lst o xs =>
      cases o with
      | true =>
        show wp (ck _ >>= fun _ => _) QS = _
        rw [zzab, zzad, zzaf]
        show _ = opt (some xs) _
        rw [zzaf]
        refine propext ⟨fun ⟨h1, h2⟩ => ?_, fun ⟨h1, h2, h3, h4⟩ => ?_⟩
        · simp only [Bool.and_eq_true, Bool.not_eq_true'] at h1
          refine ⟨h1.1, h1.2.1, h1.2.2, ?_⟩
          cases w : ixN xs.length j with
          | none => rw [w] at h2; exact (zzac.mp h2).elim
          | some n => rw [w] at h2; exact (zzaa (Q := QS)).mp h2
        · refine ⟨by simp only [Bool.and_eq_true, Bool.not_eq_true']; exact ⟨h1, h2, h3⟩, ?_⟩
          cases w : ixN xs.length j with
          | none => rw [w] at h4; exact h4.elim
          | some n => rw [w] at h4; exact (zzaa (Q := QS)).mpr h4
      | false => exact zzac
    | _ => exact zzac
theorem natAbs_lit {n : Nat} : Int.natAbs (@OfNat.ofNat Int n instOfNat) = n := rfl
theorem zzex {n : Nat} : ixN (n + 1) 0 = some 0 := by
  have : ixN (n + 1) ((0 : Nat) : Int) = some 0 := by rw [ixN_nat]; simp
  exact this
theorem zzey {n : Nat} : ixN (n + 2) 1 = some 1 := by
  have : ixN (n + 2) ((1 : Nat) : Int) = some 1 := by rw [ixN_nat]; simp
  exact this
theorem zzez {n : Nat} : ixN (n + 3) 2 = some 2 := by
  have : ixN (n + 3) ((2 : Nat) : Int) = some 2 := by rw [ixN_nat]; simp
  exact this
theorem zzdf {i j : Int} {P : T → Prop} : wp (oMul [.int i, .int j]) P = (((-18446744073709551616 < i ∧ i < 18446744073709551616) ∨ (-18446744073709551616 < j ∧ j < 18446744073709551616)) ∧ P (.int (i * j))) := by
  show wp (ck _ >>= fun _ => Except.ok _) P = _
  rw [zzab, zzad, zzaa, Bool.or_eq_true, decide_eq_true_eq, decide_eq_true_eq]
  have : ∀ i : Int, (i.natAbs < 2 ^ 64) = (-18446744073709551616 < i ∧ i < 18446744073709551616) := fun i => propext (by omega)
  rw [this, this]
theorem zzdo {o : Bool} {xs : List T} {j : Int} {P : T → Prop} : wp (oMul [.lst o xs, .int j]) P = (T.owl xs = false ∧ (-1000000 < j ∧ j < 1000000 ∧ xs.length * j.toNat ≤ big) ∧ P (.lst true (List.replicate j.toNat xs).flatten)) := by
  show wp (ck _ >>= fun _ => Except.ok _) P = _
  rw [zzab, zzad, zzaa]
  simp [and_assoc]
section
variable {i j : Int} {P : T → Prop}
theorem zzdg : wp (oSub [.int i, .int j]) P = P (.int (i - j)) := zzaa
theorem zzdh : wp (oLt [.int i, .int j]) P = P (.bl (decide (i < j))) := zzaa
theorem zzdi : wp (oLe [.int i, .int j]) P = P (.bl (decide (i ≤ j))) := zzaa
theorem zzdj : wp (oGt [.int i, .int j]) P = P (.bl (decide (j < i))) := zzaa
theorem zzdk : wp (oGe [.int i, .int j]) P = P (.bl (decide (j ≤ i))) := zzaa
theorem zzdl : wp (oFdiv [.int i, .int j]) P = ((0 < j ∧ j < 1073741824) ∧ P (.int (i / j))) := by
  show wp (ck _ >>= fun _ => Except.ok _) P = _
  rw [zzab, zzad, zzaa, Bool.and_eq_true, decide_eq_true_eq, decide_eq_true_eq]
theorem zzdm : wp (oMod [.int i, .int j]) P = (0 < j ∧ P (.int (i % j))) := by
  show wp (ck _ >>= fun _ => Except.ok _) P = _
  rw [zzab, zzad, zzaa, decide_eq_true_eq]
theorem zzdn : wp (oPow [.int i, .int j]) P = ((0 ≤ j ∧ j ≤ 1000) ∧ (-18446744073709551616 < i ∧ i < 18446744073709551616) ∧ P (.int (i ^ j.toNat))) := by
  show wp (ck _ >>= fun _ => Except.ok _) P = _
  rw [zzab, zzad, zzaa]
  simp only [Bool.and_eq_true, decide_eq_true_eq]
  have : ∀ i : Int, (i.natAbs < 2 ^ 64) = (-18446744073709551616 < i ∧ i < 18446744073709551616) := fun i => propext (by omega)
  rw [this]; simp only [and_assoc]
end
theorem opt_at {α : Type} {xs : List α} {i : Int} {P : α → Prop} (h0 : 0 ≤ i) (h1 : i < xs.length) (q : ∀ x, x ∈ xs → xs[i.toNat]? = some x → P x) : opt (atI xs i) P := by
  obtain ⟨n, rfl⟩ := Int.eq_ofNat_of_zero_le h0
  have hn : n < xs.length := by omega
  rw [atI_nat', List.getElem?_eq_getElem hn, zzaf]
  exact q _ (List.getElem_mem hn) (by simp [hn])
theorem opt_nat {α : Type} {xs : List α} {n : Nat} {x : α} {P : α → Prop} (h : xs[n]? = some x) (q : P x) : opt (atI xs (n : Int)) P := by
  rw [atI_nat', h]; exact q
theorem rng3_pos {i j c : Int} {P : List T → Prop} (h : (-1000000000000 < i ∧ i < 1000000000000) ∧ (-1000000000000 < j ∧ j < 1000000000000)) (hc : 0 < c ∧ c < 1073741824) (q : P (rngC i c (if i < j then (j - i - 1) / c + 1 else 0).toNat)) : wp (rng3 [.int i, .int j, .int c]) P := by
  show wp (ck _ >>= fun _ => Except.ok _) P
  rw [zzab, zzad, zzaa]
  have hs : Builtin.Range.rangeSize i j c = if i < j then (j - i - 1) / c + 1 else 0 := by unfold Builtin.Range.rangeSize; rw [if_pos hc.1]
  have hb : 0 ≤ (if i < j then (j - i - 1) / c + 1 else 0) ∧ (if i < j then (j - i - 1) / c + 1 else 0) < 10000000000000 := by
    split
    · have h1 : 0 ≤ (j - i - 1) / c := Int.ediv_nonneg (by omega) (by omega)
      have h2 : (j - i - 1) / c ≤ j - i - 1 := Int.ediv_le_self _ (by omega)
      omega
    · omega
  rw [hs]
  refine ⟨?_, q⟩
  generalize hn : (if i < j then (j - i - 1) / c + 1 else 0) = n at *
  unfold Builtin.Range.small
  rw [hs]
  simp only [Builtin.Range.rangeFitsLong, Bool.and_eq_true, Bool.or_eq_true, decide_eq_true_eq, gt_iff_lt, beq_iff_eq]
  rw [if_pos hc.1]
  simp only [Bool.and_eq_true, decide_eq_true_eq]
  omega
theorem atI_in {xs : List Int} {i : Int} (h : 0 ≤ i ∧ i < xs.length) : atI xs i = some ((atI xs i).getD 0) := by
  obtain ⟨n, rfl⟩ := Int.eq_ofNat_of_zero_le h.1
  have : n < xs.length := by omega
  rw [atI_nat', List.getElem?_eq_getElem this]; rfl
/-- the number at a place -/
def gi (xs : List Int) (i : Int) : Int := (atI xs i).getD 0
theorem atI_gi {xs : List Int} {i : Int} (h : 0 ≤ i ∧ i < xs.length) : atI xs i = some (gi xs i) := atI_in h
theorem opt_comp {α β : Type} {g : α → β} {o : Option α} {k : β → Prop} : opt (o.map g) k = opt o (fun x => k (g x)) := by cases o <;> rfl
theorem zzdd {α : Type} {g : α → T} {o : Option α} {k : T → Prop} : opt (o.map g) k = opt o (kCm g k) := by cases o <;> rfl
theorem zzhu : T.isN (.non) = true := rfl
theorem zzhv {b : Bool} : T.isN (.bl b) = false := rfl
theorem zzhw {i : Int} : T.isN (.int i) = false := rfl
theorem zzhx {z : Str} : T.isN (.str z) = false := rfl
theorem zzhy {xs : List T} : T.isN (.tup xs) = false := rfl
theorem zzhz {o : Bool} {xs : List T} : T.isN (.lst o xs) = false := rfl
theorem zzia {xs : List T} : T.isN (.lk xs) = false := rfl
theorem zzib {o : Bool} {ks : List (Key × T)} : T.isN (.dct o ks) = false := rfl
theorem zzic : T.flat (.non) = true := rfl
theorem zzid {b : Bool} : T.flat (.bl b) = true := rfl
theorem zzie {i : Int} : T.flat (.int i) = true := rfl
theorem zzif {z : Str} : T.flat (.str z) = true := rfl
theorem zzig {xs : List T} : T.flat (.tup xs) = false := rfl
theorem zzih {o : Bool} {xs : List T} : T.flat (.lst o xs) = false := rfl
theorem zzii {xs : List T} : T.flat (.lk xs) = false := rfl
theorem zzij {o : Bool} {ks : List (Key × T)} : T.flat (.dct o ks) = false := rfl
theorem zzik : T.seq (.non) = none := rfl
theorem zzil {b : Bool} : T.seq (.bl b) = none := rfl
theorem zzim {i : Int} : T.seq (.int i) = none := rfl
theorem zzin {z : Str} : T.seq (.str z) = none := rfl
theorem zzio {xs : List T} : T.seq (.tup xs) = some xs := rfl
theorem zzip {o : Bool} {xs : List T} : T.seq (.lst o xs) = some xs := rfl
theorem zziq {xs : List T} : T.seq (.lk xs) = some xs := rfl
theorem zzir {o : Bool} {ks : List (Key × T)} : T.seq (.dct o ks) = none := rfl
theorem zzis : T.ty (.non) = some .non := rfl
theorem zzit {b : Bool} : T.ty (.bl b) = some .bool := rfl
theorem zziu {i : Int} : T.ty (.int i) = some .int := rfl
theorem zziv {z : Str} : T.ty (.str z) = some .str := rfl
theorem zziw {xs : List T} : T.ty (.tup xs) = some .tuple := rfl
theorem zzix {o : Bool} {xs : List T} : T.ty (.lst o xs) = some .list := rfl
theorem zziy {xs : List T} : T.ty (.lk xs) = some .list := rfl
theorem zziz {o : Bool} {ks : List (Key × T)} : T.ty (.dct o ks) = some .dict := rfl
theorem zzja : T.ol (.non) = none := rfl
theorem zzjb {b : Bool} : T.ol (.bl b) = none := rfl
theorem zzjc {i : Int} : T.ol (.int i) = none := rfl
theorem zzjd {z : Str} : T.ol (.str z) = none := rfl
theorem zzje {xs : List T} : T.ol (.tup xs) = none := rfl
theorem zzjf {xs : List T} : T.ol (.lst true xs) = some xs := rfl
theorem zzjg {xs : List T} : T.ol (.lst false xs) = none := rfl
theorem zzjh {xs : List T} : T.ol (.lk xs) = none := rfl
theorem zzji {o : Bool} {ks : List (Key × T)} : T.ol (.dct o ks) = none := rfl
theorem zzjj : T.isLst (.non) = false := rfl
theorem zzjk {b : Bool} : T.isLst (.bl b) = false := rfl
theorem zzjl {i : Int} : T.isLst (.int i) = false := rfl
theorem zzjm {z : Str} : T.isLst (.str z) = false := rfl
theorem zzjn {xs : List T} : T.isLst (.tup xs) = false := rfl
theorem zzjo {xs : List T} : T.isLst (.lst true xs) = true := rfl
theorem zzjp {xs : List T} : T.isLst (.lst false xs) = false := rfl
theorem zzjq {xs : List T} : T.isLst (.lk xs) = false := rfl
theorem zzjr {o : Bool} {ks : List (Key × T)} : T.isLst (.dct o ks) = false := rfl
theorem zzjs : isTy .non .non = true := rfl
theorem zzjt : isTy .non .bool = false := rfl
theorem zzju : isTy .non .int = false := rfl
theorem zzjv : isTy .non .str = false := rfl
theorem zzjw : isTy .non .list = false := rfl
theorem zzjx : isTy .non .tuple = false := rfl
theorem zzjy : isTy .non .dict = false := rfl
theorem zzjz : isTy .bool .non = false := rfl
theorem zzka : isTy .bool .bool = true := rfl
theorem zzkb : isTy .bool .int = true := rfl
theorem zzkc : isTy .bool .str = false := rfl
theorem zzkd : isTy .bool .list = false := rfl
theorem zzke : isTy .bool .tuple = false := rfl
theorem zzkf : isTy .bool .dict = false := rfl
theorem zzkg : isTy .int .non = false := rfl
theorem zzkh : isTy .int .bool = false := rfl
theorem zzki : isTy .int .int = true := rfl
theorem zzkj : isTy .int .str = false := rfl
theorem zzkk : isTy .int .list = false := rfl
theorem zzkl : isTy .int .tuple = false := rfl
theorem zzkm : isTy .int .dict = false := rfl
theorem zzkn : isTy .str .non = false := rfl
theorem zzko : isTy .str .bool = false := rfl
theorem zzkp : isTy .str .int = false := rfl
theorem zzkq : isTy .str .str = true := rfl
theorem zzkr : isTy .str .list = false := rfl
theorem zzks : isTy .str .tuple = false := rfl
theorem zzkt : isTy .str .dict = false := rfl
theorem zzku : isTy .list .non = false := rfl
theorem zzkv : isTy .list .bool = false := rfl
theorem zzkw : isTy .list .int = false := rfl
theorem zzkx : isTy .list .str = false := rfl
theorem zzky : isTy .list .list = true := rfl
theorem zzkz : isTy .list .tuple = false := rfl
theorem zzla : isTy .list .dict = false := rfl
theorem zzlb : isTy .tuple .non = false := rfl
theorem zzlc : isTy .tuple .bool = false := rfl
theorem zzld : isTy .tuple .int = false := rfl
theorem zzle : isTy .tuple .str = false := rfl
theorem zzlf : isTy .tuple .list = false := rfl
theorem zzlg : isTy .tuple .tuple = true := rfl
theorem zzlh : isTy .tuple .dict = false := rfl
theorem zzli : isTy .dict .non = false := rfl
theorem zzlj : isTy .dict .bool = false := rfl
theorem zzlk : isTy .dict .int = false := rfl
theorem zzll : isTy .dict .str = false := rfl
theorem zzlm : isTy .dict .list = false := rfl
theorem zzln : isTy .dict .tuple = false := rfl
theorem zzlo : isTy .dict .dict = true := rfl
/-- one of a list, drawn -/
theorem pick {α : Type} {ts : List α} {i : Int} {P : α → Prop} (Rr : α → Prop) (h : ∀ x, x ∈ ts → Rr x) (h0 : 0 ≤ i) (h1 : i < ts.length) (q : ∀ x, Rr x → P x) : opt (atI ts i) P :=
  opt_at h0 h1 fun x hx _ => q x (h x hx)
theorem al_nil {α : Type} {P : α → Prop} : ∀ x, x ∈ ([] : List α) → P x := fun _ h => nomatch h
theorem al_cons {α : Type} {P : α → Prop} {x : α} {xs : List α} (h : P x) (t : ∀ y, y ∈ xs → P y) : ∀ y, y ∈ x :: xs → P y := fun y hy => (List.mem_cons.mp hy).elim (fun e => e ▸ h) (t y)
/-- an int between two, drawn out of a list -/
theorem pickI {ts : List T} {i lo hi : Int} {P : T → Prop} (h : ∀ x, x ∈ ts → ∃ m : Int, x = .int m ∧ lo ≤ m ∧ m ≤ hi) (h0 : 0 ≤ i) (h1 : i < ts.length) (q : ∀ m : Int, lo ≤ m → m ≤ hi → P (.int m)) : opt (atI ts i) P :=
  pick _ h h0 h1 fun _ ⟨m, e, h2, h3⟩ => e ▸ q m h2 h3
theorem zzfc {a b : En} : restE a b [] = b := rfl
theorem zzfd {a b : En} {v : Nat} {vs : List Nat} : restE a b (v :: vs) = (restE a b vs).set v (look a v) := rfl
theorem opt_ixN {n : Nat} {i : Int} {P : Nat → Prop} (h : 0 ≤ i ∧ i < n) (q : P i.toNat) : opt (ixN n i) P := by
  obtain ⟨k, rfl⟩ := Int.eq_ofNat_of_zero_le h.1
  rw [ixN_nat, if_pos (by omega)]
  exact q
theorem setT_map {α β : Type} {f : α → β} {xs : List α} {n : Nat} {x : α} : (xs.map f).set n (f x) = (xs.set n x).map f := by rw [List.map_set]
theorem zzlp {o : Bool} {xs : List T} {P : T → Prop} : wp (oSl false false [.lst o xs]) P = P (.lst true (cutL xs none none)) := zzaa
theorem zzlq {xs : List T} {P : T → Prop} : wp (oSl false false [.tup xs]) P = P (.tup (cutL xs none none)) := zzaa
theorem zzlr {z : Str} {P : T → Prop} : wp (oSl false false [.str z]) P = (z.length ≤ big ∧ P (.str (cutS z none none))) := by
  show wp (ck _ >>= fun _ => Except.ok _) P = _
  rw [zzab, zzad, zzaa, decide_eq_true_eq]
theorem zzls {o : Bool} {xs : List T} {i : Int} {P : T → Prop} : wp (oSl true false [.lst o xs, .int i]) P = P (.lst true (cutL xs (some i) none)) := zzaa
theorem zzlt {xs : List T} {i : Int} {P : T → Prop} : wp (oSl true false [.tup xs, .int i]) P = P (.tup (cutL xs (some i) none)) := zzaa
theorem zzlu {z : Str} {i : Int} {P : T → Prop} : wp (oSl true false [.str z, .int i]) P = (z.length ≤ big ∧ P (.str (cutS z (some i) none))) := by
  show wp (ck _ >>= fun _ => Except.ok _) P = _
  rw [zzab, zzad, zzaa, decide_eq_true_eq]
theorem zzlv {o : Bool} {xs : List T} {i : Int} {P : T → Prop} : wp (oSl false true [.lst o xs, .int i]) P = P (.lst true (cutL xs none (some i))) := zzaa
theorem zzlw {xs : List T} {i : Int} {P : T → Prop} : wp (oSl false true [.tup xs, .int i]) P = P (.tup (cutL xs none (some i))) := zzaa
theorem zzlx {z : Str} {i : Int} {P : T → Prop} : wp (oSl false true [.str z, .int i]) P = (z.length ≤ big ∧ P (.str (cutS z none (some i)))) := by
  show wp (ck _ >>= fun _ => Except.ok _) P = _
  rw [zzab, zzad, zzaa, decide_eq_true_eq]
theorem zzly {o : Bool} {xs : List T} {i j : Int} {P : T → Prop} : wp (oSl true true [.lst o xs, .int i, .int j]) P = P (.lst true (cutL xs (some i) (some j))) := zzaa
theorem zzlz {xs : List T} {i j : Int} {P : T → Prop} : wp (oSl true true [.tup xs, .int i, .int j]) P = P (.tup (cutL xs (some i) (some j))) := zzaa
theorem zzma {z : Str} {i j : Int} {P : T → Prop} : wp (oSl true true [.str z, .int i, .int j]) P = (z.length ≤ big ∧ P (.str (cutS z (some i) (some j)))) := by
  show wp (ck _ >>= fun _ => Except.ok _) P = _
  rw [zzab, zzad, zzaa, decide_eq_true_eq]
theorem zzmb {α β : Type} {f : α → β} {xs : List α} {lo hi : Option Int} : cutL (xs.map f) lo hi = (cutL xs lo hi).map f := by
  unfold cutL
  rw [List.length_map, List.map_take, List.map_drop]
theorem sIx_pos {n d : Nat} {i : Int} (h : 0 ≤ i) : HT.sIx n d (some i) = min i.toNat n := by
  obtain ⟨k, rfl⟩ := Int.eq_ofNat_of_zero_le h
  exact HT.sIx_nat n d k
theorem cut_to {α : Type} {xs : List α} {i : Int} (h : 0 ≤ i) : cutL xs none (some i) = xs.take i.toNat := by
  unfold cutL
  rw [sIx_pos h, HT.sIx_none, List.drop_zero, Nat.sub_zero]
  by_cases hl : i.toNat ≤ xs.length
  · rw [Nat.min_eq_left hl]
  · rw [Nat.min_eq_right (by omega), List.take_length, List.take_of_length_le (by omega)]
theorem cut_from {α : Type} {xs : List α} {i : Int} (h : 0 ≤ i) : cutL xs (some i) none = xs.drop i.toNat := by
  unfold cutL
  rw [sIx_pos h, HT.sIx_none]
  by_cases hl : i.toNat ≤ xs.length
  · rw [Nat.min_eq_left hl]
    exact List.take_of_length_le (by simp)
  · rw [Nat.min_eq_right (by omega), List.drop_length, List.drop_of_length_le (by omega)]
    simp
theorem zzmc {α : Type} {xs : List α} : cutL xs none none = xs := by
  unfold cutL
  rw [HT.sIx_none, HT.sIx_none]; simp
theorem cut_mid {α : Type} {xs : List α} {i j : Int} (h : 0 ≤ i) (h' : 0 ≤ j) : cutL xs (some i) (some j) = (xs.drop i.toNat).take (j.toNat - i.toNat) := by
  unfold cutL
  rw [sIx_pos h, sIx_pos h']
  by_cases hl : i.toNat ≤ xs.length
  · rw [Nat.min_eq_left hl]
    by_cases hj : j.toNat ≤ xs.length
    · rw [Nat.min_eq_left hj]
    · rw [Nat.min_eq_right (by omega), List.take_of_length_le (by simp), List.take_of_length_le (by simp; omega)]
  · rw [Nat.min_eq_right (by omega : xs.length ≤ i.toNat), List.drop_length, List.drop_of_length_le (by omega)]
    simp
theorem zzem : List.map (some : T → Option T) [] = [] := rfl
theorem zzen {t : T} {ts : List T} : List.map some (t :: ts) = some t :: List.map some ts := rfl
theorem zzeo : List.map Bop.res [] = [] := rfl
theorem zzep {b : Bop} {bs : List Bop} : List.map Bop.res (b :: bs) = b.res :: List.map Bop.res bs := rfl
theorem zzeq {xs ys : List Int} : xs.map T.int ++ ys.map T.int = (xs ++ ys).map T.int := by rw [List.map_append]
theorem zzer {xs : List Int} {a : Int} : xs.map T.int ++ [T.int a] = (xs ++ [a]).map T.int := by simp
theorem zzes {xs : List Int} {a b : Int} : xs.map T.int ++ [T.int a, T.int b] = (xs ++ [a, b]).map T.int := by simp
theorem zzet {xs : List Int} {a : Int} : T.int a :: xs.map T.int = (a :: xs).map T.int := rfl
section
variable {env e : En} {i : Nat} {af : AM} {p : List Stp} {bs : List Bop} {ts xs : List T} {t u w x y z : T} {Q : T × En → Prop} {QB : Bop × En → Prop} {o : Bool} {k : Int} {m : T → List T → R (T × T)}
theorem zzmd : wp (bP i p env) QB = opt ((look env i).bind (T.foc p)) fun u => QB (.br u i, env) := by
  unfold bP
  have e0 : T.at env i = look env i := rfl
  rw [e0]
  cases (look env i).bind (T.foc p) with
  | none => exact zzac
  | some u => exact zzaa
def kU3 (i : Nat) (p : List Stp) (t : T) (e : En) (Q : T × En → Prop) : T × T → Prop := fun r => opt (T.upf p t r.1) fun t' => Q (r.2, e.set i (some t'))
theorem zzmh : kU3 i p t e Q (u, w) = opt (T.upf p t u) fun t' => Q (w, e.set i (some t')) := rfl
def kU2 (m : T → List T → R (T × T)) (i : Nat) (p : List Stp) (e : En) (Q : T × En → Prop) : List T → Prop := fun ts => opt (look e i) fun t => opt (T.foc p t) fun u => wp (m u ts) (kU3 i p t e Q)
theorem zzmg : kU2 m i p e Q ts = opt (look e i) fun t => opt (T.foc p t) fun u => wp (m u ts) (kU3 i p t e Q) := rfl
def kU1 (m : T → List T → R (T × T)) (i : Nat) (p : List Stp) (Q : T × En → Prop) : List Bop × En → Prop := fun r => wp (tmps r.1) (kU2 m i p r.2 Q)
theorem zzmf : kU1 m i p Q (bs, e) = wp (tmps bs) (kU2 m i p e Q) := rfl
theorem zzme {sh : T → Bool} : wp (eMutP i p sh m af env) Q = opt ((look env i).bind (T.foc p)) fun u0 => sh u0 = true ∧ wp (af env) (kU1 m i p Q) := by
  unfold eMutP
  rw [zzab, zzad]
  have e0 : T.at env i = look env i := rfl
  rw [e0]
  cases (look env i).bind (T.foc p) with
  | none => simp [zzag]
  | some t0 =>
    rw [zzaf]
    congr 1
    rw [zzab]; congr 1; funext r
    rw [zzab]; show _ = wp _ _; congr 1; funext ts
    show _ = opt _ _
    have e1 : T.at r.2 i = look r.2 i := rfl
    rw [e1]
    cases look r.2 i with
    | none => exact zzac
    | some t =>
      rw [zzaf]
      cases h : T.foc p t with
      | none => simp only [h]; exact zzac
      | some u =>
        simp only [h]
        rw [zzaf, zzab]; congr 1; funext ⟨u', w⟩
        show _ = opt _ _
        cases h2 : T.upf p t u' with
        | none => simp only [h2]; exact zzac
        | some t' => simp only [h2]; exact zzaa
theorem zzmi : T.foc [] t = some t := rfl
theorem zzmj : T.foc (.ix k :: p) (.lst o xs) = (atI xs k).bind (T.foc p) := rfl
theorem zzmk : T.foc (.ix k :: p) (.tup xs) = (atI xs k).bind (T.foc p) := rfl
theorem zzml {c d f : Str} {fs : List (Str × T)} : T.foc (.fd c f :: p) (.obj c fs) = (fs.lookup f).bind (T.foc p) := by
  show (if c = c then (fs.lookup f).bind (T.foc p) else none) = _
  rw [if_pos rfl]
theorem zzmm : T.upf [] t u = some u := rfl
theorem zzmn : T.upf (.ix 0 :: p) (.lst true (x :: xs)) u = (T.upf p x u).map fun z => .lst true (z :: xs) := by
  simp only [T.upf, List.length_cons, zzex, Option.bind_some, List.getElem?_cons_zero, List.set_cons_zero]
theorem zzmo : T.upf (.ix 1 :: p) (.lst true (x :: y :: xs)) u = (T.upf p y u).map fun z => .lst true (x :: z :: xs) := by
  simp only [T.upf, List.length_cons, zzey, Option.bind_some, List.getElem?_cons_succ, List.getElem?_cons_zero, List.set_cons_succ, List.set_cons_zero]
theorem zzmp : T.upf (.ix 2 :: p) (.lst true (x :: y :: z :: xs)) u = (T.upf p z u).map fun w => .lst true (x :: y :: w :: xs) := by
  simp only [T.upf, List.length_cons, zzez, Option.bind_some, List.getElem?_cons_succ, List.getElem?_cons_zero, List.set_cons_succ, List.set_cons_zero]
theorem zzmq : T.upf (.ix 0 :: p) (.tup (x :: xs)) u = (T.upf p x u).map fun z => .tup (z :: xs) := by
  simp only [T.upf, List.length_cons, zzex, Option.bind_some, List.getElem?_cons_zero, List.set_cons_zero]
theorem zzmr : T.upf (.ix 1 :: p) (.tup (x :: y :: xs)) u = (T.upf p y u).map fun z => .tup (x :: z :: xs) := by
  simp only [T.upf, List.length_cons, zzey, Option.bind_some, List.getElem?_cons_succ, List.getElem?_cons_zero, List.set_cons_succ, List.set_cons_zero]
theorem zzms : T.upf (.ix 2 :: p) (.tup (x :: y :: z :: xs)) u = (T.upf p z u).map fun w => .tup (x :: y :: w :: xs) := by
  simp only [T.upf, List.length_cons, zzez, Option.bind_some, List.getElem?_cons_succ, List.getElem?_cons_zero, List.set_cons_succ, List.set_cons_zero]
end
section
variable {o : Bool} {ks : List (Key × T)} {i : Int} {z : Str} {d t : T} {P : T → Prop} {env : En} {Q : T × En → Prop}
theorem zzmt : wp (oDIn [.int i, .dct o ks]) P = P (.bl (getT ks (.inl i)).isSome) := zzaa
theorem zzmu : wp (oDIn [.str z, .dct o ks]) P = P (.bl (getT ks (.inr z)).isSome) := zzaa
theorem zzmv : wp (oDNin [.int i, .dct o ks]) P = P (.bl (!(getT ks (.inl i)).isSome)) := zzaa
theorem zzmw : wp (oDNin [.str z, .dct o ks]) P = P (.bl (!(getT ks (.inr z)).isSome)) := zzaa
theorem zzmx : wp (oDIx [.dct o ks, .int i]) P = opt (getT ks (.inl i)) P := by
  show wp (match getT ks (.inl i) with | some t => Except.ok t | none => stk) P = _
  cases getT ks (.inl i) with
  | none => exact zzac
  | some t => exact zzaa
theorem zzmy : wp (oDIx [.dct o ks, .str z]) P = opt (getT ks (.inr z)) P := by
  show wp (match getT ks (.inr z) with | some t => Except.ok t | none => stk) P = _
  cases getT ks (.inr z) with
  | none => exact zzac
  | some t => exact zzaa
theorem zzmz : wp (oDGet [.dct o ks, .int i, t]) P = P ((getT ks (.inl i)).getD t) := zzaa
theorem zzna : wp (oDGet [.dct o ks, .str z, t]) P = P ((getT ks (.inr z)).getD t) := zzaa
theorem zznb : wp (eDnew env) Q = Q (.dct true [], env) := zzaa
theorem pairs_map {α : Type} {f : α → T} {k : α → Int} {v : α → T} : ∀ {xs : List α}, (∀ x, x ∈ xs → f x = .tup [.int (k x), v x] ∧ (v x).ow = false) → pairsT (xs.map f) = some (xs.map fun x => (Sum.inl (k x), v x))
  | [], _ => rfl
  | x :: xs, h => by
    obtain ⟨h1, h2⟩ := h x List.mem_cons_self
    rw [List.map_cons, h1]
    simp only [pairsT, keyT, pairs_map fun y hy => h y (List.mem_cons_of_mem _ hy), h2, List.map_cons, Bool.false_eq_true, if_false]
theorem w_dict {α : Type} {f : α → T} {xs : List α} (k : α → Int) (v : α → T) (h : ∀ x, x ∈ xs → f x = .tup [.int (k x), v x] ∧ (v x).ow = false) (q : P (.dct true (mergeT [] (xs.map fun x => (Sum.inl (k x), v x))))) : wp (oDict [.lst o (xs.map f)]) P := by
  show wp (match pairsT (xs.map f) with | some ks => Except.ok (.dct true (mergeT [] ks)) | none => stk) P
  rw [pairs_map h]
  exact zzaa.mpr q
theorem getT_put {k j : Key} : getT (putT ks k t) j = if k = j then some t else getT ks j := by
  unfold putT
  split
  · rename_i ha
    have : ∀ ks : List (Key × T), getT (ks.map fun p => if p.1 = k then (p.1, t) else p) j = if k = j ∧ (ks.any fun p => decide (p.1 = k)) = true then some t else getT ks j := by
      intro ks
      induction ks with
      | nil => simp [getT]
      | cons p ks ih =>
        unfold getT at ih ⊢
        rw [List.map_cons, List.any_cons, List.find?_cons, List.find?_cons]
        by_cases h1 : p.1 = k
        · by_cases h2 : k = j
          · simp [h1, h2]
          · have : ¬ p.1 = j := fun z => h2 (h1.symm.trans z)
            simp only [h1, if_true, decide_true, Bool.true_or, and_true]
            simp only [h2, if_false, decide_false]
            rw [ih]; simp [h2]
        · simp only [h1, if_false, decide_false, Bool.false_or]
          by_cases h3 : p.1 = j
          · have : ¬ k = j := fun z => h1 (h3.trans z.symm)
            simp [h3, this]
          · simp only [h3, decide_false]; exact ih
    rw [this]; simp [ha]
  · rename_i ha
    have hn : getT ks k = none := by
      unfold getT
      cases h : ks.find? fun p => decide (p.1 = k) with
      | none => rfl
      | some p =>
        exfalso
        apply ha
        rw [List.any_eq_true]
        exact ⟨p, List.mem_of_find?_eq_some h, by simpa using List.find?_some h⟩
    unfold getT at hn ⊢
    rw [List.find?_append]
    cases h : ks.find? fun p => decide (p.1 = j) with
    | some p =>
      have : ¬ k = j := fun z => by subst z; rw [h] at hn; cases hn
      simp [this]
    | none =>
      by_cases h2 : k = j
      · simp [h2]
      · simp [h2]
theorem getT_mergeC {α : Type} {k : α → Int} {v : T} {j : Int} : ∀ {xs : List α} {ks : List (Key × T)}, (getT ks (.inl j) = none ∨ getT ks (.inl j) = some v) → getT (mergeT ks (xs.map fun x => (Sum.inl (k x), v))) (.inl j) = if j ∈ xs.map k then some v else getT ks (.inl j)
  | [], ks, _ => by simp [mergeT]
  | x :: xs, ks, h => by
    show getT (mergeT (putT ks (.inl (k x)) v) (xs.map fun x => (Sum.inl (k x), v))) (.inl j) = _
    have hp := getT_put (ks := ks) (t := v) (k := .inl (k x)) (j := .inl j)
    rw [getT_mergeC (by rw [hp]; split; exact .inr rfl; exact h), hp]
    by_cases h1 : j ∈ xs.map k
    · simp [h1]
    · by_cases h2 : k x = j
      · simp [h2]
      · have : ¬ j = k x := fun z => h2 z.symm
        simp [h1, h2, this]
/-- what a dict made of a list of places tells: whether it is in the list -/
theorem getT_in {α : Type} {k : α → Int} {v : T} {j : Int} {xs : List α} : getT (mergeT [] (xs.map fun x => (Sum.inl (k x), v))) (.inl j) = if j ∈ xs.map k then some v else none := getT_mergeC (.inl rfl)
theorem intsOf_map {xs : List Int} : intsOf (xs.map T.int) = some xs := by
  induction xs with
  | nil => rfl
  | cons x xs ih => simp only [List.map_cons, intsOf, ih, Option.map_some]
theorem zznc {xs : List Int} : wp (oSorted [.lst o (xs.map T.int)]) P = P (.lst true ((xs.mergeSort (fun a b => decide (a ≤ b))).map T.int)) := by
  show wp (match intsOf (xs.map T.int) with | some ns => Except.ok (T.lst true ((ns.mergeSort (fun a b => decide (a ≤ b))).map T.int)) | none => stk) P = _
  rw [intsOf_map]; exact zzaa
theorem zznd {xs : List Int} : wp (oSum [.lst o (xs.map T.int)]) P = P (.int xs.sum) := by
  show wp (match intsOf (xs.map T.int) with | some ns => Except.ok (T.int ns.sum) | none => stk) P = _
  rw [intsOf_map]; exact zzaa
theorem zzne {j : Int} : wp (oLRg1 [.int j]) P = ((-1000000000000 < j ∧ j < 1000000) ∧ P (.lst true (rngT 0 j.toNat))) := by
  show wp (ck _ >>= fun _ => Except.ok _) P = _
  rw [zzab, zzad, zzaa, Bool.and_eq_true, decide_eq_true_eq, decide_eq_true_eq]
theorem zznf {i j : Int} : wp (oLRg2 [.int i, .int j]) P = ((-1000000000000 < i ∧ i < 1000000000000 ∧ -1000000000000 < j ∧ j < 1000000000000 ∧ j - i < 1000000) ∧ P (.lst true (rngT i (j - i).toNat))) := by
  show wp (ck _ >>= fun _ => Except.ok _) P = _
  rw [zzab, zzad, zzaa]; simp
end
section
variable {env e : En} {i : Nat} {f : EM} {t : T} {Q : T × En → Prop} {xs : List T} {P : T × T → Prop} {k : Int}
def kLd (e : En) (Q : T × En → Prop) : T × En → Prop := fun r => r.1.flat = true ∧ Q (r.1, e)
theorem zzni {e' : En} : kLd e Q (t, e') = (t.flat = true ∧ Q (t, e)) := rfl
def ldK (o : Option T) (i : Nat) (f : EM) (env : En) (Q : T × En → Prop) : Prop := match o with
  | some t => if t.ow = true then t.nob = true ∧ wp (f (env.set i (some t.fz))) (kLd env Q) else wp (f env) Q
  | none => wp (f env) Q
theorem zznh : ldK (some t) i f env Q = if t.ow = true then t.nob = true ∧ wp (f (env.set i (some t.fz))) (kLd env Q) else wp (f env) Q := rfl
theorem zzng : wp (eLd i f env) Q = ldK (look env i) i f env Q := by
  unfold eLd
  have e0 : T.at env i = look env i := rfl
  rw [e0]
  cases look env i with
  | none => rfl
  | some t =>
    show wp (if t.ow = true then _ else f env) Q = _
    rw [zzae, zznh, zzab, zzad, zzab]
    congr 2
    congr 1
    funext r
    show wp (ck r.1.flat >>= fun _ => Except.ok (r.1, env)) Q = _
    rw [zzab, zzad, zzaa]; rfl
theorem zznj : wp (mInsert (.lst true xs) [.int k, t]) P = (T.owl xs = false ∧ xs.length < big ∧ (0 ≤ k ∧ k < 9223372036854775808) ∧ P (.lst true (xs.take k.toNat ++ [t] ++ xs.drop k.toNat), .non)) := by
  show wp (ck _ >>= fun _ => Except.ok _) P = _
  rw [zzab, zzad, zzaa]
  simp [and_assoc]
theorem zznk : wp (mReverse (.lst true xs) []) P = (T.owl xs = false ∧ P (.lst true xs.reverse, .non)) := by
  show wp (ck _ >>= fun _ => Except.ok _) P = _
  rw [zzab, zzad, zzaa]
  simp
theorem zznl : wp (mClear (.lst true xs) []) P = P (.lst true [], .non) := zzaa
end
/-- data of so many levels -/
def Dat (n : Nat) (t : T) : Prop := ∃ d, t.pd = some d ∧ d.canLay0 = true ∧ d.depth ≤ n
theorem Dat.int {n : Nat} {i : Int} : Dat n (.int i) := ⟨_, rfl, by simp [PyData.canLay0], by simp [PyData.depth]⟩
theorem Dat.bl {n : Nat} {i : Bool} : Dat n (.bl i) := ⟨_, rfl, by simp [PyData.canLay0], by simp [PyData.depth]⟩
theorem Dat.non {n : Nat} : Dat n .non := ⟨_, rfl, by simp [PyData.canLay0], by simp [PyData.depth]⟩
theorem Dat.str {n : Nat} {z : Str} (h : PyData.canLay0 (.str z) = true) : Dat n (.str z) := ⟨_, rfl, h, by simp [PyData.depth]⟩
theorem dat_all {n : Nat} : ∀ {xs : List T}, (∀ x, x ∈ xs → Dat n x) → ∃ ds, T.pdl xs = some ds ∧ PyData.canLayAll0 ds = true ∧ PyData.depthAll ds ≤ n
  | [], _ => ⟨[], rfl, rfl, Nat.zero_le _⟩
  | x :: xs, h => by
    obtain ⟨d, h1, h2, h3⟩ := h x List.mem_cons_self
    obtain ⟨ds, h4, h5, h6⟩ := dat_all fun y hy => h y (List.mem_cons_of_mem _ hy)
    refine ⟨d :: ds, ?_, ?_, ?_⟩
    · simp only [T.pdl, h1, h4]
    · simp only [PyData.canLayAll0, h2, h5, Bool.and_self]
    · simp only [PyData.depthAll]; omega
theorem Dat.tup {n : Nat} {xs : List T} (h : ∀ x, x ∈ xs → Dat n x) : Dat (n + 1) (.tup xs) := by
  obtain ⟨ds, h1, h2, h3⟩ := dat_all h
  exact ⟨.tuple ds, by simp only [T.pd, h1, Option.map_some], by simpa only [PyData.canLay0] using h2, by simp only [PyData.depth]; omega⟩
theorem Dat.lst {n : Nat} {o : Bool} {xs : List T} (h : ∀ x, x ∈ xs → Dat n x) : Dat (n + 1) (.lst o xs) := by
  obtain ⟨ds, h1, h2, h3⟩ := dat_all h
  exact ⟨.list ds, by simp only [T.pd, h1, Option.map_some], by simpa only [PyData.canLay0] using h2, by simp only [PyData.depth]; omega⟩
theorem Dat.up {n m : Nat} {t : T} (h : Dat n t) (hm : n ≤ m) : Dat m t := let ⟨d, a, b, c⟩ := h; ⟨d, a, b, Nat.le_trans c hm⟩
theorem eqT_lists {o o' : Bool} {n : Nat} {xs : List T} (h : ∀ x, x ∈ xs → Dat n x) (hn : n ≤ 63) : eqT (.lst o xs) (.lst o' xs) = some true := by
  obtain ⟨ds, h1, h2, h3⟩ := dat_all h
  have hs : SeqAt.shaped (.list ds) = true := by
    unfold SeqAt.shaped
    have hd : PyData.depth (.list ds) ≤ 64 := by simp only [PyData.depth]; omega
    rw [show PyData.canLay0 (.list ds) = true from by simpa only [PyData.canLay0] using h2, Bool.true_and]
    exact decide_eq_true hd
  show (match T.pd (.lst o xs), T.pd (.lst o' xs) with | some d, some e => if (SeqAt.shaped d && SeqAt.shaped e) = true then some (PyData.eqv d e) else none | _, _ => none) = some true
  simp only [T.pd, h1, Option.map_some, hs, Bool.and_self, if_true]
  rw [SeqAt.eqv_refl _ (by simpa only [PyData.canLay0] using h2)]
theorem ne_lists {o o' : Bool} {n : Nat} {xs : List T} {P : T → Prop} (h : ∀ x, x ∈ xs → Dat n x) (hn : n ≤ 63) : wp (oNe [.lst o xs, .lst o' xs]) P = P (.bl false) := by
  show wp (match eqT (.lst o xs) (.lst o' xs) with | some b => Except.ok (.bl (!b)) | none => stk) P = _
  rw [eqT_lists h hn]; exact zzaa
theorem eq_lists {o o' : Bool} {n : Nat} {xs : List T} {P : T → Prop} (h : ∀ x, x ∈ xs → Dat n x) (hn : n ≤ 63) : wp (oEq [.lst o xs, .lst o' xs]) P = P (.bl true) := by
  show wp (match eqT (.lst o xs) (.lst o' xs) with | some b => Except.ok (.bl b) | none => stk) P = _
  rw [eqT_lists h hn]; exact zzaa
theorem dat_ints {n : Nat} {xs : List Int} : ∀ x, x ∈ xs.map T.int → Dat n x := fun x h => by
  obtain ⟨i, _, rfl⟩ := List.mem_map.mp h
  exact .int
end QL
section
namespace NP
open PySem L2 QL
def b__law_cell_at : SM :=
  sRet (eIf (tV (eOp oLt (aCons (bV 1) (aCons (bE (eOp oLen (aCons (bV 0) (aNil)))) aNil)))) (eOp oIx (aCons (bV 0) (aCons (bV 1) aNil))) (eC (.int 0)))
def f__law_cell_at : Fn := fnN 2 2 none b__law_cell_at
def b__law_tape : SM :=
  sSeq (sAsg (eCall none none f__law_cell_at (aCons (bV 0) (aCons (bV 1) (aNil)))) (gN 2))
    (sRet (eLst (aCons (bE (eOp oMul (aCons (bE (eOp oAbs (aCons (bV 2) (aNil)))) (aCons (bE (eOp oInt (aCons (bE (eOp oGe (aCons (bE (eOp oAbs (aCons (bV 2) (aNil)))) (aCons (bE (eOp oPow (aCons (bE (eC (.int 10))) (aCons (bE (eC (.int 18))) aNil)))) aNil)))) (aNil)))) aNil)))) (aCons (bE (eOp oMod (aCons (bE (eOp oMul (aCons (bE (eOp oAdd (aCons (bE (eOp oAdd (aCons (bE (eOp oMod (aCons (bV 2) (aCons (bE (eC (.int 2147483647))) aNil)))) (aCons (bE (eOp oMul (aCons (bE (eC (.int 7121))) (aCons (bV 1) aNil)))) aNil)))) (aCons (bE (eC (.int 43))) aNil)))) (aCons (bE (eC (.int 48271))) aNil)))) (aCons (bE (eC (.int 2147483629))) aNil)))) (aCons (bE (eC (.int 0))) (aNil))))))
def f__law_tape : Fn := fnN 2 3 none b__law_tape
def b__law_take : SM :=
  sSeq (sIf (tV (eOp oGt (aCons (bE (eOp oIx (aCons (bV 0) (aCons (bE (eC (.int 0))) aNil)))) (aCons (bE (eC (.int 0))) aNil)))) (sSeq (sAsg (eOp oMod (aCons (bE (eOp oIx (aCons (bV 0) (aCons (bE (eC (.int 0))) aNil)))) (aCons (bV 1) aNil))) (gN 3))
    (sSeq (sSetIx 0 (eOp oFdiv (aCons (bE (eOp oIx (aCons (bV 0) (aCons (bE (eC (.int 0))) aNil)))) (aCons (bV 1) aNil))) (eC (.int 0)))
    (sRet (eVar 3)))) (sNil))
    (sSeq (sSetIx 0 (eOp oAdd (aCons (bE (eOp oIx (aCons (bV 0) (aCons (bE (eC (.int 2))) aNil)))) (aCons (bE (eC (.int 1))) aNil))) (eC (.int 2)))
    (sSeq (sAsg (eOp oMod (aCons (bE (eOp oMul (aCons (bE (eOp oAdd (aCons (bE (eOp oIx (aCons (bV 0) (aCons (bE (eC (.int 1))) aNil)))) (aCons (bE (eOp oMul (aCons (bE (eC (.int 39373))) (aCons (bE (eOp oIx (aCons (bV 0) (aCons (bE (eC (.int 2))) aNil)))) aNil)))) aNil)))) (aCons (bE (eOp oAdd (aCons (bE (eC (.int 48271))) (aCons (bE (eOp oIx (aCons (bV 0) (aCons (bE (eC (.int 2))) aNil)))) aNil)))) aNil)))) (aCons (bE (eC (.int 2147483647))) aNil))) (gN 2))
    (sSeq (sSetIx 0 (eOp oMod (aCons (bE (eOp oAdd (aCons (bE (eOp oMul (aCons (bV 2) (aCons (bE (eOp oAdd (aCons (bE (eOp oMod (aCons (bV 2) (aCons (bE (eC (.int 40009))) aNil)))) (aCons (bE (eC (.int 7))) aNil)))) aNil)))) (aCons (bE (eOp oIx (aCons (bV 0) (aCons (bE (eC (.int 2))) aNil)))) aNil)))) (aCons (bE (eC (.int 2147483629))) aNil))) (eC (.int 1)))
    (sRet (eOp oMod (aCons (bE (eOp oFdiv (aCons (bE (eOp oMod (aCons (bE (eOp oMul (aCons (bE (eOp oIx (aCons (bV 0) (aCons (bE (eC (.int 1))) aNil)))) (aCons (bE (eOp oAdd (aCons (bE (eOp oMod (aCons (bE (eOp oIx (aCons (bV 0) (aCons (bE (eC (.int 1))) aNil)))) (aCons (bE (eC (.int 1009))) aNil)))) (aCons (bE (eC (.int 3))) aNil)))) aNil)))) (aCons (bE (eC (.int 998244353))) aNil)))) (aCons (bE (eC (.int 7))) aNil)))) (aCons (bV 1) aNil)))))))
def f__law_take : Fn := fnN 2 4 (some 0) b__law_take
/-- a tape: what is left of a great number, the state, how often it was stirred -/
def Tp (n : Int) (t : T) : Prop := ∃ a b c : Int, t = .lst true [.int a, .int b, .int c] ∧ 0 ≤ a ∧ 0 ≤ b ∧ b < 2147483629 ∧ 0 ≤ c ∧ c ≤ n
theorem Tp.mono {n m : Int} {t : T} (h : Tp n t) (q : n ≤ m) : Tp m t := by
  obtain ⟨a, b, c, e, h1, h2, h3, h4, h5⟩ := h
  exact ⟨a, b, c, e, h1, h2, h3, h4, by omega⟩
theorem take_ok {n m : Int} {t : T} {Q : T × Option T → Prop} (h : Tp n t) (hn : n < 1000000000) (hm : 0 < m ∧ m < 1073741824) (q : ∀ i u, 0 ≤ i → i < m → Tp (n + 1) u → Q (.int i, some u)) : wp (f__law_take [t, .int m]) Q := by
  obtain ⟨a, b, c, rfl, ha, hb, hb2, hc, hc2⟩ := h
  unfold f__law_take b__law_take
  simp only [↓zzaa, ↓zzab, ↓zzac, ↓zzad, ↓zzae, ↓zzaf, ↓zzag, ↓zzah, ↓zzai, ↓zzaj, ↓zzak, ↓zzal, ↓zzam, ↓zzan, ↓zzao, ↓zzap, ↓zzaq, ↓zzar, ↓zzas, ↓zzat, ↓zzau, ↓zzav, ↓zzaw, ↓zzax, ↓zzay, ↓zzaz, ↓zzba, ↓zzbb, ↓zzbc, ↓zzbd, ↓zzbe, ↓zzbf, ↓zzbg, ↓zzbh, ↓zzbi, ↓zzbj, ↓zzbk, ↓zzbl, ↓zzbm, ↓zzbn, ↓zzbo, ↓zzbp, ↓zzbq, ↓zzbr, ↓zzbs, ↓zzbt, ↓zzbu, ↓zzbv, ↓zzbw, ↓zzbx, ↓zzby, ↓zzbz, ↓zzca, ↓zzcb, ↓zzcc, ↓zzcd, ↓zzce, ↓zzcf, ↓zzcg, ↓zzch, ↓zzci, ↓zzcj, ↓zzck, ↓zzcl, ↓zzcm, ↓zzcn, ↓zzco, ↓zzcp, ↓zzcq, ↓zzcr, ↓zzcs, ↓zzct, ↓zzcu, ↓zzcv, ↓zzcw, ↓zzcx, ↓zzcy, ↓zzcz, ↓zzda, ↓zzdb, ↓zzdc, ↓zzdd, zzde, ↓zzdf, ↓zzdg, ↓zzdh, ↓zzdi, ↓zzdj, ↓zzdk, ↓zzdl, ↓zzdm, ↓zzdn, ↓zzdo, ↓zzdp, ↓zzdq, zzdr, zzds, zzdt, zzdu, zzdv, zzdw, zzdx, zzdy, zzdz, zzea, zzeb, oEq, oNe, eqT, oAdd, oNeg, oAbs, oMax2, oMin2, oInt, oLen, oIsN, oNotN, oIn, oNin, inT, eqF, oIsi, oIsi2, oList, oTuple, seqT, zp, enm, two, three, ioFind, ioCount, brOk, Bop.still, Bop.isI, T.ow, T.owl, T.nob, T.nobl, T.nfz, T.nfzl, T.fz, T.fzl, Bop.fit, Bop.res, Bop.bo, zzec, zzed, zzee, zzef, zzeg, zzeh, zzei, zzej, zzef, zzeg, zzeh, zzei, zzek, zzel, List.all_cons, List.all_nil, List.any_cons, List.any_nil, zzem, zzen, zzeo, zzep, zzeq, zzer, zzes, zzet, Bool.not_false, Bool.not_true, Bool.or_false, Bool.false_or, Bool.and_true, Bool.true_and, Bool.or_true, Bool.true_or, Bool.and_false, Bool.false_and, Bool.not_not, Bool.not_eq_true', decide_eq_false_iff_not, Bool.and_eq_true, Bool.or_eq_true, true_or, or_true, false_or, or_false, true_and, and_true, false_and, and_false, Bool.false_eq_true, false_imp_iff, if_true, if_false, forall_const, implies_true, Option.some.injEq, Option.isSome_some, forall_eq', reduceCtorEq, List.cons_append, List.nil_append, List.length_cons, List.length_nil, List.length_map, List.length_append, List.length_range, zzeu, zzev, zzew, List.replicate, List.flatten_cons, List.flatten_nil, List.append_nil, Nat.reduceAdd, Nat.reduceSub, Nat.reduceLT, Nat.reduceLeDiff, List.set_cons_zero, List.set_cons_succ, decide_eq_true_eq, decide_true, decide_false, Int.reduceLT, Int.reduceLE, Int.reduceMul, Int.reducePow, Int.reduceToNat, Int.reduceAdd, Int.reduceSub, Int.reduceNeg, Int.reduceEq, Nat.reducePow, zzex, zzey, zzez, Nat.zero_add, big, zzfa, zzfb, String.reduceEq, wipeE, zzfc, zzfd, zzah, zzai, Option.getD_some, ↓zzfe, ↓zzff, ↓zzfg, ↓zzfh, ↓zzfi, ↓zzfj, ↓zzfk, ↓zzfl, ↓zzfm, ↓zzfn, ↓zzfo, ↓zzfp, ↓zzfq, ↓zzfr, ↓zzfs, ↓zzft, ↓zzfu, ↓zzfv, ↓zzfw, ↓zzfx, ↓zzfy, ↓zzfz, ↓zzga, ↓zzgb, ↓zzgc, ↓zzgd, ↓zzge, ↓zzgf, ↓zzgg, ↓zzgh, ↓zzgi, ↓zzgj, ↓zzgk, ↓zzgl, ↓zzgm, ↓zzgn, ↓zzgo, ↓zzgp, ↓zzgq, ↓zzgr, ↓zzgs, ↓zzgt, ↓zzgu, ↓zzgv, ↓zzgw, ↓zzgx, ↓zzgy, ↓zzgz, ↓zzha, ↓zzhb, ↓zzhc, ↓zzhd, ↓zzhe, ↓zzhf, ↓zzhg, ↓zzhh, ↓zzhi, ↓zzhj, ↓zzhk, ↓zzhl, ↓zzhm, ↓zzhn, ↓zzho, ↓zzhp, ↓zzhq, ↓zzhr, ↓zzhs, ↓zzht, ↓zzhl, zzhu, zzhv, zzhw, zzhx, zzhy, zzhz, zzia, zzib, zzic, zzid, zzie, zzif, zzig, zzih, zzii, zzij, zzik, zzil, zzim, zzin, zzio, zzip, zziq, zzir, zzis, zzit, zziu, zziv, zziw, zzix, zziy, zziz, zzja, zzjb, zzjc, zzjd, zzje, zzjf, zzjg, zzjh, zzji, zzjj, zzjk, zzjl, zzjm, zzjn, zzjo, zzjp, zzjq, zzjr, zzjs, zzjt, zzju, zzjv, zzjw, zzjx, zzjy, zzjz, zzka, zzkb, zzkc, zzkd, zzke, zzkf, zzkg, zzkh, zzki, zzkj, zzkk, zzkl, zzkm, zzkn, zzko, zzkp, zzkq, zzkr, zzks, zzkt, zzku, zzkv, zzkw, zzkx, zzky, zzkz, zzla, zzlb, zzlc, zzld, zzle, zzlf, zzlg, zzlh, zzli, zzlj, zzlk, zzll, zzlm, zzln, zzlo, ↓zzlp, ↓zzlq, ↓zzlr, ↓zzls, ↓zzlt, ↓zzlu, ↓zzlv, ↓zzlw, ↓zzlx, ↓zzly, ↓zzlz, ↓zzma, zzmb, zzmc, ↓zzmd, ↓zzme, ↓zzmf, ↓zzmg, ↓zzmh, zzmi, zzmj, zzmk, zzml, zzmm, zzmn, zzmo, zzmp, zzmq, zzmr, zzms, Option.bind_some, Option.map_some, ↓zzmt, ↓zzmu, ↓zzmv, ↓zzmw, ↓zzmx, ↓zzmy, ↓zzmz, ↓zzna, ↓zznb, ↓zznc, ↓zznd, ↓zzne, ↓zznf, ↓zzng, ↓zznh, ↓zzni, ↓zznj, ↓zznk, ↓zznl]
  split
  · refine ⟨by omega, by omega, q _ _ (Int.emod_nonneg _ (by omega)) (Int.emod_lt_of_pos _ (by omega)) ⟨_, _, _, rfl, Int.ediv_nonneg (by omega) (by omega), by omega, by omega, by omega, by omega⟩⟩
  · generalize h1 : (b + 39373 * (c + 1)) * (48271 + (c + 1)) % 2147483647 = x
    generalize h2 : (x * (x % 40009 + 7) + (c + 1)) % 2147483629 = y
    exact ⟨by omega, by omega, by omega, by omega, q _ _ (Int.emod_nonneg _ (by omega)) (Int.emod_lt_of_pos _ (by omega)) ⟨_, _, _, rfl, by omega, by omega, by omega, by omega, by omega⟩⟩
theorem owl_ints : ∀ ns : List Int, T.owl (ns.map T.int) = false
  | [] => rfl
  | _ :: ns => owl_ints ns
/-- the script -/
def Scr (s : T) : Prop := ∃ xs : List Int, s = .lk (xs.map T.int) ∧ xs.length ≤ 63
theorem scr {ns : List Int} (h : ns.length ≤ 63) : Scr (.lk (ns.map T.int)) := ⟨ns, rfl, h⟩
theorem cell_ok {s : T} {k : Int} {Q : T × Option T → Prop} (h : Scr s) (hk : 0 ≤ k) (q : ∀ c : Int, Q (.int c, none)) : wp (f__law_cell_at [s, .int k]) Q := by
  obtain ⟨xs, rfl, h1⟩ := h
  unfold f__law_cell_at b__law_cell_at
  simp only [↓zzaa, ↓zzab, ↓zzac, ↓zzad, ↓zzae, ↓zzaf, ↓zzag, ↓zzah, ↓zzai, ↓zzaj, ↓zzak, ↓zzal, ↓zzam, ↓zzan, ↓zzao, ↓zzap, ↓zzaq, ↓zzar, ↓zzas, ↓zzat, ↓zzau, ↓zzav, ↓zzaw, ↓zzax, ↓zzay, ↓zzaz, ↓zzba, ↓zzbb, ↓zzbc, ↓zzbd, ↓zzbe, ↓zzbf, ↓zzbg, ↓zzbh, ↓zzbi, ↓zzbj, ↓zzbk, ↓zzbl, ↓zzbm, ↓zzbn, ↓zzbo, ↓zzbp, ↓zzbq, ↓zzbr, ↓zzbs, ↓zzbt, ↓zzbu, ↓zzbv, ↓zzbw, ↓zzbx, ↓zzby, ↓zzbz, ↓zzca, ↓zzcb, ↓zzcc, ↓zzcd, ↓zzce, ↓zzcf, ↓zzcg, ↓zzch, ↓zzci, ↓zzcj, ↓zzck, ↓zzcl, ↓zzcm, ↓zzcn, ↓zzco, ↓zzcp, ↓zzcq, ↓zzcr, ↓zzcs, ↓zzct, ↓zzcu, ↓zzcv, ↓zzcw, ↓zzcx, ↓zzcy, ↓zzcz, ↓zzda, ↓zzdb, ↓zzdc, ↓zzdd, zzde, ↓zzdf, ↓zzdg, ↓zzdh, ↓zzdi, ↓zzdj, ↓zzdk, ↓zzdl, ↓zzdm, ↓zzdn, ↓zzdo, ↓zzdp, ↓zzdq, zzdr, zzds, zzdt, zzdu, zzdv, zzdw, zzdx, zzdy, zzdz, zzea, zzeb, oEq, oNe, eqT, oAdd, oNeg, oAbs, oMax2, oMin2, oInt, oLen, oIsN, oNotN, oIn, oNin, inT, eqF, oIsi, oIsi2, oList, oTuple, seqT, zp, enm, two, three, ioFind, ioCount, brOk, Bop.still, Bop.isI, T.ow, T.owl, T.nob, T.nobl, T.nfz, T.nfzl, T.fz, T.fzl, Bop.fit, Bop.res, Bop.bo, zzec, zzed, zzee, zzef, zzeg, zzeh, zzei, zzej, zzef, zzeg, zzeh, zzei, zzek, zzel, List.all_cons, List.all_nil, List.any_cons, List.any_nil, zzem, zzen, zzeo, zzep, zzeq, zzer, zzes, zzet, Bool.not_false, Bool.not_true, Bool.or_false, Bool.false_or, Bool.and_true, Bool.true_and, Bool.or_true, Bool.true_or, Bool.and_false, Bool.false_and, Bool.not_not, Bool.not_eq_true', decide_eq_false_iff_not, Bool.and_eq_true, Bool.or_eq_true, true_or, or_true, false_or, or_false, true_and, and_true, false_and, and_false, Bool.false_eq_true, false_imp_iff, if_true, if_false, forall_const, implies_true, Option.some.injEq, Option.isSome_some, forall_eq', reduceCtorEq, List.cons_append, List.nil_append, List.length_cons, List.length_nil, List.length_map, List.length_append, List.length_range, zzeu, zzev, zzew, List.replicate, List.flatten_cons, List.flatten_nil, List.append_nil, Nat.reduceAdd, Nat.reduceSub, Nat.reduceLT, Nat.reduceLeDiff, List.set_cons_zero, List.set_cons_succ, decide_eq_true_eq, decide_true, decide_false, Int.reduceLT, Int.reduceLE, Int.reduceMul, Int.reducePow, Int.reduceToNat, Int.reduceAdd, Int.reduceSub, Int.reduceNeg, Int.reduceEq, Nat.reducePow, zzex, zzey, zzez, Nat.zero_add, big, zzfa, zzfb, String.reduceEq, wipeE, zzfc, zzfd, zzah, zzai, Option.getD_some, ↓zzfe, ↓zzff, ↓zzfg, ↓zzfh, ↓zzfi, ↓zzfj, ↓zzfk, ↓zzfl, ↓zzfm, ↓zzfn, ↓zzfo, ↓zzfp, ↓zzfq, ↓zzfr, ↓zzfs, ↓zzft, ↓zzfu, ↓zzfv, ↓zzfw, ↓zzfx, ↓zzfy, ↓zzfz, ↓zzga, ↓zzgb, ↓zzgc, ↓zzgd, ↓zzge, ↓zzgf, ↓zzgg, ↓zzgh, ↓zzgi, ↓zzgj, ↓zzgk, ↓zzgl, ↓zzgm, ↓zzgn, ↓zzgo, ↓zzgp, ↓zzgq, ↓zzgr, ↓zzgs, ↓zzgt, ↓zzgu, ↓zzgv, ↓zzgw, ↓zzgx, ↓zzgy, ↓zzgz, ↓zzha, ↓zzhb, ↓zzhc, ↓zzhd, ↓zzhe, ↓zzhf, ↓zzhg, ↓zzhh, ↓zzhi, ↓zzhj, ↓zzhk, ↓zzhl, ↓zzhm, ↓zzhn, ↓zzho, ↓zzhp, ↓zzhq, ↓zzhr, ↓zzhs, ↓zzht, ↓zzhl, zzhu, zzhv, zzhw, zzhx, zzhy, zzhz, zzia, zzib, zzic, zzid, zzie, zzif, zzig, zzih, zzii, zzij, zzik, zzil, zzim, zzin, zzio, zzip, zziq, zzir, zzis, zzit, zziu, zziv, zziw, zzix, zziy, zziz, zzja, zzjb, zzjc, zzjd, zzje, zzjf, zzjg, zzjh, zzji, zzjj, zzjk, zzjl, zzjm, zzjn, zzjo, zzjp, zzjq, zzjr, zzjs, zzjt, zzju, zzjv, zzjw, zzjx, zzjy, zzjz, zzka, zzkb, zzkc, zzkd, zzke, zzkf, zzkg, zzkh, zzki, zzkj, zzkk, zzkl, zzkm, zzkn, zzko, zzkp, zzkq, zzkr, zzks, zzkt, zzku, zzkv, zzkw, zzkx, zzky, zzkz, zzla, zzlb, zzlc, zzld, zzle, zzlf, zzlg, zzlh, zzli, zzlj, zzlk, zzll, zzlm, zzln, zzlo, ↓zzlp, ↓zzlq, ↓zzlr, ↓zzls, ↓zzlt, ↓zzlu, ↓zzlv, ↓zzlw, ↓zzlx, ↓zzly, ↓zzlz, ↓zzma, zzmb, zzmc, ↓zzmd, ↓zzme, ↓zzmf, ↓zzmg, ↓zzmh, zzmi, zzmj, zzmk, zzml, zzmm, zzmn, zzmo, zzmp, zzmq, zzmr, zzms, Option.bind_some, Option.map_some, ↓zzmt, ↓zzmu, ↓zzmv, ↓zzmw, ↓zzmx, ↓zzmy, ↓zzmz, ↓zzna, ↓zznb, ↓zznc, ↓zznd, ↓zzne, ↓zznf, ↓zzng, ↓zznh, ↓zzni, ↓zznj, ↓zznk, ↓zznl]
  split
  · refine opt_at hk (by simpa using ‹_›) fun c hx _ => ?_
    simp only [↓zzaa, ↓zzab, ↓zzac, ↓zzad, ↓zzae, ↓zzaf, ↓zzag, ↓zzah, ↓zzai, ↓zzaj, ↓zzak, ↓zzal, ↓zzam, ↓zzan, ↓zzao, ↓zzap, ↓zzaq, ↓zzar, ↓zzas, ↓zzat, ↓zzau, ↓zzav, ↓zzaw, ↓zzax, ↓zzay, ↓zzaz, ↓zzba, ↓zzbb, ↓zzbc, ↓zzbd, ↓zzbe, ↓zzbf, ↓zzbg, ↓zzbh, ↓zzbi, ↓zzbj, ↓zzbk, ↓zzbl, ↓zzbm, ↓zzbn, ↓zzbo, ↓zzbp, ↓zzbq, ↓zzbr, ↓zzbs, ↓zzbt, ↓zzbu, ↓zzbv, ↓zzbw, ↓zzbx, ↓zzby, ↓zzbz, ↓zzca, ↓zzcb, ↓zzcc, ↓zzcd, ↓zzce, ↓zzcf, ↓zzcg, ↓zzch, ↓zzci, ↓zzcj, ↓zzck, ↓zzcl, ↓zzcm, ↓zzcn, ↓zzco, ↓zzcp, ↓zzcq, ↓zzcr, ↓zzcs, ↓zzct, ↓zzcu, ↓zzcv, ↓zzcw, ↓zzcx, ↓zzcy, ↓zzcz, ↓zzda, ↓zzdb, ↓zzdc, ↓zzdd, zzde, ↓zzdf, ↓zzdg, ↓zzdh, ↓zzdi, ↓zzdj, ↓zzdk, ↓zzdl, ↓zzdm, ↓zzdn, ↓zzdo, ↓zzdp, ↓zzdq, zzdr, zzds, zzdt, zzdu, zzdv, zzdw, zzdx, zzdy, zzdz, zzea, zzeb, oEq, oNe, eqT, oAdd, oNeg, oAbs, oMax2, oMin2, oInt, oLen, oIsN, oNotN, oIn, oNin, inT, eqF, oIsi, oIsi2, oList, oTuple, seqT, zp, enm, two, three, ioFind, ioCount, brOk, Bop.still, Bop.isI, T.ow, T.owl, T.nob, T.nobl, T.nfz, T.nfzl, T.fz, T.fzl, Bop.fit, Bop.res, Bop.bo, zzec, zzed, zzee, zzef, zzeg, zzeh, zzei, zzej, zzef, zzeg, zzeh, zzei, zzek, zzel, List.all_cons, List.all_nil, List.any_cons, List.any_nil, zzem, zzen, zzeo, zzep, zzeq, zzer, zzes, zzet, Bool.not_false, Bool.not_true, Bool.or_false, Bool.false_or, Bool.and_true, Bool.true_and, Bool.or_true, Bool.true_or, Bool.and_false, Bool.false_and, Bool.not_not, Bool.not_eq_true', decide_eq_false_iff_not, Bool.and_eq_true, Bool.or_eq_true, true_or, or_true, false_or, or_false, true_and, and_true, false_and, and_false, Bool.false_eq_true, false_imp_iff, if_true, if_false, forall_const, implies_true, Option.some.injEq, Option.isSome_some, forall_eq', reduceCtorEq, List.cons_append, List.nil_append, List.length_cons, List.length_nil, List.length_map, List.length_append, List.length_range, zzeu, zzev, zzew, List.replicate, List.flatten_cons, List.flatten_nil, List.append_nil, Nat.reduceAdd, Nat.reduceSub, Nat.reduceLT, Nat.reduceLeDiff, List.set_cons_zero, List.set_cons_succ, decide_eq_true_eq, decide_true, decide_false, Int.reduceLT, Int.reduceLE, Int.reduceMul, Int.reducePow, Int.reduceToNat, Int.reduceAdd, Int.reduceSub, Int.reduceNeg, Int.reduceEq, Nat.reducePow, zzex, zzey, zzez, Nat.zero_add, big, zzfa, zzfb, String.reduceEq, wipeE, zzfc, zzfd, zzah, zzai, Option.getD_some, ↓zzfe, ↓zzff, ↓zzfg, ↓zzfh, ↓zzfi, ↓zzfj, ↓zzfk, ↓zzfl, ↓zzfm, ↓zzfn, ↓zzfo, ↓zzfp, ↓zzfq, ↓zzfr, ↓zzfs, ↓zzft, ↓zzfu, ↓zzfv, ↓zzfw, ↓zzfx, ↓zzfy, ↓zzfz, ↓zzga, ↓zzgb, ↓zzgc, ↓zzgd, ↓zzge, ↓zzgf, ↓zzgg, ↓zzgh, ↓zzgi, ↓zzgj, ↓zzgk, ↓zzgl, ↓zzgm, ↓zzgn, ↓zzgo, ↓zzgp, ↓zzgq, ↓zzgr, ↓zzgs, ↓zzgt, ↓zzgu, ↓zzgv, ↓zzgw, ↓zzgx, ↓zzgy, ↓zzgz, ↓zzha, ↓zzhb, ↓zzhc, ↓zzhd, ↓zzhe, ↓zzhf, ↓zzhg, ↓zzhh, ↓zzhi, ↓zzhj, ↓zzhk, ↓zzhl, ↓zzhm, ↓zzhn, ↓zzho, ↓zzhp, ↓zzhq, ↓zzhr, ↓zzhs, ↓zzht, ↓zzhl, zzhu, zzhv, zzhw, zzhx, zzhy, zzhz, zzia, zzib, zzic, zzid, zzie, zzif, zzig, zzih, zzii, zzij, zzik, zzil, zzim, zzin, zzio, zzip, zziq, zzir, zzis, zzit, zziu, zziv, zziw, zzix, zziy, zziz, zzja, zzjb, zzjc, zzjd, zzje, zzjf, zzjg, zzjh, zzji, zzjj, zzjk, zzjl, zzjm, zzjn, zzjo, zzjp, zzjq, zzjr, zzjs, zzjt, zzju, zzjv, zzjw, zzjx, zzjy, zzjz, zzka, zzkb, zzkc, zzkd, zzke, zzkf, zzkg, zzkh, zzki, zzkj, zzkk, zzkl, zzkm, zzkn, zzko, zzkp, zzkq, zzkr, zzks, zzkt, zzku, zzkv, zzkw, zzkx, zzky, zzkz, zzla, zzlb, zzlc, zzld, zzle, zzlf, zzlg, zzlh, zzli, zzlj, zzlk, zzll, zzlm, zzln, zzlo, ↓zzlp, ↓zzlq, ↓zzlr, ↓zzls, ↓zzlt, ↓zzlu, ↓zzlv, ↓zzlw, ↓zzlx, ↓zzly, ↓zzlz, ↓zzma, zzmb, zzmc, ↓zzmd, ↓zzme, ↓zzmf, ↓zzmg, ↓zzmh, zzmi, zzmj, zzmk, zzml, zzmm, zzmn, zzmo, zzmp, zzmq, zzmr, zzms, Option.bind_some, Option.map_some, ↓zzmt, ↓zzmu, ↓zzmv, ↓zzmw, ↓zzmx, ↓zzmy, ↓zzmz, ↓zzna, ↓zznb, ↓zznc, ↓zznd, ↓zzne, ↓zznf, ↓zzng, ↓zznh, ↓zzni, ↓zznj, ↓zznk, ↓zznl]
    exact q c
  · exact q 0
theorem tape_ok {s : T} {k : Int} {Q : T × Option T → Prop} (h : Scr s) (hk : 0 ≤ k ∧ k < 1000) (q : ∀ u, Tp 0 u → Q (u, none)) : wp (f__law_tape [s, .int k]) Q := by
  have h0 := h
  obtain ⟨xs, rfl, h1⟩ := h
  unfold f__law_tape b__law_tape
  simp only [↓zzaa, ↓zzab, ↓zzac, ↓zzad, ↓zzae, ↓zzaf, ↓zzag, ↓zzah, ↓zzai, ↓zzaj, ↓zzak, ↓zzal, ↓zzam, ↓zzan, ↓zzao, ↓zzap, ↓zzaq, ↓zzar, ↓zzas, ↓zzat, ↓zzau, ↓zzav, ↓zzaw, ↓zzax, ↓zzay, ↓zzaz, ↓zzba, ↓zzbb, ↓zzbc, ↓zzbd, ↓zzbe, ↓zzbf, ↓zzbg, ↓zzbh, ↓zzbi, ↓zzbj, ↓zzbk, ↓zzbl, ↓zzbm, ↓zzbn, ↓zzbo, ↓zzbp, ↓zzbq, ↓zzbr, ↓zzbs, ↓zzbt, ↓zzbu, ↓zzbv, ↓zzbw, ↓zzbx, ↓zzby, ↓zzbz, ↓zzca, ↓zzcb, ↓zzcc, ↓zzcd, ↓zzce, ↓zzcf, ↓zzcg, ↓zzch, ↓zzci, ↓zzcj, ↓zzck, ↓zzcl, ↓zzcm, ↓zzcn, ↓zzco, ↓zzcp, ↓zzcq, ↓zzcr, ↓zzcs, ↓zzct, ↓zzcu, ↓zzcv, ↓zzcw, ↓zzcx, ↓zzcy, ↓zzcz, ↓zzda, ↓zzdb, ↓zzdc, ↓zzdd, zzde, ↓zzdf, ↓zzdg, ↓zzdh, ↓zzdi, ↓zzdj, ↓zzdk, ↓zzdl, ↓zzdm, ↓zzdn, ↓zzdo, ↓zzdp, ↓zzdq, zzdr, zzds, zzdt, zzdu, zzdv, zzdw, zzdx, zzdy, zzdz, zzea, zzeb, oEq, oNe, eqT, oAdd, oNeg, oAbs, oMax2, oMin2, oInt, oLen, oIsN, oNotN, oIn, oNin, inT, eqF, oIsi, oIsi2, oList, oTuple, seqT, zp, enm, two, three, ioFind, ioCount, brOk, Bop.still, Bop.isI, T.ow, T.owl, T.nob, T.nobl, T.nfz, T.nfzl, T.fz, T.fzl, Bop.fit, Bop.res, Bop.bo, zzec, zzed, zzee, zzef, zzeg, zzeh, zzei, zzej, zzef, zzeg, zzeh, zzei, zzek, zzel, List.all_cons, List.all_nil, List.any_cons, List.any_nil, zzem, zzen, zzeo, zzep, zzeq, zzer, zzes, zzet, Bool.not_false, Bool.not_true, Bool.or_false, Bool.false_or, Bool.and_true, Bool.true_and, Bool.or_true, Bool.true_or, Bool.and_false, Bool.false_and, Bool.not_not, Bool.not_eq_true', decide_eq_false_iff_not, Bool.and_eq_true, Bool.or_eq_true, true_or, or_true, false_or, or_false, true_and, and_true, false_and, and_false, Bool.false_eq_true, false_imp_iff, if_true, if_false, forall_const, implies_true, Option.some.injEq, Option.isSome_some, forall_eq', reduceCtorEq, List.cons_append, List.nil_append, List.length_cons, List.length_nil, List.length_map, List.length_append, List.length_range, zzeu, zzev, zzew, List.replicate, List.flatten_cons, List.flatten_nil, List.append_nil, Nat.reduceAdd, Nat.reduceSub, Nat.reduceLT, Nat.reduceLeDiff, List.set_cons_zero, List.set_cons_succ, decide_eq_true_eq, decide_true, decide_false, Int.reduceLT, Int.reduceLE, Int.reduceMul, Int.reducePow, Int.reduceToNat, Int.reduceAdd, Int.reduceSub, Int.reduceNeg, Int.reduceEq, Nat.reducePow, zzex, zzey, zzez, Nat.zero_add, big, zzfa, zzfb, String.reduceEq, wipeE, zzfc, zzfd, zzah, zzai, Option.getD_some, ↓zzfe, ↓zzff, ↓zzfg, ↓zzfh, ↓zzfi, ↓zzfj, ↓zzfk, ↓zzfl, ↓zzfm, ↓zzfn, ↓zzfo, ↓zzfp, ↓zzfq, ↓zzfr, ↓zzfs, ↓zzft, ↓zzfu, ↓zzfv, ↓zzfw, ↓zzfx, ↓zzfy, ↓zzfz, ↓zzga, ↓zzgb, ↓zzgc, ↓zzgd, ↓zzge, ↓zzgf, ↓zzgg, ↓zzgh, ↓zzgi, ↓zzgj, ↓zzgk, ↓zzgl, ↓zzgm, ↓zzgn, ↓zzgo, ↓zzgp, ↓zzgq, ↓zzgr, ↓zzgs, ↓zzgt, ↓zzgu, ↓zzgv, ↓zzgw, ↓zzgx, ↓zzgy, ↓zzgz, ↓zzha, ↓zzhb, ↓zzhc, ↓zzhd, ↓zzhe, ↓zzhf, ↓zzhg, ↓zzhh, ↓zzhi, ↓zzhj, ↓zzhk, ↓zzhl, ↓zzhm, ↓zzhn, ↓zzho, ↓zzhp, ↓zzhq, ↓zzhr, ↓zzhs, ↓zzht, ↓zzhl, zzhu, zzhv, zzhw, zzhx, zzhy, zzhz, zzia, zzib, zzic, zzid, zzie, zzif, zzig, zzih, zzii, zzij, zzik, zzil, zzim, zzin, zzio, zzip, zziq, zzir, zzis, zzit, zziu, zziv, zziw, zzix, zziy, zziz, zzja, zzjb, zzjc, zzjd, zzje, zzjf, zzjg, zzjh, zzji, zzjj, zzjk, zzjl, zzjm, zzjn, zzjo, zzjp, zzjq, zzjr, zzjs, zzjt, zzju, zzjv, zzjw, zzjx, zzjy, zzjz, zzka, zzkb, zzkc, zzkd, zzke, zzkf, zzkg, zzkh, zzki, zzkj, zzkk, zzkl, zzkm, zzkn, zzko, zzkp, zzkq, zzkr, zzks, zzkt, zzku, zzkv, zzkw, zzkx, zzky, zzkz, zzla, zzlb, zzlc, zzld, zzle, zzlf, zzlg, zzlh, zzli, zzlj, zzlk, zzll, zzlm, zzln, zzlo, ↓zzlp, ↓zzlq, ↓zzlr, ↓zzls, ↓zzlt, ↓zzlu, ↓zzlv, ↓zzlw, ↓zzlx, ↓zzly, ↓zzlz, ↓zzma, zzmb, zzmc, ↓zzmd, ↓zzme, ↓zzmf, ↓zzmg, ↓zzmh, zzmi, zzmj, zzmk, zzml, zzmm, zzmn, zzmo, zzmp, zzmq, zzmr, zzms, Option.bind_some, Option.map_some, ↓zzmt, ↓zzmu, ↓zzmv, ↓zzmw, ↓zzmx, ↓zzmy, ↓zzmz, ↓zzna, ↓zznb, ↓zznc, ↓zznd, ↓zzne, ↓zznf, ↓zzng, ↓zznh, ↓zzni, ↓zznj, ↓zznk, ↓zznl]
  refine cell_ok h0 hk.1 fun c => ?_
  simp only [↓zzaa, ↓zzab, ↓zzac, ↓zzad, ↓zzae, ↓zzaf, ↓zzag, ↓zzah, ↓zzai, ↓zzaj, ↓zzak, ↓zzal, ↓zzam, ↓zzan, ↓zzao, ↓zzap, ↓zzaq, ↓zzar, ↓zzas, ↓zzat, ↓zzau, ↓zzav, ↓zzaw, ↓zzax, ↓zzay, ↓zzaz, ↓zzba, ↓zzbb, ↓zzbc, ↓zzbd, ↓zzbe, ↓zzbf, ↓zzbg, ↓zzbh, ↓zzbi, ↓zzbj, ↓zzbk, ↓zzbl, ↓zzbm, ↓zzbn, ↓zzbo, ↓zzbp, ↓zzbq, ↓zzbr, ↓zzbs, ↓zzbt, ↓zzbu, ↓zzbv, ↓zzbw, ↓zzbx, ↓zzby, ↓zzbz, ↓zzca, ↓zzcb, ↓zzcc, ↓zzcd, ↓zzce, ↓zzcf, ↓zzcg, ↓zzch, ↓zzci, ↓zzcj, ↓zzck, ↓zzcl, ↓zzcm, ↓zzcn, ↓zzco, ↓zzcp, ↓zzcq, ↓zzcr, ↓zzcs, ↓zzct, ↓zzcu, ↓zzcv, ↓zzcw, ↓zzcx, ↓zzcy, ↓zzcz, ↓zzda, ↓zzdb, ↓zzdc, ↓zzdd, zzde, ↓zzdf, ↓zzdg, ↓zzdh, ↓zzdi, ↓zzdj, ↓zzdk, ↓zzdl, ↓zzdm, ↓zzdn, ↓zzdo, ↓zzdp, ↓zzdq, zzdr, zzds, zzdt, zzdu, zzdv, zzdw, zzdx, zzdy, zzdz, zzea, zzeb, oEq, oNe, eqT, oAdd, oNeg, oAbs, oMax2, oMin2, oInt, oLen, oIsN, oNotN, oIn, oNin, inT, eqF, oIsi, oIsi2, oList, oTuple, seqT, zp, enm, two, three, ioFind, ioCount, brOk, Bop.still, Bop.isI, T.ow, T.owl, T.nob, T.nobl, T.nfz, T.nfzl, T.fz, T.fzl, Bop.fit, Bop.res, Bop.bo, zzec, zzed, zzee, zzef, zzeg, zzeh, zzei, zzej, zzef, zzeg, zzeh, zzei, zzek, zzel, List.all_cons, List.all_nil, List.any_cons, List.any_nil, zzem, zzen, zzeo, zzep, zzeq, zzer, zzes, zzet, Bool.not_false, Bool.not_true, Bool.or_false, Bool.false_or, Bool.and_true, Bool.true_and, Bool.or_true, Bool.true_or, Bool.and_false, Bool.false_and, Bool.not_not, Bool.not_eq_true', decide_eq_false_iff_not, Bool.and_eq_true, Bool.or_eq_true, true_or, or_true, false_or, or_false, true_and, and_true, false_and, and_false, Bool.false_eq_true, false_imp_iff, if_true, if_false, forall_const, implies_true, Option.some.injEq, Option.isSome_some, forall_eq', reduceCtorEq, List.cons_append, List.nil_append, List.length_cons, List.length_nil, List.length_map, List.length_append, List.length_range, zzeu, zzev, zzew, List.replicate, List.flatten_cons, List.flatten_nil, List.append_nil, Nat.reduceAdd, Nat.reduceSub, Nat.reduceLT, Nat.reduceLeDiff, List.set_cons_zero, List.set_cons_succ, decide_eq_true_eq, decide_true, decide_false, Int.reduceLT, Int.reduceLE, Int.reduceMul, Int.reducePow, Int.reduceToNat, Int.reduceAdd, Int.reduceSub, Int.reduceNeg, Int.reduceEq, Nat.reducePow, zzex, zzey, zzez, Nat.zero_add, big, zzfa, zzfb, String.reduceEq, wipeE, zzfc, zzfd, zzah, zzai, Option.getD_some, ↓zzfe, ↓zzff, ↓zzfg, ↓zzfh, ↓zzfi, ↓zzfj, ↓zzfk, ↓zzfl, ↓zzfm, ↓zzfn, ↓zzfo, ↓zzfp, ↓zzfq, ↓zzfr, ↓zzfs, ↓zzft, ↓zzfu, ↓zzfv, ↓zzfw, ↓zzfx, ↓zzfy, ↓zzfz, ↓zzga, ↓zzgb, ↓zzgc, ↓zzgd, ↓zzge, ↓zzgf, ↓zzgg, ↓zzgh, ↓zzgi, ↓zzgj, ↓zzgk, ↓zzgl, ↓zzgm, ↓zzgn, ↓zzgo, ↓zzgp, ↓zzgq, ↓zzgr, ↓zzgs, ↓zzgt, ↓zzgu, ↓zzgv, ↓zzgw, ↓zzgx, ↓zzgy, ↓zzgz, ↓zzha, ↓zzhb, ↓zzhc, ↓zzhd, ↓zzhe, ↓zzhf, ↓zzhg, ↓zzhh, ↓zzhi, ↓zzhj, ↓zzhk, ↓zzhl, ↓zzhm, ↓zzhn, ↓zzho, ↓zzhp, ↓zzhq, ↓zzhr, ↓zzhs, ↓zzht, ↓zzhl, zzhu, zzhv, zzhw, zzhx, zzhy, zzhz, zzia, zzib, zzic, zzid, zzie, zzif, zzig, zzih, zzii, zzij, zzik, zzil, zzim, zzin, zzio, zzip, zziq, zzir, zzis, zzit, zziu, zziv, zziw, zzix, zziy, zziz, zzja, zzjb, zzjc, zzjd, zzje, zzjf, zzjg, zzjh, zzji, zzjj, zzjk, zzjl, zzjm, zzjn, zzjo, zzjp, zzjq, zzjr, zzjs, zzjt, zzju, zzjv, zzjw, zzjx, zzjy, zzjz, zzka, zzkb, zzkc, zzkd, zzke, zzkf, zzkg, zzkh, zzki, zzkj, zzkk, zzkl, zzkm, zzkn, zzko, zzkp, zzkq, zzkr, zzks, zzkt, zzku, zzkv, zzkw, zzkx, zzky, zzkz, zzla, zzlb, zzlc, zzld, zzle, zzlf, zzlg, zzlh, zzli, zzlj, zzlk, zzll, zzlm, zzln, zzlo, ↓zzlp, ↓zzlq, ↓zzlr, ↓zzls, ↓zzlt, ↓zzlu, ↓zzlv, ↓zzlw, ↓zzlx, ↓zzly, ↓zzlz, ↓zzma, zzmb, zzmc, ↓zzmd, ↓zzme, ↓zzmf, ↓zzmg, ↓zzmh, zzmi, zzmj, zzmk, zzml, zzmm, zzmn, zzmo, zzmp, zzmq, zzmr, zzms, Option.bind_some, Option.map_some, ↓zzmt, ↓zzmu, ↓zzmv, ↓zzmw, ↓zzmx, ↓zzmy, ↓zzmz, ↓zzna, ↓zznb, ↓zznc, ↓zznd, ↓zzne, ↓zznf, ↓zzng, ↓zznh, ↓zzni, ↓zznj, ↓zznk, ↓zznl]
  refine ⟨?_, q _ ⟨_, _, _, rfl, ?_, Int.emod_nonneg _ (by omega), Int.emod_lt_of_pos _ (by omega), by omega, by omega⟩⟩
  · right; split <;> omega
  · split <;> split <;> omega
/-- many draws alike -/
theorem draws_ok0 {v i : Nat} {m : Int} (hm : 0 < m ∧ m < 1073741824) (hv : v ≠ i) {P : List T × En → Prop} : ∀ {ts : List T} {n : Int} {t : T} {env : En}, look env i = some t → env[v]? = some none → Tp n t → n + ts.length < 1000000000 →
    (∀ (is : List Int) u, is.length = ts.length → (∀ x, x ∈ is → 0 ≤ x ∧ x < m) → Tp (n + ts.length) u → P (is.map T.int, env.set i (some u))) →
    wp (lcGo (gN v) cYes (eCall (some 0) (some i) f__law_take (aCons (bIo i) (aCons (bE (eC (.int m))) aNil))) [v] ts env) P := by
  intro ts
  induction ts generalizing P with
  | nil =>
    intro n t env h1 h2 h3 h4 q
    have := q [] t rfl (fun _ z => nomatch z) (by simpa using h3)
    have e : env.set i (some t) = env := by
      refine List.ext_getElem? fun j => ?_
      by_cases hj : i = j
      · subst hj
        have hl : env[i]? = some (some t) := by
          unfold look at h1
          cases w : env[i]? with
          | none => rw [w] at h1; cases h1
          | some o => rw [w] at h1; exact congrArg some h1
        rw [List.getElem?_set_self (List.getElem?_eq_some_iff.mp hl).1, hl]
      · rw [List.getElem?_set_ne hj]
    rw [e] at this
    exact zzaa.mpr this
  | cons x ts ih =>
    intro n t env h1 h2 h3 h4 q
    rw [List.length_cons] at h4 q
    have hvl : v < env.length := (List.getElem?_eq_some_iff.mp h2).1
    have hil : i < env.length := by
      unfold look at h1
      cases w : env[i]? with
      | none => rw [w] at h1; cases h1
      | some o => exact (List.getElem?_eq_some_iff.mp w).1
    have look_ne : ∀ (w : Option T), look (env.set v w) i = some t := fun w => by
      unfold look; rw [List.getElem?_set_ne hv]; exact h1
    rw [w_lcCons]
    simp only [↓zzaa, ↓zzab, ↓zzac, ↓zzad, ↓zzae, ↓zzaf, ↓zzag, ↓zzah, ↓zzai, ↓zzaj, ↓zzak, ↓zzal, ↓zzam, ↓zzan, ↓zzao, ↓zzap, ↓zzaq, ↓zzar, ↓zzas, ↓zzat, ↓zzau, ↓zzav, ↓zzaw, ↓zzax, ↓zzay, ↓zzaz, ↓zzba, ↓zzbb, ↓zzbc, ↓zzbd, ↓zzbe, ↓zzbf, ↓zzbg, ↓zzbh, ↓zzbi, ↓zzbj, ↓zzbk, ↓zzbl, ↓zzbm, ↓zzbn, ↓zzbo, ↓zzbp, ↓zzbq, ↓zzbr, ↓zzbs, ↓zzbt, ↓zzbu, ↓zzbv, ↓zzbw, ↓zzbx, ↓zzby, ↓zzbz, ↓zzca, ↓zzcb, ↓zzcc, ↓zzcd, ↓zzce, ↓zzcf, ↓zzcg, ↓zzch, ↓zzci, ↓zzcj, ↓zzck, ↓zzcl, ↓zzcm, ↓zzcn, ↓zzco, ↓zzcp, ↓zzcq, ↓zzcr, ↓zzcs, ↓zzct, ↓zzcu, ↓zzcv, ↓zzcw, ↓zzcx, ↓zzcy, ↓zzcz, ↓zzda, ↓zzdb, ↓zzdc, ↓zzdd, zzde, ↓zzdf, ↓zzdg, ↓zzdh, ↓zzdi, ↓zzdj, ↓zzdk, ↓zzdl, ↓zzdm, ↓zzdn, ↓zzdo, ↓zzdp, ↓zzdq, zzdr, zzds, zzdt, zzdu, zzdv, zzdw, zzdx, zzdy, zzdz, zzea, zzeb, oEq, oNe, eqT, oAdd, oNeg, oAbs, oMax2, oMin2, oInt, oLen, oIsN, oNotN, oIn, oNin, inT, eqF, oIsi, oIsi2, oList, oTuple, seqT, zp, enm, two, three, ioFind, ioCount, brOk, Bop.still, Bop.isI, T.ow, T.owl, T.nob, T.nobl, T.nfz, T.nfzl, T.fz, T.fzl, Bop.fit, Bop.res, Bop.bo, zzec, zzed, zzee, zzef, zzeg, zzeh, zzei, zzej, zzef, zzeg, zzeh, zzei, zzek, zzel, List.all_cons, List.all_nil, List.any_cons, List.any_nil, zzem, zzen, zzeo, zzep, zzeq, zzer, zzes, zzet, Bool.not_false, Bool.not_true, Bool.or_false, Bool.false_or, Bool.and_true, Bool.true_and, Bool.or_true, Bool.true_or, Bool.and_false, Bool.false_and, Bool.not_not, Bool.not_eq_true', decide_eq_false_iff_not, Bool.and_eq_true, Bool.or_eq_true, true_or, or_true, false_or, or_false, true_and, and_true, false_and, and_false, Bool.false_eq_true, false_imp_iff, if_true, if_false, forall_const, implies_true, Option.some.injEq, Option.isSome_some, forall_eq', reduceCtorEq, List.cons_append, List.nil_append, List.length_cons, List.length_nil, List.length_map, List.length_append, List.length_range, zzeu, zzev, zzew, List.replicate, List.flatten_cons, List.flatten_nil, List.append_nil, Nat.reduceAdd, Nat.reduceSub, Nat.reduceLT, Nat.reduceLeDiff, List.set_cons_zero, List.set_cons_succ, decide_eq_true_eq, decide_true, decide_false, Int.reduceLT, Int.reduceLE, Int.reduceMul, Int.reducePow, Int.reduceToNat, Int.reduceAdd, Int.reduceSub, Int.reduceNeg, Int.reduceEq, Nat.reducePow, zzex, zzey, zzez, Nat.zero_add, big, zzfa, zzfb, String.reduceEq, wipeE, zzfc, zzfd, zzah, zzai, Option.getD_some, ↓zzfe, ↓zzff, ↓zzfg, ↓zzfh, ↓zzfi, ↓zzfj, ↓zzfk, ↓zzfl, ↓zzfm, ↓zzfn, ↓zzfo, ↓zzfp, ↓zzfq, ↓zzfr, ↓zzfs, ↓zzft, ↓zzfu, ↓zzfv, ↓zzfw, ↓zzfx, ↓zzfy, ↓zzfz, ↓zzga, ↓zzgb, ↓zzgc, ↓zzgd, ↓zzge, ↓zzgf, ↓zzgg, ↓zzgh, ↓zzgi, ↓zzgj, ↓zzgk, ↓zzgl, ↓zzgm, ↓zzgn, ↓zzgo, ↓zzgp, ↓zzgq, ↓zzgr, ↓zzgs, ↓zzgt, ↓zzgu, ↓zzgv, ↓zzgw, ↓zzgx, ↓zzgy, ↓zzgz, ↓zzha, ↓zzhb, ↓zzhc, ↓zzhd, ↓zzhe, ↓zzhf, ↓zzhg, ↓zzhh, ↓zzhi, ↓zzhj, ↓zzhk, ↓zzhl, ↓zzhm, ↓zzhn, ↓zzho, ↓zzhp, ↓zzhq, ↓zzhr, ↓zzhs, ↓zzht, ↓zzhl, zzhu, zzhv, zzhw, zzhx, zzhy, zzhz, zzia, zzib, zzic, zzid, zzie, zzif, zzig, zzih, zzii, zzij, zzik, zzil, zzim, zzin, zzio, zzip, zziq, zzir, zzis, zzit, zziu, zziv, zziw, zzix, zziy, zziz, zzja, zzjb, zzjc, zzjd, zzje, zzjf, zzjg, zzjh, zzji, zzjj, zzjk, zzjl, zzjm, zzjn, zzjo, zzjp, zzjq, zzjr, zzjs, zzjt, zzju, zzjv, zzjw, zzjx, zzjy, zzjz, zzka, zzkb, zzkc, zzkd, zzke, zzkf, zzkg, zzkh, zzki, zzkj, zzkk, zzkl, zzkm, zzkn, zzko, zzkp, zzkq, zzkr, zzks, zzkt, zzku, zzkv, zzkw, zzkx, zzky, zzkz, zzla, zzlb, zzlc, zzld, zzle, zzlf, zzlg, zzlh, zzli, zzlj, zzlk, zzll, zzlm, zzln, zzlo, ↓zzlp, ↓zzlq, ↓zzlr, ↓zzls, ↓zzlt, ↓zzlu, ↓zzlv, ↓zzlw, ↓zzlx, ↓zzly, ↓zzlz, ↓zzma, zzmb, zzmc, ↓zzmd, ↓zzme, ↓zzmf, ↓zzmg, ↓zzmh, zzmi, zzmj, zzmk, zzml, zzmm, zzmn, zzmo, zzmp, zzmq, zzmr, zzms, Option.bind_some, Option.map_some, ↓zzmt, ↓zzmu, ↓zzmv, ↓zzmw, ↓zzmx, ↓zzmy, ↓zzmz, ↓zzna, ↓zznb, ↓zznc, ↓zznd, ↓zzne, ↓zznf, ↓zzng, ↓zznh, ↓zzni, ↓zznj, ↓zznk, ↓zznl]
    refine ⟨hvl, ?_⟩
    simp only [↓zzaa, ↓zzab, ↓zzac, ↓zzad, ↓zzae, ↓zzaf, ↓zzag, ↓zzah, ↓zzai, ↓zzaj, ↓zzak, ↓zzal, ↓zzam, ↓zzan, ↓zzao, ↓zzap, ↓zzaq, ↓zzar, ↓zzas, ↓zzat, ↓zzau, ↓zzav, ↓zzaw, ↓zzax, ↓zzay, ↓zzaz, ↓zzba, ↓zzbb, ↓zzbc, ↓zzbd, ↓zzbe, ↓zzbf, ↓zzbg, ↓zzbh, ↓zzbi, ↓zzbj, ↓zzbk, ↓zzbl, ↓zzbm, ↓zzbn, ↓zzbo, ↓zzbp, ↓zzbq, ↓zzbr, ↓zzbs, ↓zzbt, ↓zzbu, ↓zzbv, ↓zzbw, ↓zzbx, ↓zzby, ↓zzbz, ↓zzca, ↓zzcb, ↓zzcc, ↓zzcd, ↓zzce, ↓zzcf, ↓zzcg, ↓zzch, ↓zzci, ↓zzcj, ↓zzck, ↓zzcl, ↓zzcm, ↓zzcn, ↓zzco, ↓zzcp, ↓zzcq, ↓zzcr, ↓zzcs, ↓zzct, ↓zzcu, ↓zzcv, ↓zzcw, ↓zzcx, ↓zzcy, ↓zzcz, ↓zzda, ↓zzdb, ↓zzdc, ↓zzdd, zzde, ↓zzdf, ↓zzdg, ↓zzdh, ↓zzdi, ↓zzdj, ↓zzdk, ↓zzdl, ↓zzdm, ↓zzdn, ↓zzdo, ↓zzdp, ↓zzdq, zzdr, zzds, zzdt, zzdu, zzdv, zzdw, zzdx, zzdy, zzdz, zzea, zzeb, oEq, oNe, eqT, oAdd, oNeg, oAbs, oMax2, oMin2, oInt, oLen, oIsN, oNotN, oIn, oNin, inT, eqF, oIsi, oIsi2, oList, oTuple, seqT, zp, enm, two, three, ioFind, ioCount, brOk, Bop.still, Bop.isI, T.ow, T.owl, T.nob, T.nobl, T.nfz, T.nfzl, T.fz, T.fzl, Bop.fit, Bop.res, Bop.bo, zzec, zzed, zzee, zzef, zzeg, zzeh, zzei, zzej, zzef, zzeg, zzeh, zzei, zzek, zzel, List.all_cons, List.all_nil, List.any_cons, List.any_nil, zzem, zzen, zzeo, zzep, zzeq, zzer, zzes, zzet, Bool.not_false, Bool.not_true, Bool.or_false, Bool.false_or, Bool.and_true, Bool.true_and, Bool.or_true, Bool.true_or, Bool.and_false, Bool.false_and, Bool.not_not, Bool.not_eq_true', decide_eq_false_iff_not, Bool.and_eq_true, Bool.or_eq_true, true_or, or_true, false_or, or_false, true_and, and_true, false_and, and_false, Bool.false_eq_true, false_imp_iff, if_true, if_false, forall_const, implies_true, Option.some.injEq, Option.isSome_some, forall_eq', reduceCtorEq, List.cons_append, List.nil_append, List.length_cons, List.length_nil, List.length_map, List.length_append, List.length_range, zzeu, zzev, zzew, List.replicate, List.flatten_cons, List.flatten_nil, List.append_nil, Nat.reduceAdd, Nat.reduceSub, Nat.reduceLT, Nat.reduceLeDiff, List.set_cons_zero, List.set_cons_succ, decide_eq_true_eq, decide_true, decide_false, Int.reduceLT, Int.reduceLE, Int.reduceMul, Int.reducePow, Int.reduceToNat, Int.reduceAdd, Int.reduceSub, Int.reduceNeg, Int.reduceEq, Nat.reducePow, zzex, zzey, zzez, Nat.zero_add, big, zzfa, zzfb, String.reduceEq, wipeE, zzfc, zzfd, zzah, zzai, Option.getD_some, ↓zzfe, ↓zzff, ↓zzfg, ↓zzfh, ↓zzfi, ↓zzfj, ↓zzfk, ↓zzfl, ↓zzfm, ↓zzfn, ↓zzfo, ↓zzfp, ↓zzfq, ↓zzfr, ↓zzfs, ↓zzft, ↓zzfu, ↓zzfv, ↓zzfw, ↓zzfx, ↓zzfy, ↓zzfz, ↓zzga, ↓zzgb, ↓zzgc, ↓zzgd, ↓zzge, ↓zzgf, ↓zzgg, ↓zzgh, ↓zzgi, ↓zzgj, ↓zzgk, ↓zzgl, ↓zzgm, ↓zzgn, ↓zzgo, ↓zzgp, ↓zzgq, ↓zzgr, ↓zzgs, ↓zzgt, ↓zzgu, ↓zzgv, ↓zzgw, ↓zzgx, ↓zzgy, ↓zzgz, ↓zzha, ↓zzhb, ↓zzhc, ↓zzhd, ↓zzhe, ↓zzhf, ↓zzhg, ↓zzhh, ↓zzhi, ↓zzhj, ↓zzhk, ↓zzhl, ↓zzhm, ↓zzhn, ↓zzho, ↓zzhp, ↓zzhq, ↓zzhr, ↓zzhs, ↓zzht, ↓zzhl, zzhu, zzhv, zzhw, zzhx, zzhy, zzhz, zzia, zzib, zzic, zzid, zzie, zzif, zzig, zzih, zzii, zzij, zzik, zzil, zzim, zzin, zzio, zzip, zziq, zzir, zzis, zzit, zziu, zziv, zziw, zzix, zziy, zziz, zzja, zzjb, zzjc, zzjd, zzje, zzjf, zzjg, zzjh, zzji, zzjj, zzjk, zzjl, zzjm, zzjn, zzjo, zzjp, zzjq, zzjr, zzjs, zzjt, zzju, zzjv, zzjw, zzjx, zzjy, zzjz, zzka, zzkb, zzkc, zzkd, zzke, zzkf, zzkg, zzkh, zzki, zzkj, zzkk, zzkl, zzkm, zzkn, zzko, zzkp, zzkq, zzkr, zzks, zzkt, zzku, zzkv, zzkw, zzkx, zzky, zzkz, zzla, zzlb, zzlc, zzld, zzle, zzlf, zzlg, zzlh, zzli, zzlj, zzlk, zzll, zzlm, zzln, zzlo, ↓zzlp, ↓zzlq, ↓zzlr, ↓zzls, ↓zzlt, ↓zzlu, ↓zzlv, ↓zzlw, ↓zzlx, ↓zzly, ↓zzlz, ↓zzma, zzmb, zzmc, ↓zzmd, ↓zzme, ↓zzmf, ↓zzmg, ↓zzmh, zzmi, zzmj, zzmk, zzml, zzmm, zzmn, zzmo, zzmp, zzmq, zzmr, zzms, Option.bind_some, Option.map_some, ↓zzmt, ↓zzmu, ↓zzmv, ↓zzmw, ↓zzmx, ↓zzmy, ↓zzmz, ↓zzna, ↓zznb, ↓zznc, ↓zznd, ↓zzne, ↓zznf, ↓zzng, ↓zznh, ↓zzni, ↓zznj, ↓zznk, ↓zznl, look_ne]
    refine take_ok h3 (by omega) hm fun y u hy1 hy2 hu => ?_
    simp only [↓zzaa, ↓zzab, ↓zzac, ↓zzad, ↓zzae, ↓zzaf, ↓zzag, ↓zzah, ↓zzai, ↓zzaj, ↓zzak, ↓zzal, ↓zzam, ↓zzan, ↓zzao, ↓zzap, ↓zzaq, ↓zzar, ↓zzas, ↓zzat, ↓zzau, ↓zzav, ↓zzaw, ↓zzax, ↓zzay, ↓zzaz, ↓zzba, ↓zzbb, ↓zzbc, ↓zzbd, ↓zzbe, ↓zzbf, ↓zzbg, ↓zzbh, ↓zzbi, ↓zzbj, ↓zzbk, ↓zzbl, ↓zzbm, ↓zzbn, ↓zzbo, ↓zzbp, ↓zzbq, ↓zzbr, ↓zzbs, ↓zzbt, ↓zzbu, ↓zzbv, ↓zzbw, ↓zzbx, ↓zzby, ↓zzbz, ↓zzca, ↓zzcb, ↓zzcc, ↓zzcd, ↓zzce, ↓zzcf, ↓zzcg, ↓zzch, ↓zzci, ↓zzcj, ↓zzck, ↓zzcl, ↓zzcm, ↓zzcn, ↓zzco, ↓zzcp, ↓zzcq, ↓zzcr, ↓zzcs, ↓zzct, ↓zzcu, ↓zzcv, ↓zzcw, ↓zzcx, ↓zzcy, ↓zzcz, ↓zzda, ↓zzdb, ↓zzdc, ↓zzdd, zzde, ↓zzdf, ↓zzdg, ↓zzdh, ↓zzdi, ↓zzdj, ↓zzdk, ↓zzdl, ↓zzdm, ↓zzdn, ↓zzdo, ↓zzdp, ↓zzdq, zzdr, zzds, zzdt, zzdu, zzdv, zzdw, zzdx, zzdy, zzdz, zzea, zzeb, oEq, oNe, eqT, oAdd, oNeg, oAbs, oMax2, oMin2, oInt, oLen, oIsN, oNotN, oIn, oNin, inT, eqF, oIsi, oIsi2, oList, oTuple, seqT, zp, enm, two, three, ioFind, ioCount, brOk, Bop.still, Bop.isI, T.ow, T.owl, T.nob, T.nobl, T.nfz, T.nfzl, T.fz, T.fzl, Bop.fit, Bop.res, Bop.bo, zzec, zzed, zzee, zzef, zzeg, zzeh, zzei, zzej, zzef, zzeg, zzeh, zzei, zzek, zzel, List.all_cons, List.all_nil, List.any_cons, List.any_nil, zzem, zzen, zzeo, zzep, zzeq, zzer, zzes, zzet, Bool.not_false, Bool.not_true, Bool.or_false, Bool.false_or, Bool.and_true, Bool.true_and, Bool.or_true, Bool.true_or, Bool.and_false, Bool.false_and, Bool.not_not, Bool.not_eq_true', decide_eq_false_iff_not, Bool.and_eq_true, Bool.or_eq_true, true_or, or_true, false_or, or_false, true_and, and_true, false_and, and_false, Bool.false_eq_true, false_imp_iff, if_true, if_false, forall_const, implies_true, Option.some.injEq, Option.isSome_some, forall_eq', reduceCtorEq, List.cons_append, List.nil_append, List.length_cons, List.length_nil, List.length_map, List.length_append, List.length_range, zzeu, zzev, zzew, List.replicate, List.flatten_cons, List.flatten_nil, List.append_nil, Nat.reduceAdd, Nat.reduceSub, Nat.reduceLT, Nat.reduceLeDiff, List.set_cons_zero, List.set_cons_succ, decide_eq_true_eq, decide_true, decide_false, Int.reduceLT, Int.reduceLE, Int.reduceMul, Int.reducePow, Int.reduceToNat, Int.reduceAdd, Int.reduceSub, Int.reduceNeg, Int.reduceEq, Nat.reducePow, zzex, zzey, zzez, Nat.zero_add, big, zzfa, zzfb, String.reduceEq, wipeE, zzfc, zzfd, zzah, zzai, Option.getD_some, ↓zzfe, ↓zzff, ↓zzfg, ↓zzfh, ↓zzfi, ↓zzfj, ↓zzfk, ↓zzfl, ↓zzfm, ↓zzfn, ↓zzfo, ↓zzfp, ↓zzfq, ↓zzfr, ↓zzfs, ↓zzft, ↓zzfu, ↓zzfv, ↓zzfw, ↓zzfx, ↓zzfy, ↓zzfz, ↓zzga, ↓zzgb, ↓zzgc, ↓zzgd, ↓zzge, ↓zzgf, ↓zzgg, ↓zzgh, ↓zzgi, ↓zzgj, ↓zzgk, ↓zzgl, ↓zzgm, ↓zzgn, ↓zzgo, ↓zzgp, ↓zzgq, ↓zzgr, ↓zzgs, ↓zzgt, ↓zzgu, ↓zzgv, ↓zzgw, ↓zzgx, ↓zzgy, ↓zzgz, ↓zzha, ↓zzhb, ↓zzhc, ↓zzhd, ↓zzhe, ↓zzhf, ↓zzhg, ↓zzhh, ↓zzhi, ↓zzhj, ↓zzhk, ↓zzhl, ↓zzhm, ↓zzhn, ↓zzho, ↓zzhp, ↓zzhq, ↓zzhr, ↓zzhs, ↓zzht, ↓zzhl, zzhu, zzhv, zzhw, zzhx, zzhy, zzhz, zzia, zzib, zzic, zzid, zzie, zzif, zzig, zzih, zzii, zzij, zzik, zzil, zzim, zzin, zzio, zzip, zziq, zzir, zzis, zzit, zziu, zziv, zziw, zzix, zziy, zziz, zzja, zzjb, zzjc, zzjd, zzje, zzjf, zzjg, zzjh, zzji, zzjj, zzjk, zzjl, zzjm, zzjn, zzjo, zzjp, zzjq, zzjr, zzjs, zzjt, zzju, zzjv, zzjw, zzjx, zzjy, zzjz, zzka, zzkb, zzkc, zzkd, zzke, zzkf, zzkg, zzkh, zzki, zzkj, zzkk, zzkl, zzkm, zzkn, zzko, zzkp, zzkq, zzkr, zzks, zzkt, zzku, zzkv, zzkw, zzkx, zzky, zzkz, zzla, zzlb, zzlc, zzld, zzle, zzlf, zzlg, zzlh, zzli, zzlj, zzlk, zzll, zzlm, zzln, zzlo, ↓zzlp, ↓zzlq, ↓zzlr, ↓zzls, ↓zzlt, ↓zzlu, ↓zzlv, ↓zzlw, ↓zzlx, ↓zzly, ↓zzlz, ↓zzma, zzmb, zzmc, ↓zzmd, ↓zzme, ↓zzmf, ↓zzmg, ↓zzmh, zzmi, zzmj, zzmk, zzml, zzmm, zzmn, zzmo, zzmp, zzmq, zzmr, zzms, Option.bind_some, Option.map_some, ↓zzmt, ↓zzmu, ↓zzmv, ↓zzmw, ↓zzmx, ↓zzmy, ↓zzmz, ↓zzna, ↓zznb, ↓zznc, ↓zznd, ↓zzne, ↓zznf, ↓zzng, ↓zznh, ↓zzni, ↓zznj, ↓zznk, ↓zznl]
    have e : ((env.set v (some x)).set i (some u)).set v none = env.set i (some u) := by
      rw [List.set_comm _ _ hv.symm, List.set_set]
      congr 1
      refine List.ext_getElem? fun j => ?_
      by_cases hj : v = j
      · subst hj; rw [List.getElem?_set_self hvl, h2]
      · rw [List.getElem?_set_ne hj]
    rw [e]
    refine ih (n := n + 1) (t := u) (env := env.set i (some u)) (by unfold look; rw [List.getElem?_set_self hil]; rfl) (by rw [List.getElem?_set_ne hv.symm]; exact h2) hu (by omega) fun is w hl hx hw => ?_
    rw [List.set_set]
    refine q (y :: is) w (by simp [hl]) (fun z hz => ?_) (by have : n + 1 + (ts.length : Int) = n + ((ts.length + 1 : Nat) : Int) := by omega
                                                             rw [← this]; exact hw)
    rcases List.mem_cons.mp hz with rfl | hz
    · exact ⟨hy1, hy2⟩
    · exact hx z hz
theorem draws_ok {v i : Nat} {m : Int} (K : Int) {P : List T × En → Prop} {ts : List T} {n : Int} {t : T} {env : En} (hm : 0 < m ∧ m < 1073741824) (hv : v ≠ i) (h1 : look env i = some t) (h2 : env[v]? = some none) (h3 : Tp n t) (hK : (ts.length : Int) ≤ K) (h4 : n + K < 1000000000)
    (q : ∀ (is : List Int) u, is.length = ts.length → (∀ x, x ∈ is → 0 ≤ x ∧ x < m) → Tp (n + K) u → P (is.map T.int, env.set i (some u))) :
    wp (lcGo (gN v) cYes (eCall (some 0) (some i) f__law_take (aCons (bIo i) (aCons (bE (eC (.int m))) aNil))) [v] ts env) P :=
  draws_ok0 hm hv h1 h2 h3 (by omega) fun is u a b c => q is u a b (c.mono (by omega))
end NP
end
section
namespace NP
open PySem L2 QL
def b__law_same (rec : Fn) : SM :=
  sSeq (sIf (tV (eOp (oIsi2 .list .tuple) (aCons (bV 1) aNil))) (sSeq (sIf (tOrS (tV (eOp oNe (aCons (bE (eOp (oIsi .list) (aCons (bV 0) aNil))) (aCons (bE (eOp (oIsi .list) (aCons (bV 1) aNil))) aNil)))) (tV (eOp oNe (aCons (bE (eOp (oIsi .tuple) (aCons (bV 0) aNil))) (aCons (bE (eOp (oIsi .tuple) (aCons (bV 1) aNil))) aNil))))) (sRet (eC (.bl false))) (sNil))
    (sSeq (sIf (tV (eOp oNe (aCons (bE (eOp oLen (aCons (bV 0) (aNil)))) (aCons (bE (eOp oLen (aCons (bV 1) (aNil)))) aNil)))) (sRet (eC (.bl false))) (sNil))
    (sRet (eOp oAll (aCons (bE (eLc (iRng zp (aCons (bV 0) (aCons (bV 1) (aNil)))) (gT 2 (gsC (gN 2) (gsC (gN 3) (gsN)))) (cYes) (eCall none none rec (aCons (bV 2) (aCons (bV 3) (aNil)))) [2, 3])) (aNil)))))) (sNil))
    (sSeq (sIf (tOrS (tV (eOp oIsN (aCons (bV 1) (aCons (bE (eC .non)) aNil)))) (tV (eOp (oIsi .str) (aCons (bV 1) aNil)))) (sRet (eAnd (eOp oEq (aCons (bV 0) (aCons (bV 1) aNil))) (eOp oEq (aCons (bE (eOp (oIsi .str) (aCons (bV 0) aNil))) (aCons (bE (eOp (oIsi .str) (aCons (bV 1) aNil))) aNil))))) (sNil))
    (sSeq (sIf (tV (eOp (oIsi .bool) (aCons (bV 1) aNil))) (sRet (eAnd (eOp (oIsi .bool) (aCons (bV 0) aNil)) (eOp oEq (aCons (bV 0) (aCons (bV 1) aNil))))) (sNil))
    (sRet (eAnd (eOp (oIsi .int) (aCons (bV 0) aNil)) (eAnd (eNot (eOp (oIsi .bool) (aCons (bV 0) aNil))) (eOp oEq (aCons (bV 0) (aCons (bV 1) aNil))))))))
def f__law_same : Nat → Fn
  | 0 => fun _ => stk
  | k + 1 => fnN 2 4 none (b__law_same (f__law_same k))
/-- plain: ints, texts, truths, None, tuples and frozen lists of these, so deep at most -/
def Pl : Nat → T → Prop
  | _, .int _ => True
  | _, .str _ => True
  | _, .non => True
  | _, .bl _ => True
  | k + 1, .tup xs => xs.length ≤ big ∧ ∀ x ∈ xs, Pl k x
  | k + 1, .lst false xs => xs.length ≤ big ∧ ∀ x ∈ xs, Pl k x
  | _, _ => False
theorem owl_all : ∀ {xs : List T}, (∀ x ∈ xs, x.ow = false) → T.owl xs = false
  | [], _ => rfl
  | x :: xs, h => by
    simp only [T.owl, Bool.or_eq_false_iff]
    exact ⟨h x List.mem_cons_self, owl_all fun y hy => h y (List.mem_cons_of_mem _ hy)⟩
theorem Pl.ow : ∀ {k : Nat} {t : T}, Pl k t → t.ow = false := by
  intro k
  induction k with
  | zero => intro t h; cases t with
    | lst o xs => cases o <;> exact absurd h (by simp [Pl])
    | _ => first | rfl | exact absurd h (by simp [Pl])
  | succ k ih =>
    intro t h
    cases t with
    | tup xs => simp only [Pl] at h; exact owl_all fun x hx => ih (h.2 x hx)
    | lst o xs =>
      cases o with
      | false => simp only [Pl] at h; show (false || T.owl xs) = false; rw [owl_all fun x hx => ih (h.2 x hx)]; rfl
      | true => exact absurd h (by simp [Pl])
    | _ => first | rfl | exact absurd h (by simp [Pl])
theorem Pl.up : ∀ {k : Nat} {t : T}, Pl k t → Pl (k + 1) t := by
  intro k
  induction k with
  | zero => intro t h; cases t with
    | lst o xs => cases o <;> exact absurd h (by simp [Pl])
    | _ => first | trivial | exact absurd h (by simp [Pl])
  | succ k ih =>
    intro t h
    cases t with
    | tup xs => simp only [Pl] at h ⊢; exact ⟨h.1, fun x hx => ih (h.2 x hx)⟩
    | lst o xs =>
      cases o with
      | false => simp only [Pl] at h ⊢; exact ⟨h.1, fun x hx => ih (h.2 x hx)⟩
      | true => exact absurd h (by simp [Pl])
    | _ => first | trivial | exact absurd h (by simp [Pl])
theorem Pl.mono {k n : Nat} {t : T} (h : Pl k t) (hn : k ≤ n) : Pl n t := by
  induction hn with
  | refl => exact h
  | step _ ih => exact ih.up
theorem zip_self : ∀ {xs : List T}, zipT xs xs = xs.map fun x => .tup [x, x]
  | [] => rfl
  | x :: xs => by simp only [zipT, List.map_cons, zip_self]
theorem same_ok : ∀ (k : Nat) (t : T), Pl k t → ∀ Q : T × Option T → Prop, Q (.bl true, none) → wp (f__law_same (k + 1) [t, t]) Q := by
  intro k
  have flat : ∀ (k : Nat) (t : T), t.flat = true → ∀ Q : T × Option T → Prop, Q (.bl true, none) → wp (f__law_same (k + 1) [t, t]) Q := by
    intro k t h Q q
    unfold f__law_same b__law_same
    cases t with
    | int i => simp only [↓zzaa, ↓zzab, ↓zzac, ↓zzad, ↓zzae, ↓zzaf, ↓zzag, ↓zzah, ↓zzai, ↓zzaj, ↓zzak, ↓zzal, ↓zzam, ↓zzan, ↓zzao, ↓zzap, ↓zzaq, ↓zzar, ↓zzas, ↓zzat, ↓zzau, ↓zzav, ↓zzaw, ↓zzax, ↓zzay, ↓zzaz, ↓zzba, ↓zzbb, ↓zzbc, ↓zzbd, ↓zzbe, ↓zzbf, ↓zzbg, ↓zzbh, ↓zzbi, ↓zzbj, ↓zzbk, ↓zzbl, ↓zzbm, ↓zzbn, ↓zzbo, ↓zzbp, ↓zzbq, ↓zzbr, ↓zzbs, ↓zzbt, ↓zzbu, ↓zzbv, ↓zzbw, ↓zzbx, ↓zzby, ↓zzbz, ↓zzca, ↓zzcb, ↓zzcc, ↓zzcd, ↓zzce, ↓zzcf, ↓zzcg, ↓zzch, ↓zzci, ↓zzcj, ↓zzck, ↓zzcl, ↓zzcm, ↓zzcn, ↓zzco, ↓zzcp, ↓zzcq, ↓zzcr, ↓zzcs, ↓zzct, ↓zzcu, ↓zzcv, ↓zzcw, ↓zzcx, ↓zzcy, ↓zzcz, ↓zzda, ↓zzdb, ↓zzdc, ↓zzdd, zzde, ↓zzdf, ↓zzdg, ↓zzdh, ↓zzdi, ↓zzdj, ↓zzdk, ↓zzdl, ↓zzdm, ↓zzdn, ↓zzdo, ↓zzdp, ↓zzdq, zzdr, zzds, zzdt, zzdu, zzdv, zzdw, zzdx, zzdy, zzdz, zzea, zzeb, oEq, oNe, eqT, oAdd, oNeg, oAbs, oMax2, oMin2, oInt, oLen, oIsN, oNotN, oIn, oNin, inT, eqF, oIsi, oIsi2, oList, oTuple, seqT, zp, enm, two, three, ioFind, ioCount, brOk, Bop.still, Bop.isI, T.ow, T.owl, T.nob, T.nobl, T.nfz, T.nfzl, T.fz, T.fzl, Bop.fit, Bop.res, Bop.bo, zzec, zzed, zzee, zzef, zzeg, zzeh, zzei, zzej, zzef, zzeg, zzeh, zzei, zzek, zzel, List.all_cons, List.all_nil, List.any_cons, List.any_nil, zzem, zzen, zzeo, zzep, zzeq, zzer, zzes, zzet, Bool.not_false, Bool.not_true, Bool.or_false, Bool.false_or, Bool.and_true, Bool.true_and, Bool.or_true, Bool.true_or, Bool.and_false, Bool.false_and, Bool.not_not, Bool.not_eq_true', decide_eq_false_iff_not, Bool.and_eq_true, Bool.or_eq_true, true_or, or_true, false_or, or_false, true_and, and_true, false_and, and_false, Bool.false_eq_true, false_imp_iff, if_true, if_false, forall_const, implies_true, Option.some.injEq, Option.isSome_some, forall_eq', reduceCtorEq, List.cons_append, List.nil_append, List.length_cons, List.length_nil, List.length_map, List.length_append, List.length_range, zzeu, zzev, zzew, List.replicate, List.flatten_cons, List.flatten_nil, List.append_nil, Nat.reduceAdd, Nat.reduceSub, Nat.reduceLT, Nat.reduceLeDiff, List.set_cons_zero, List.set_cons_succ, decide_eq_true_eq, decide_true, decide_false, Int.reduceLT, Int.reduceLE, Int.reduceMul, Int.reducePow, Int.reduceToNat, Int.reduceAdd, Int.reduceSub, Int.reduceNeg, Int.reduceEq, Nat.reducePow, zzex, zzey, zzez, Nat.zero_add, big, zzfa, zzfb, String.reduceEq, wipeE, zzfc, zzfd, zzah, zzai, Option.getD_some, ↓zzfe, ↓zzff, ↓zzfg, ↓zzfh, ↓zzfi, ↓zzfj, ↓zzfk, ↓zzfl, ↓zzfm, ↓zzfn, ↓zzfo, ↓zzfp, ↓zzfq, ↓zzfr, ↓zzfs, ↓zzft, ↓zzfu, ↓zzfv, ↓zzfw, ↓zzfx, ↓zzfy, ↓zzfz, ↓zzga, ↓zzgb, ↓zzgc, ↓zzgd, ↓zzge, ↓zzgf, ↓zzgg, ↓zzgh, ↓zzgi, ↓zzgj, ↓zzgk, ↓zzgl, ↓zzgm, ↓zzgn, ↓zzgo, ↓zzgp, ↓zzgq, ↓zzgr, ↓zzgs, ↓zzgt, ↓zzgu, ↓zzgv, ↓zzgw, ↓zzgx, ↓zzgy, ↓zzgz, ↓zzha, ↓zzhb, ↓zzhc, ↓zzhd, ↓zzhe, ↓zzhf, ↓zzhg, ↓zzhh, ↓zzhi, ↓zzhj, ↓zzhk, ↓zzhl, ↓zzhm, ↓zzhn, ↓zzho, ↓zzhp, ↓zzhq, ↓zzhr, ↓zzhs, ↓zzht, ↓zzhl, zzhu, zzhv, zzhw, zzhx, zzhy, zzhz, zzia, zzib, zzic, zzid, zzie, zzif, zzig, zzih, zzii, zzij, zzik, zzil, zzim, zzin, zzio, zzip, zziq, zzir, zzis, zzit, zziu, zziv, zziw, zzix, zziy, zziz, zzja, zzjb, zzjc, zzjd, zzje, zzjf, zzjg, zzjh, zzji, zzjj, zzjk, zzjl, zzjm, zzjn, zzjo, zzjp, zzjq, zzjr, zzjs, zzjt, zzju, zzjv, zzjw, zzjx, zzjy, zzjz, zzka, zzkb, zzkc, zzkd, zzke, zzkf, zzkg, zzkh, zzki, zzkj, zzkk, zzkl, zzkm, zzkn, zzko, zzkp, zzkq, zzkr, zzks, zzkt, zzku, zzkv, zzkw, zzkx, zzky, zzkz, zzla, zzlb, zzlc, zzld, zzle, zzlf, zzlg, zzlh, zzli, zzlj, zzlk, zzll, zzlm, zzln, zzlo, ↓zzlp, ↓zzlq, ↓zzlr, ↓zzls, ↓zzlt, ↓zzlu, ↓zzlv, ↓zzlw, ↓zzlx, ↓zzly, ↓zzlz, ↓zzma, zzmb, zzmc, ↓zzmd, ↓zzme, ↓zzmf, ↓zzmg, ↓zzmh, zzmi, zzmj, zzmk, zzml, zzmm, zzmn, zzmo, zzmp, zzmq, zzmr, zzms, Option.bind_some, Option.map_some, ↓zzmt, ↓zzmu, ↓zzmv, ↓zzmw, ↓zzmx, ↓zzmy, ↓zzmz, ↓zzna, ↓zznb, ↓zznc, ↓zznd, ↓zzne, ↓zznf, ↓zzng, ↓zznh, ↓zzni, ↓zznj, ↓zznk, ↓zznl]; exact q
    | str s => simp only [↓zzaa, ↓zzab, ↓zzac, ↓zzad, ↓zzae, ↓zzaf, ↓zzag, ↓zzah, ↓zzai, ↓zzaj, ↓zzak, ↓zzal, ↓zzam, ↓zzan, ↓zzao, ↓zzap, ↓zzaq, ↓zzar, ↓zzas, ↓zzat, ↓zzau, ↓zzav, ↓zzaw, ↓zzax, ↓zzay, ↓zzaz, ↓zzba, ↓zzbb, ↓zzbc, ↓zzbd, ↓zzbe, ↓zzbf, ↓zzbg, ↓zzbh, ↓zzbi, ↓zzbj, ↓zzbk, ↓zzbl, ↓zzbm, ↓zzbn, ↓zzbo, ↓zzbp, ↓zzbq, ↓zzbr, ↓zzbs, ↓zzbt, ↓zzbu, ↓zzbv, ↓zzbw, ↓zzbx, ↓zzby, ↓zzbz, ↓zzca, ↓zzcb, ↓zzcc, ↓zzcd, ↓zzce, ↓zzcf, ↓zzcg, ↓zzch, ↓zzci, ↓zzcj, ↓zzck, ↓zzcl, ↓zzcm, ↓zzcn, ↓zzco, ↓zzcp, ↓zzcq, ↓zzcr, ↓zzcs, ↓zzct, ↓zzcu, ↓zzcv, ↓zzcw, ↓zzcx, ↓zzcy, ↓zzcz, ↓zzda, ↓zzdb, ↓zzdc, ↓zzdd, zzde, ↓zzdf, ↓zzdg, ↓zzdh, ↓zzdi, ↓zzdj, ↓zzdk, ↓zzdl, ↓zzdm, ↓zzdn, ↓zzdo, ↓zzdp, ↓zzdq, zzdr, zzds, zzdt, zzdu, zzdv, zzdw, zzdx, zzdy, zzdz, zzea, zzeb, oEq, oNe, eqT, oAdd, oNeg, oAbs, oMax2, oMin2, oInt, oLen, oIsN, oNotN, oIn, oNin, inT, eqF, oIsi, oIsi2, oList, oTuple, seqT, zp, enm, two, three, ioFind, ioCount, brOk, Bop.still, Bop.isI, T.ow, T.owl, T.nob, T.nobl, T.nfz, T.nfzl, T.fz, T.fzl, Bop.fit, Bop.res, Bop.bo, zzec, zzed, zzee, zzef, zzeg, zzeh, zzei, zzej, zzef, zzeg, zzeh, zzei, zzek, zzel, List.all_cons, List.all_nil, List.any_cons, List.any_nil, zzem, zzen, zzeo, zzep, zzeq, zzer, zzes, zzet, Bool.not_false, Bool.not_true, Bool.or_false, Bool.false_or, Bool.and_true, Bool.true_and, Bool.or_true, Bool.true_or, Bool.and_false, Bool.false_and, Bool.not_not, Bool.not_eq_true', decide_eq_false_iff_not, Bool.and_eq_true, Bool.or_eq_true, true_or, or_true, false_or, or_false, true_and, and_true, false_and, and_false, Bool.false_eq_true, false_imp_iff, if_true, if_false, forall_const, implies_true, Option.some.injEq, Option.isSome_some, forall_eq', reduceCtorEq, List.cons_append, List.nil_append, List.length_cons, List.length_nil, List.length_map, List.length_append, List.length_range, zzeu, zzev, zzew, List.replicate, List.flatten_cons, List.flatten_nil, List.append_nil, Nat.reduceAdd, Nat.reduceSub, Nat.reduceLT, Nat.reduceLeDiff, List.set_cons_zero, List.set_cons_succ, decide_eq_true_eq, decide_true, decide_false, Int.reduceLT, Int.reduceLE, Int.reduceMul, Int.reducePow, Int.reduceToNat, Int.reduceAdd, Int.reduceSub, Int.reduceNeg, Int.reduceEq, Nat.reducePow, zzex, zzey, zzez, Nat.zero_add, big, zzfa, zzfb, String.reduceEq, wipeE, zzfc, zzfd, zzah, zzai, Option.getD_some, ↓zzfe, ↓zzff, ↓zzfg, ↓zzfh, ↓zzfi, ↓zzfj, ↓zzfk, ↓zzfl, ↓zzfm, ↓zzfn, ↓zzfo, ↓zzfp, ↓zzfq, ↓zzfr, ↓zzfs, ↓zzft, ↓zzfu, ↓zzfv, ↓zzfw, ↓zzfx, ↓zzfy, ↓zzfz, ↓zzga, ↓zzgb, ↓zzgc, ↓zzgd, ↓zzge, ↓zzgf, ↓zzgg, ↓zzgh, ↓zzgi, ↓zzgj, ↓zzgk, ↓zzgl, ↓zzgm, ↓zzgn, ↓zzgo, ↓zzgp, ↓zzgq, ↓zzgr, ↓zzgs, ↓zzgt, ↓zzgu, ↓zzgv, ↓zzgw, ↓zzgx, ↓zzgy, ↓zzgz, ↓zzha, ↓zzhb, ↓zzhc, ↓zzhd, ↓zzhe, ↓zzhf, ↓zzhg, ↓zzhh, ↓zzhi, ↓zzhj, ↓zzhk, ↓zzhl, ↓zzhm, ↓zzhn, ↓zzho, ↓zzhp, ↓zzhq, ↓zzhr, ↓zzhs, ↓zzht, ↓zzhl, zzhu, zzhv, zzhw, zzhx, zzhy, zzhz, zzia, zzib, zzic, zzid, zzie, zzif, zzig, zzih, zzii, zzij, zzik, zzil, zzim, zzin, zzio, zzip, zziq, zzir, zzis, zzit, zziu, zziv, zziw, zzix, zziy, zziz, zzja, zzjb, zzjc, zzjd, zzje, zzjf, zzjg, zzjh, zzji, zzjj, zzjk, zzjl, zzjm, zzjn, zzjo, zzjp, zzjq, zzjr, zzjs, zzjt, zzju, zzjv, zzjw, zzjx, zzjy, zzjz, zzka, zzkb, zzkc, zzkd, zzke, zzkf, zzkg, zzkh, zzki, zzkj, zzkk, zzkl, zzkm, zzkn, zzko, zzkp, zzkq, zzkr, zzks, zzkt, zzku, zzkv, zzkw, zzkx, zzky, zzkz, zzla, zzlb, zzlc, zzld, zzle, zzlf, zzlg, zzlh, zzli, zzlj, zzlk, zzll, zzlm, zzln, zzlo, ↓zzlp, ↓zzlq, ↓zzlr, ↓zzls, ↓zzlt, ↓zzlu, ↓zzlv, ↓zzlw, ↓zzlx, ↓zzly, ↓zzlz, ↓zzma, zzmb, zzmc, ↓zzmd, ↓zzme, ↓zzmf, ↓zzmg, ↓zzmh, zzmi, zzmj, zzmk, zzml, zzmm, zzmn, zzmo, zzmp, zzmq, zzmr, zzms, Option.bind_some, Option.map_some, ↓zzmt, ↓zzmu, ↓zzmv, ↓zzmw, ↓zzmx, ↓zzmy, ↓zzmz, ↓zzna, ↓zznb, ↓zznc, ↓zznd, ↓zzne, ↓zznf, ↓zzng, ↓zznh, ↓zzni, ↓zznj, ↓zznk, ↓zznl]; exact q
    | non => simp only [↓zzaa, ↓zzab, ↓zzac, ↓zzad, ↓zzae, ↓zzaf, ↓zzag, ↓zzah, ↓zzai, ↓zzaj, ↓zzak, ↓zzal, ↓zzam, ↓zzan, ↓zzao, ↓zzap, ↓zzaq, ↓zzar, ↓zzas, ↓zzat, ↓zzau, ↓zzav, ↓zzaw, ↓zzax, ↓zzay, ↓zzaz, ↓zzba, ↓zzbb, ↓zzbc, ↓zzbd, ↓zzbe, ↓zzbf, ↓zzbg, ↓zzbh, ↓zzbi, ↓zzbj, ↓zzbk, ↓zzbl, ↓zzbm, ↓zzbn, ↓zzbo, ↓zzbp, ↓zzbq, ↓zzbr, ↓zzbs, ↓zzbt, ↓zzbu, ↓zzbv, ↓zzbw, ↓zzbx, ↓zzby, ↓zzbz, ↓zzca, ↓zzcb, ↓zzcc, ↓zzcd, ↓zzce, ↓zzcf, ↓zzcg, ↓zzch, ↓zzci, ↓zzcj, ↓zzck, ↓zzcl, ↓zzcm, ↓zzcn, ↓zzco, ↓zzcp, ↓zzcq, ↓zzcr, ↓zzcs, ↓zzct, ↓zzcu, ↓zzcv, ↓zzcw, ↓zzcx, ↓zzcy, ↓zzcz, ↓zzda, ↓zzdb, ↓zzdc, ↓zzdd, zzde, ↓zzdf, ↓zzdg, ↓zzdh, ↓zzdi, ↓zzdj, ↓zzdk, ↓zzdl, ↓zzdm, ↓zzdn, ↓zzdo, ↓zzdp, ↓zzdq, zzdr, zzds, zzdt, zzdu, zzdv, zzdw, zzdx, zzdy, zzdz, zzea, zzeb, oEq, oNe, eqT, oAdd, oNeg, oAbs, oMax2, oMin2, oInt, oLen, oIsN, oNotN, oIn, oNin, inT, eqF, oIsi, oIsi2, oList, oTuple, seqT, zp, enm, two, three, ioFind, ioCount, brOk, Bop.still, Bop.isI, T.ow, T.owl, T.nob, T.nobl, T.nfz, T.nfzl, T.fz, T.fzl, Bop.fit, Bop.res, Bop.bo, zzec, zzed, zzee, zzef, zzeg, zzeh, zzei, zzej, zzef, zzeg, zzeh, zzei, zzek, zzel, List.all_cons, List.all_nil, List.any_cons, List.any_nil, zzem, zzen, zzeo, zzep, zzeq, zzer, zzes, zzet, Bool.not_false, Bool.not_true, Bool.or_false, Bool.false_or, Bool.and_true, Bool.true_and, Bool.or_true, Bool.true_or, Bool.and_false, Bool.false_and, Bool.not_not, Bool.not_eq_true', decide_eq_false_iff_not, Bool.and_eq_true, Bool.or_eq_true, true_or, or_true, false_or, or_false, true_and, and_true, false_and, and_false, Bool.false_eq_true, false_imp_iff, if_true, if_false, forall_const, implies_true, Option.some.injEq, Option.isSome_some, forall_eq', reduceCtorEq, List.cons_append, List.nil_append, List.length_cons, List.length_nil, List.length_map, List.length_append, List.length_range, zzeu, zzev, zzew, List.replicate, List.flatten_cons, List.flatten_nil, List.append_nil, Nat.reduceAdd, Nat.reduceSub, Nat.reduceLT, Nat.reduceLeDiff, List.set_cons_zero, List.set_cons_succ, decide_eq_true_eq, decide_true, decide_false, Int.reduceLT, Int.reduceLE, Int.reduceMul, Int.reducePow, Int.reduceToNat, Int.reduceAdd, Int.reduceSub, Int.reduceNeg, Int.reduceEq, Nat.reducePow, zzex, zzey, zzez, Nat.zero_add, big, zzfa, zzfb, String.reduceEq, wipeE, zzfc, zzfd, zzah, zzai, Option.getD_some, ↓zzfe, ↓zzff, ↓zzfg, ↓zzfh, ↓zzfi, ↓zzfj, ↓zzfk, ↓zzfl, ↓zzfm, ↓zzfn, ↓zzfo, ↓zzfp, ↓zzfq, ↓zzfr, ↓zzfs, ↓zzft, ↓zzfu, ↓zzfv, ↓zzfw, ↓zzfx, ↓zzfy, ↓zzfz, ↓zzga, ↓zzgb, ↓zzgc, ↓zzgd, ↓zzge, ↓zzgf, ↓zzgg, ↓zzgh, ↓zzgi, ↓zzgj, ↓zzgk, ↓zzgl, ↓zzgm, ↓zzgn, ↓zzgo, ↓zzgp, ↓zzgq, ↓zzgr, ↓zzgs, ↓zzgt, ↓zzgu, ↓zzgv, ↓zzgw, ↓zzgx, ↓zzgy, ↓zzgz, ↓zzha, ↓zzhb, ↓zzhc, ↓zzhd, ↓zzhe, ↓zzhf, ↓zzhg, ↓zzhh, ↓zzhi, ↓zzhj, ↓zzhk, ↓zzhl, ↓zzhm, ↓zzhn, ↓zzho, ↓zzhp, ↓zzhq, ↓zzhr, ↓zzhs, ↓zzht, ↓zzhl, zzhu, zzhv, zzhw, zzhx, zzhy, zzhz, zzia, zzib, zzic, zzid, zzie, zzif, zzig, zzih, zzii, zzij, zzik, zzil, zzim, zzin, zzio, zzip, zziq, zzir, zzis, zzit, zziu, zziv, zziw, zzix, zziy, zziz, zzja, zzjb, zzjc, zzjd, zzje, zzjf, zzjg, zzjh, zzji, zzjj, zzjk, zzjl, zzjm, zzjn, zzjo, zzjp, zzjq, zzjr, zzjs, zzjt, zzju, zzjv, zzjw, zzjx, zzjy, zzjz, zzka, zzkb, zzkc, zzkd, zzke, zzkf, zzkg, zzkh, zzki, zzkj, zzkk, zzkl, zzkm, zzkn, zzko, zzkp, zzkq, zzkr, zzks, zzkt, zzku, zzkv, zzkw, zzkx, zzky, zzkz, zzla, zzlb, zzlc, zzld, zzle, zzlf, zzlg, zzlh, zzli, zzlj, zzlk, zzll, zzlm, zzln, zzlo, ↓zzlp, ↓zzlq, ↓zzlr, ↓zzls, ↓zzlt, ↓zzlu, ↓zzlv, ↓zzlw, ↓zzlx, ↓zzly, ↓zzlz, ↓zzma, zzmb, zzmc, ↓zzmd, ↓zzme, ↓zzmf, ↓zzmg, ↓zzmh, zzmi, zzmj, zzmk, zzml, zzmm, zzmn, zzmo, zzmp, zzmq, zzmr, zzms, Option.bind_some, Option.map_some, ↓zzmt, ↓zzmu, ↓zzmv, ↓zzmw, ↓zzmx, ↓zzmy, ↓zzmz, ↓zzna, ↓zznb, ↓zznc, ↓zznd, ↓zzne, ↓zznf, ↓zzng, ↓zznh, ↓zzni, ↓zznj, ↓zznk, ↓zznl]; exact q
    | bl b => simp only [↓zzaa, ↓zzab, ↓zzac, ↓zzad, ↓zzae, ↓zzaf, ↓zzag, ↓zzah, ↓zzai, ↓zzaj, ↓zzak, ↓zzal, ↓zzam, ↓zzan, ↓zzao, ↓zzap, ↓zzaq, ↓zzar, ↓zzas, ↓zzat, ↓zzau, ↓zzav, ↓zzaw, ↓zzax, ↓zzay, ↓zzaz, ↓zzba, ↓zzbb, ↓zzbc, ↓zzbd, ↓zzbe, ↓zzbf, ↓zzbg, ↓zzbh, ↓zzbi, ↓zzbj, ↓zzbk, ↓zzbl, ↓zzbm, ↓zzbn, ↓zzbo, ↓zzbp, ↓zzbq, ↓zzbr, ↓zzbs, ↓zzbt, ↓zzbu, ↓zzbv, ↓zzbw, ↓zzbx, ↓zzby, ↓zzbz, ↓zzca, ↓zzcb, ↓zzcc, ↓zzcd, ↓zzce, ↓zzcf, ↓zzcg, ↓zzch, ↓zzci, ↓zzcj, ↓zzck, ↓zzcl, ↓zzcm, ↓zzcn, ↓zzco, ↓zzcp, ↓zzcq, ↓zzcr, ↓zzcs, ↓zzct, ↓zzcu, ↓zzcv, ↓zzcw, ↓zzcx, ↓zzcy, ↓zzcz, ↓zzda, ↓zzdb, ↓zzdc, ↓zzdd, zzde, ↓zzdf, ↓zzdg, ↓zzdh, ↓zzdi, ↓zzdj, ↓zzdk, ↓zzdl, ↓zzdm, ↓zzdn, ↓zzdo, ↓zzdp, ↓zzdq, zzdr, zzds, zzdt, zzdu, zzdv, zzdw, zzdx, zzdy, zzdz, zzea, zzeb, oEq, oNe, eqT, oAdd, oNeg, oAbs, oMax2, oMin2, oInt, oLen, oIsN, oNotN, oIn, oNin, inT, eqF, oIsi, oIsi2, oList, oTuple, seqT, zp, enm, two, three, ioFind, ioCount, brOk, Bop.still, Bop.isI, T.ow, T.owl, T.nob, T.nobl, T.nfz, T.nfzl, T.fz, T.fzl, Bop.fit, Bop.res, Bop.bo, zzec, zzed, zzee, zzef, zzeg, zzeh, zzei, zzej, zzef, zzeg, zzeh, zzei, zzek, zzel, List.all_cons, List.all_nil, List.any_cons, List.any_nil, zzem, zzen, zzeo, zzep, zzeq, zzer, zzes, zzet, Bool.not_false, Bool.not_true, Bool.or_false, Bool.false_or, Bool.and_true, Bool.true_and, Bool.or_true, Bool.true_or, Bool.and_false, Bool.false_and, Bool.not_not, Bool.not_eq_true', decide_eq_false_iff_not, Bool.and_eq_true, Bool.or_eq_true, true_or, or_true, false_or, or_false, true_and, and_true, false_and, and_false, Bool.false_eq_true, false_imp_iff, if_true, if_false, forall_const, implies_true, Option.some.injEq, Option.isSome_some, forall_eq', reduceCtorEq, List.cons_append, List.nil_append, List.length_cons, List.length_nil, List.length_map, List.length_append, List.length_range, zzeu, zzev, zzew, List.replicate, List.flatten_cons, List.flatten_nil, List.append_nil, Nat.reduceAdd, Nat.reduceSub, Nat.reduceLT, Nat.reduceLeDiff, List.set_cons_zero, List.set_cons_succ, decide_eq_true_eq, decide_true, decide_false, Int.reduceLT, Int.reduceLE, Int.reduceMul, Int.reducePow, Int.reduceToNat, Int.reduceAdd, Int.reduceSub, Int.reduceNeg, Int.reduceEq, Nat.reducePow, zzex, zzey, zzez, Nat.zero_add, big, zzfa, zzfb, String.reduceEq, wipeE, zzfc, zzfd, zzah, zzai, Option.getD_some, ↓zzfe, ↓zzff, ↓zzfg, ↓zzfh, ↓zzfi, ↓zzfj, ↓zzfk, ↓zzfl, ↓zzfm, ↓zzfn, ↓zzfo, ↓zzfp, ↓zzfq, ↓zzfr, ↓zzfs, ↓zzft, ↓zzfu, ↓zzfv, ↓zzfw, ↓zzfx, ↓zzfy, ↓zzfz, ↓zzga, ↓zzgb, ↓zzgc, ↓zzgd, ↓zzge, ↓zzgf, ↓zzgg, ↓zzgh, ↓zzgi, ↓zzgj, ↓zzgk, ↓zzgl, ↓zzgm, ↓zzgn, ↓zzgo, ↓zzgp, ↓zzgq, ↓zzgr, ↓zzgs, ↓zzgt, ↓zzgu, ↓zzgv, ↓zzgw, ↓zzgx, ↓zzgy, ↓zzgz, ↓zzha, ↓zzhb, ↓zzhc, ↓zzhd, ↓zzhe, ↓zzhf, ↓zzhg, ↓zzhh, ↓zzhi, ↓zzhj, ↓zzhk, ↓zzhl, ↓zzhm, ↓zzhn, ↓zzho, ↓zzhp, ↓zzhq, ↓zzhr, ↓zzhs, ↓zzht, ↓zzhl, zzhu, zzhv, zzhw, zzhx, zzhy, zzhz, zzia, zzib, zzic, zzid, zzie, zzif, zzig, zzih, zzii, zzij, zzik, zzil, zzim, zzin, zzio, zzip, zziq, zzir, zzis, zzit, zziu, zziv, zziw, zzix, zziy, zziz, zzja, zzjb, zzjc, zzjd, zzje, zzjf, zzjg, zzjh, zzji, zzjj, zzjk, zzjl, zzjm, zzjn, zzjo, zzjp, zzjq, zzjr, zzjs, zzjt, zzju, zzjv, zzjw, zzjx, zzjy, zzjz, zzka, zzkb, zzkc, zzkd, zzke, zzkf, zzkg, zzkh, zzki, zzkj, zzkk, zzkl, zzkm, zzkn, zzko, zzkp, zzkq, zzkr, zzks, zzkt, zzku, zzkv, zzkw, zzkx, zzky, zzkz, zzla, zzlb, zzlc, zzld, zzle, zzlf, zzlg, zzlh, zzli, zzlj, zzlk, zzll, zzlm, zzln, zzlo, ↓zzlp, ↓zzlq, ↓zzlr, ↓zzls, ↓zzlt, ↓zzlu, ↓zzlv, ↓zzlw, ↓zzlx, ↓zzly, ↓zzlz, ↓zzma, zzmb, zzmc, ↓zzmd, ↓zzme, ↓zzmf, ↓zzmg, ↓zzmh, zzmi, zzmj, zzmk, zzml, zzmm, zzmn, zzmo, zzmp, zzmq, zzmr, zzms, Option.bind_some, Option.map_some, ↓zzmt, ↓zzmu, ↓zzmv, ↓zzmw, ↓zzmx, ↓zzmy, ↓zzmz, ↓zzna, ↓zznb, ↓zznc, ↓zznd, ↓zzne, ↓zznf, ↓zzng, ↓zznh, ↓zzni, ↓zznj, ↓zznk, ↓zznl]; exact q
    | _ => exact absurd h (by simp [T.flat])
  induction k with
  | zero =>
    intro t h Q q
    cases t with
    | lst o xs => cases o <;> exact absurd h (by simp [Pl])
    | _ => first | exact flat 0 _ rfl Q q | exact absurd h (by simp [Pl])
  | succ k ih =>
    intro t h Q q
    have seq : ∀ (xs : List T) (env : En), (∀ x ∈ xs, Pl k x) → (env.length = 4 ∧ (wipeE env [2, 3]) = env) → ∀ P : List T × En → Prop, P (xs.map fun _ => T.bl true, env) →
        wp (lcGo (gT 2 (gsC (gN 2) (gsC (gN 3) gsN))) cYes (eCall none none (f__law_same (k + 1)) (aCons (bV 2) (aCons (bV 3) aNil))) [2, 3] (xs.map fun x => T.tup [x, x]) env) P := by
      intro xs env hx he P hp
      refine lc_map (h := fun _ => T.bl true) (fun x hm Q' q' => ?_) hp
      have hp' := hx x hm
      have ho := hp'.ow
      obtain ⟨he1, he2⟩ := he
      match env, he1 with
      | [a, b, c, d], _ =>
        simp only [wipeE, List.set_cons_succ, List.set_cons_zero, List.cons.injEq, true_and, and_true] at he2
        obtain ⟨rfl, rfl⟩ := he2
        simp only [↓zzaa, ↓zzab, ↓zzac, ↓zzad, ↓zzae, ↓zzaf, ↓zzag, ↓zzah, ↓zzai, ↓zzaj, ↓zzak, ↓zzal, ↓zzam, ↓zzan, ↓zzao, ↓zzap, ↓zzaq, ↓zzar, ↓zzas, ↓zzat, ↓zzau, ↓zzav, ↓zzaw, ↓zzax, ↓zzay, ↓zzaz, ↓zzba, ↓zzbb, ↓zzbc, ↓zzbd, ↓zzbe, ↓zzbf, ↓zzbg, ↓zzbh, ↓zzbi, ↓zzbj, ↓zzbk, ↓zzbl, ↓zzbm, ↓zzbn, ↓zzbo, ↓zzbp, ↓zzbq, ↓zzbr, ↓zzbs, ↓zzbt, ↓zzbu, ↓zzbv, ↓zzbw, ↓zzbx, ↓zzby, ↓zzbz, ↓zzca, ↓zzcb, ↓zzcc, ↓zzcd, ↓zzce, ↓zzcf, ↓zzcg, ↓zzch, ↓zzci, ↓zzcj, ↓zzck, ↓zzcl, ↓zzcm, ↓zzcn, ↓zzco, ↓zzcp, ↓zzcq, ↓zzcr, ↓zzcs, ↓zzct, ↓zzcu, ↓zzcv, ↓zzcw, ↓zzcx, ↓zzcy, ↓zzcz, ↓zzda, ↓zzdb, ↓zzdc, ↓zzdd, zzde, ↓zzdf, ↓zzdg, ↓zzdh, ↓zzdi, ↓zzdj, ↓zzdk, ↓zzdl, ↓zzdm, ↓zzdn, ↓zzdo, ↓zzdp, ↓zzdq, zzdr, zzds, zzdt, zzdu, zzdv, zzdw, zzdx, zzdy, zzdz, zzea, zzeb, oEq, oNe, eqT, oAdd, oNeg, oAbs, oMax2, oMin2, oInt, oLen, oIsN, oNotN, oIn, oNin, inT, eqF, oIsi, oIsi2, oList, oTuple, seqT, zp, enm, two, three, ioFind, ioCount, brOk, Bop.still, Bop.isI, T.ow, T.owl, T.nob, T.nobl, T.nfz, T.nfzl, T.fz, T.fzl, Bop.fit, Bop.res, Bop.bo, zzec, zzed, zzee, zzef, zzeg, zzeh, zzei, zzej, zzef, zzeg, zzeh, zzei, zzek, zzel, List.all_cons, List.all_nil, List.any_cons, List.any_nil, zzem, zzen, zzeo, zzep, zzeq, zzer, zzes, zzet, Bool.not_false, Bool.not_true, Bool.or_false, Bool.false_or, Bool.and_true, Bool.true_and, Bool.or_true, Bool.true_or, Bool.and_false, Bool.false_and, Bool.not_not, Bool.not_eq_true', decide_eq_false_iff_not, Bool.and_eq_true, Bool.or_eq_true, true_or, or_true, false_or, or_false, true_and, and_true, false_and, and_false, Bool.false_eq_true, false_imp_iff, if_true, if_false, forall_const, implies_true, Option.some.injEq, Option.isSome_some, forall_eq', reduceCtorEq, List.cons_append, List.nil_append, List.length_cons, List.length_nil, List.length_map, List.length_append, List.length_range, zzeu, zzev, zzew, List.replicate, List.flatten_cons, List.flatten_nil, List.append_nil, Nat.reduceAdd, Nat.reduceSub, Nat.reduceLT, Nat.reduceLeDiff, List.set_cons_zero, List.set_cons_succ, decide_eq_true_eq, decide_true, decide_false, Int.reduceLT, Int.reduceLE, Int.reduceMul, Int.reducePow, Int.reduceToNat, Int.reduceAdd, Int.reduceSub, Int.reduceNeg, Int.reduceEq, Nat.reducePow, zzex, zzey, zzez, Nat.zero_add, big, zzfa, zzfb, String.reduceEq, wipeE, zzfc, zzfd, zzah, zzai, Option.getD_some, ↓zzfe, ↓zzff, ↓zzfg, ↓zzfh, ↓zzfi, ↓zzfj, ↓zzfk, ↓zzfl, ↓zzfm, ↓zzfn, ↓zzfo, ↓zzfp, ↓zzfq, ↓zzfr, ↓zzfs, ↓zzft, ↓zzfu, ↓zzfv, ↓zzfw, ↓zzfx, ↓zzfy, ↓zzfz, ↓zzga, ↓zzgb, ↓zzgc, ↓zzgd, ↓zzge, ↓zzgf, ↓zzgg, ↓zzgh, ↓zzgi, ↓zzgj, ↓zzgk, ↓zzgl, ↓zzgm, ↓zzgn, ↓zzgo, ↓zzgp, ↓zzgq, ↓zzgr, ↓zzgs, ↓zzgt, ↓zzgu, ↓zzgv, ↓zzgw, ↓zzgx, ↓zzgy, ↓zzgz, ↓zzha, ↓zzhb, ↓zzhc, ↓zzhd, ↓zzhe, ↓zzhf, ↓zzhg, ↓zzhh, ↓zzhi, ↓zzhj, ↓zzhk, ↓zzhl, ↓zzhm, ↓zzhn, ↓zzho, ↓zzhp, ↓zzhq, ↓zzhr, ↓zzhs, ↓zzht, ↓zzhl, zzhu, zzhv, zzhw, zzhx, zzhy, zzhz, zzia, zzib, zzic, zzid, zzie, zzif, zzig, zzih, zzii, zzij, zzik, zzil, zzim, zzin, zzio, zzip, zziq, zzir, zzis, zzit, zziu, zziv, zziw, zzix, zziy, zziz, zzja, zzjb, zzjc, zzjd, zzje, zzjf, zzjg, zzjh, zzji, zzjj, zzjk, zzjl, zzjm, zzjn, zzjo, zzjp, zzjq, zzjr, zzjs, zzjt, zzju, zzjv, zzjw, zzjx, zzjy, zzjz, zzka, zzkb, zzkc, zzkd, zzke, zzkf, zzkg, zzkh, zzki, zzkj, zzkk, zzkl, zzkm, zzkn, zzko, zzkp, zzkq, zzkr, zzks, zzkt, zzku, zzkv, zzkw, zzkx, zzky, zzkz, zzla, zzlb, zzlc, zzld, zzle, zzlf, zzlg, zzlh, zzli, zzlj, zzlk, zzll, zzlm, zzln, zzlo, ↓zzlp, ↓zzlq, ↓zzlr, ↓zzls, ↓zzlt, ↓zzlu, ↓zzlv, ↓zzlw, ↓zzlx, ↓zzly, ↓zzlz, ↓zzma, zzmb, zzmc, ↓zzmd, ↓zzme, ↓zzmf, ↓zzmg, ↓zzmh, zzmi, zzmj, zzmk, zzml, zzmm, zzmn, zzmo, zzmp, zzmq, zzmr, zzms, Option.bind_some, Option.map_some, ↓zzmt, ↓zzmu, ↓zzmv, ↓zzmw, ↓zzmx, ↓zzmy, ↓zzmz, ↓zzna, ↓zznb, ↓zznc, ↓zznd, ↓zzne, ↓zznf, ↓zzng, ↓zznh, ↓zzni, ↓zznj, ↓zznk, ↓zznl, ho, zip_self]
        refine ih x hp' _ ?_
        simp only [↓zzaa, ↓zzab, ↓zzac, ↓zzad, ↓zzae, ↓zzaf, ↓zzag, ↓zzah, ↓zzai, ↓zzaj, ↓zzak, ↓zzal, ↓zzam, ↓zzan, ↓zzao, ↓zzap, ↓zzaq, ↓zzar, ↓zzas, ↓zzat, ↓zzau, ↓zzav, ↓zzaw, ↓zzax, ↓zzay, ↓zzaz, ↓zzba, ↓zzbb, ↓zzbc, ↓zzbd, ↓zzbe, ↓zzbf, ↓zzbg, ↓zzbh, ↓zzbi, ↓zzbj, ↓zzbk, ↓zzbl, ↓zzbm, ↓zzbn, ↓zzbo, ↓zzbp, ↓zzbq, ↓zzbr, ↓zzbs, ↓zzbt, ↓zzbu, ↓zzbv, ↓zzbw, ↓zzbx, ↓zzby, ↓zzbz, ↓zzca, ↓zzcb, ↓zzcc, ↓zzcd, ↓zzce, ↓zzcf, ↓zzcg, ↓zzch, ↓zzci, ↓zzcj, ↓zzck, ↓zzcl, ↓zzcm, ↓zzcn, ↓zzco, ↓zzcp, ↓zzcq, ↓zzcr, ↓zzcs, ↓zzct, ↓zzcu, ↓zzcv, ↓zzcw, ↓zzcx, ↓zzcy, ↓zzcz, ↓zzda, ↓zzdb, ↓zzdc, ↓zzdd, zzde, ↓zzdf, ↓zzdg, ↓zzdh, ↓zzdi, ↓zzdj, ↓zzdk, ↓zzdl, ↓zzdm, ↓zzdn, ↓zzdo, ↓zzdp, ↓zzdq, zzdr, zzds, zzdt, zzdu, zzdv, zzdw, zzdx, zzdy, zzdz, zzea, zzeb, oEq, oNe, eqT, oAdd, oNeg, oAbs, oMax2, oMin2, oInt, oLen, oIsN, oNotN, oIn, oNin, inT, eqF, oIsi, oIsi2, oList, oTuple, seqT, zp, enm, two, three, ioFind, ioCount, brOk, Bop.still, Bop.isI, T.ow, T.owl, T.nob, T.nobl, T.nfz, T.nfzl, T.fz, T.fzl, Bop.fit, Bop.res, Bop.bo, zzec, zzed, zzee, zzef, zzeg, zzeh, zzei, zzej, zzef, zzeg, zzeh, zzei, zzek, zzel, List.all_cons, List.all_nil, List.any_cons, List.any_nil, zzem, zzen, zzeo, zzep, zzeq, zzer, zzes, zzet, Bool.not_false, Bool.not_true, Bool.or_false, Bool.false_or, Bool.and_true, Bool.true_and, Bool.or_true, Bool.true_or, Bool.and_false, Bool.false_and, Bool.not_not, Bool.not_eq_true', decide_eq_false_iff_not, Bool.and_eq_true, Bool.or_eq_true, true_or, or_true, false_or, or_false, true_and, and_true, false_and, and_false, Bool.false_eq_true, false_imp_iff, if_true, if_false, forall_const, implies_true, Option.some.injEq, Option.isSome_some, forall_eq', reduceCtorEq, List.cons_append, List.nil_append, List.length_cons, List.length_nil, List.length_map, List.length_append, List.length_range, zzeu, zzev, zzew, List.replicate, List.flatten_cons, List.flatten_nil, List.append_nil, Nat.reduceAdd, Nat.reduceSub, Nat.reduceLT, Nat.reduceLeDiff, List.set_cons_zero, List.set_cons_succ, decide_eq_true_eq, decide_true, decide_false, Int.reduceLT, Int.reduceLE, Int.reduceMul, Int.reducePow, Int.reduceToNat, Int.reduceAdd, Int.reduceSub, Int.reduceNeg, Int.reduceEq, Nat.reducePow, zzex, zzey, zzez, Nat.zero_add, big, zzfa, zzfb, String.reduceEq, wipeE, zzfc, zzfd, zzah, zzai, Option.getD_some, ↓zzfe, ↓zzff, ↓zzfg, ↓zzfh, ↓zzfi, ↓zzfj, ↓zzfk, ↓zzfl, ↓zzfm, ↓zzfn, ↓zzfo, ↓zzfp, ↓zzfq, ↓zzfr, ↓zzfs, ↓zzft, ↓zzfu, ↓zzfv, ↓zzfw, ↓zzfx, ↓zzfy, ↓zzfz, ↓zzga, ↓zzgb, ↓zzgc, ↓zzgd, ↓zzge, ↓zzgf, ↓zzgg, ↓zzgh, ↓zzgi, ↓zzgj, ↓zzgk, ↓zzgl, ↓zzgm, ↓zzgn, ↓zzgo, ↓zzgp, ↓zzgq, ↓zzgr, ↓zzgs, ↓zzgt, ↓zzgu, ↓zzgv, ↓zzgw, ↓zzgx, ↓zzgy, ↓zzgz, ↓zzha, ↓zzhb, ↓zzhc, ↓zzhd, ↓zzhe, ↓zzhf, ↓zzhg, ↓zzhh, ↓zzhi, ↓zzhj, ↓zzhk, ↓zzhl, ↓zzhm, ↓zzhn, ↓zzho, ↓zzhp, ↓zzhq, ↓zzhr, ↓zzhs, ↓zzht, ↓zzhl, zzhu, zzhv, zzhw, zzhx, zzhy, zzhz, zzia, zzib, zzic, zzid, zzie, zzif, zzig, zzih, zzii, zzij, zzik, zzil, zzim, zzin, zzio, zzip, zziq, zzir, zzis, zzit, zziu, zziv, zziw, zzix, zziy, zziz, zzja, zzjb, zzjc, zzjd, zzje, zzjf, zzjg, zzjh, zzji, zzjj, zzjk, zzjl, zzjm, zzjn, zzjo, zzjp, zzjq, zzjr, zzjs, zzjt, zzju, zzjv, zzjw, zzjx, zzjy, zzjz, zzka, zzkb, zzkc, zzkd, zzke, zzkf, zzkg, zzkh, zzki, zzkj, zzkk, zzkl, zzkm, zzkn, zzko, zzkp, zzkq, zzkr, zzks, zzkt, zzku, zzkv, zzkw, zzkx, zzky, zzkz, zzla, zzlb, zzlc, zzld, zzle, zzlf, zzlg, zzlh, zzli, zzlj, zzlk, zzll, zzlm, zzln, zzlo, ↓zzlp, ↓zzlq, ↓zzlr, ↓zzls, ↓zzlt, ↓zzlu, ↓zzlv, ↓zzlw, ↓zzlx, ↓zzly, ↓zzlz, ↓zzma, zzmb, zzmc, ↓zzmd, ↓zzme, ↓zzmf, ↓zzmg, ↓zzmh, zzmi, zzmj, zzmk, zzml, zzmm, zzmn, zzmo, zzmp, zzmq, zzmr, zzms, Option.bind_some, Option.map_some, ↓zzmt, ↓zzmu, ↓zzmv, ↓zzmw, ↓zzmx, ↓zzmy, ↓zzmz, ↓zzna, ↓zznb, ↓zznc, ↓zznd, ↓zzne, ↓zznf, ↓zzng, ↓zznh, ↓zzni, ↓zznj, ↓zznk, ↓zznl, ho, zip_self]
        exact q'
    cases t with
    | tup xs =>
      have ho : T.owl xs = false := h.ow
      have h1 := h.1
      simp only [big] at h1
      unfold f__law_same b__law_same
      simp only [↓zzaa, ↓zzab, ↓zzac, ↓zzad, ↓zzae, ↓zzaf, ↓zzag, ↓zzah, ↓zzai, ↓zzaj, ↓zzak, ↓zzal, ↓zzam, ↓zzan, ↓zzao, ↓zzap, ↓zzaq, ↓zzar, ↓zzas, ↓zzat, ↓zzau, ↓zzav, ↓zzaw, ↓zzax, ↓zzay, ↓zzaz, ↓zzba, ↓zzbb, ↓zzbc, ↓zzbd, ↓zzbe, ↓zzbf, ↓zzbg, ↓zzbh, ↓zzbi, ↓zzbj, ↓zzbk, ↓zzbl, ↓zzbm, ↓zzbn, ↓zzbo, ↓zzbp, ↓zzbq, ↓zzbr, ↓zzbs, ↓zzbt, ↓zzbu, ↓zzbv, ↓zzbw, ↓zzbx, ↓zzby, ↓zzbz, ↓zzca, ↓zzcb, ↓zzcc, ↓zzcd, ↓zzce, ↓zzcf, ↓zzcg, ↓zzch, ↓zzci, ↓zzcj, ↓zzck, ↓zzcl, ↓zzcm, ↓zzcn, ↓zzco, ↓zzcp, ↓zzcq, ↓zzcr, ↓zzcs, ↓zzct, ↓zzcu, ↓zzcv, ↓zzcw, ↓zzcx, ↓zzcy, ↓zzcz, ↓zzda, ↓zzdb, ↓zzdc, ↓zzdd, zzde, ↓zzdf, ↓zzdg, ↓zzdh, ↓zzdi, ↓zzdj, ↓zzdk, ↓zzdl, ↓zzdm, ↓zzdn, ↓zzdo, ↓zzdp, ↓zzdq, zzdr, zzds, zzdt, zzdu, zzdv, zzdw, zzdx, zzdy, zzdz, zzea, zzeb, oEq, oNe, eqT, oAdd, oNeg, oAbs, oMax2, oMin2, oInt, oLen, oIsN, oNotN, oIn, oNin, inT, eqF, oIsi, oIsi2, oList, oTuple, seqT, zp, enm, two, three, ioFind, ioCount, brOk, Bop.still, Bop.isI, T.ow, T.owl, T.nob, T.nobl, T.nfz, T.nfzl, T.fz, T.fzl, Bop.fit, Bop.res, Bop.bo, zzec, zzed, zzee, zzef, zzeg, zzeh, zzei, zzej, zzef, zzeg, zzeh, zzei, zzek, zzel, List.all_cons, List.all_nil, List.any_cons, List.any_nil, zzem, zzen, zzeo, zzep, zzeq, zzer, zzes, zzet, Bool.not_false, Bool.not_true, Bool.or_false, Bool.false_or, Bool.and_true, Bool.true_and, Bool.or_true, Bool.true_or, Bool.and_false, Bool.false_and, Bool.not_not, Bool.not_eq_true', decide_eq_false_iff_not, Bool.and_eq_true, Bool.or_eq_true, true_or, or_true, false_or, or_false, true_and, and_true, false_and, and_false, Bool.false_eq_true, false_imp_iff, if_true, if_false, forall_const, implies_true, Option.some.injEq, Option.isSome_some, forall_eq', reduceCtorEq, List.cons_append, List.nil_append, List.length_cons, List.length_nil, List.length_map, List.length_append, List.length_range, zzeu, zzev, zzew, List.replicate, List.flatten_cons, List.flatten_nil, List.append_nil, Nat.reduceAdd, Nat.reduceSub, Nat.reduceLT, Nat.reduceLeDiff, List.set_cons_zero, List.set_cons_succ, decide_eq_true_eq, decide_true, decide_false, Int.reduceLT, Int.reduceLE, Int.reduceMul, Int.reducePow, Int.reduceToNat, Int.reduceAdd, Int.reduceSub, Int.reduceNeg, Int.reduceEq, Nat.reducePow, zzex, zzey, zzez, Nat.zero_add, big, zzfa, zzfb, String.reduceEq, wipeE, zzfc, zzfd, zzah, zzai, Option.getD_some, ↓zzfe, ↓zzff, ↓zzfg, ↓zzfh, ↓zzfi, ↓zzfj, ↓zzfk, ↓zzfl, ↓zzfm, ↓zzfn, ↓zzfo, ↓zzfp, ↓zzfq, ↓zzfr, ↓zzfs, ↓zzft, ↓zzfu, ↓zzfv, ↓zzfw, ↓zzfx, ↓zzfy, ↓zzfz, ↓zzga, ↓zzgb, ↓zzgc, ↓zzgd, ↓zzge, ↓zzgf, ↓zzgg, ↓zzgh, ↓zzgi, ↓zzgj, ↓zzgk, ↓zzgl, ↓zzgm, ↓zzgn, ↓zzgo, ↓zzgp, ↓zzgq, ↓zzgr, ↓zzgs, ↓zzgt, ↓zzgu, ↓zzgv, ↓zzgw, ↓zzgx, ↓zzgy, ↓zzgz, ↓zzha, ↓zzhb, ↓zzhc, ↓zzhd, ↓zzhe, ↓zzhf, ↓zzhg, ↓zzhh, ↓zzhi, ↓zzhj, ↓zzhk, ↓zzhl, ↓zzhm, ↓zzhn, ↓zzho, ↓zzhp, ↓zzhq, ↓zzhr, ↓zzhs, ↓zzht, ↓zzhl, zzhu, zzhv, zzhw, zzhx, zzhy, zzhz, zzia, zzib, zzic, zzid, zzie, zzif, zzig, zzih, zzii, zzij, zzik, zzil, zzim, zzin, zzio, zzip, zziq, zzir, zzis, zzit, zziu, zziv, zziw, zzix, zziy, zziz, zzja, zzjb, zzjc, zzjd, zzje, zzjf, zzjg, zzjh, zzji, zzjj, zzjk, zzjl, zzjm, zzjn, zzjo, zzjp, zzjq, zzjr, zzjs, zzjt, zzju, zzjv, zzjw, zzjx, zzjy, zzjz, zzka, zzkb, zzkc, zzkd, zzke, zzkf, zzkg, zzkh, zzki, zzkj, zzkk, zzkl, zzkm, zzkn, zzko, zzkp, zzkq, zzkr, zzks, zzkt, zzku, zzkv, zzkw, zzkx, zzky, zzkz, zzla, zzlb, zzlc, zzld, zzle, zzlf, zzlg, zzlh, zzli, zzlj, zzlk, zzll, zzlm, zzln, zzlo, ↓zzlp, ↓zzlq, ↓zzlr, ↓zzls, ↓zzlt, ↓zzlu, ↓zzlv, ↓zzlw, ↓zzlx, ↓zzly, ↓zzlz, ↓zzma, zzmb, zzmc, ↓zzmd, ↓zzme, ↓zzmf, ↓zzmg, ↓zzmh, zzmi, zzmj, zzmk, zzml, zzmm, zzmn, zzmo, zzmp, zzmq, zzmr, zzms, Option.bind_some, Option.map_some, ↓zzmt, ↓zzmu, ↓zzmv, ↓zzmw, ↓zzmx, ↓zzmy, ↓zzmz, ↓zzna, ↓zznb, ↓zznc, ↓zznd, ↓zzne, ↓zznf, ↓zzng, ↓zznh, ↓zzni, ↓zznj, ↓zznk, ↓zznl, ho, zip_self]
      refine ⟨h1, seq xs _ h.2 ⟨rfl, rfl⟩ _ ?_⟩
      simp only [↓zzaa, ↓zzab, ↓zzac, ↓zzad, ↓zzae, ↓zzaf, ↓zzag, ↓zzah, ↓zzai, ↓zzaj, ↓zzak, ↓zzal, ↓zzam, ↓zzan, ↓zzao, ↓zzap, ↓zzaq, ↓zzar, ↓zzas, ↓zzat, ↓zzau, ↓zzav, ↓zzaw, ↓zzax, ↓zzay, ↓zzaz, ↓zzba, ↓zzbb, ↓zzbc, ↓zzbd, ↓zzbe, ↓zzbf, ↓zzbg, ↓zzbh, ↓zzbi, ↓zzbj, ↓zzbk, ↓zzbl, ↓zzbm, ↓zzbn, ↓zzbo, ↓zzbp, ↓zzbq, ↓zzbr, ↓zzbs, ↓zzbt, ↓zzbu, ↓zzbv, ↓zzbw, ↓zzbx, ↓zzby, ↓zzbz, ↓zzca, ↓zzcb, ↓zzcc, ↓zzcd, ↓zzce, ↓zzcf, ↓zzcg, ↓zzch, ↓zzci, ↓zzcj, ↓zzck, ↓zzcl, ↓zzcm, ↓zzcn, ↓zzco, ↓zzcp, ↓zzcq, ↓zzcr, ↓zzcs, ↓zzct, ↓zzcu, ↓zzcv, ↓zzcw, ↓zzcx, ↓zzcy, ↓zzcz, ↓zzda, ↓zzdb, ↓zzdc, ↓zzdd, zzde, ↓zzdf, ↓zzdg, ↓zzdh, ↓zzdi, ↓zzdj, ↓zzdk, ↓zzdl, ↓zzdm, ↓zzdn, ↓zzdo, ↓zzdp, ↓zzdq, zzdr, zzds, zzdt, zzdu, zzdv, zzdw, zzdx, zzdy, zzdz, zzea, zzeb, oEq, oNe, eqT, oAdd, oNeg, oAbs, oMax2, oMin2, oInt, oLen, oIsN, oNotN, oIn, oNin, inT, eqF, oIsi, oIsi2, oList, oTuple, seqT, zp, enm, two, three, ioFind, ioCount, brOk, Bop.still, Bop.isI, T.ow, T.owl, T.nob, T.nobl, T.nfz, T.nfzl, T.fz, T.fzl, Bop.fit, Bop.res, Bop.bo, zzec, zzed, zzee, zzef, zzeg, zzeh, zzei, zzej, zzef, zzeg, zzeh, zzei, zzek, zzel, List.all_cons, List.all_nil, List.any_cons, List.any_nil, zzem, zzen, zzeo, zzep, zzeq, zzer, zzes, zzet, Bool.not_false, Bool.not_true, Bool.or_false, Bool.false_or, Bool.and_true, Bool.true_and, Bool.or_true, Bool.true_or, Bool.and_false, Bool.false_and, Bool.not_not, Bool.not_eq_true', decide_eq_false_iff_not, Bool.and_eq_true, Bool.or_eq_true, true_or, or_true, false_or, or_false, true_and, and_true, false_and, and_false, Bool.false_eq_true, false_imp_iff, if_true, if_false, forall_const, implies_true, Option.some.injEq, Option.isSome_some, forall_eq', reduceCtorEq, List.cons_append, List.nil_append, List.length_cons, List.length_nil, List.length_map, List.length_append, List.length_range, zzeu, zzev, zzew, List.replicate, List.flatten_cons, List.flatten_nil, List.append_nil, Nat.reduceAdd, Nat.reduceSub, Nat.reduceLT, Nat.reduceLeDiff, List.set_cons_zero, List.set_cons_succ, decide_eq_true_eq, decide_true, decide_false, Int.reduceLT, Int.reduceLE, Int.reduceMul, Int.reducePow, Int.reduceToNat, Int.reduceAdd, Int.reduceSub, Int.reduceNeg, Int.reduceEq, Nat.reducePow, zzex, zzey, zzez, Nat.zero_add, big, zzfa, zzfb, String.reduceEq, wipeE, zzfc, zzfd, zzah, zzai, Option.getD_some, ↓zzfe, ↓zzff, ↓zzfg, ↓zzfh, ↓zzfi, ↓zzfj, ↓zzfk, ↓zzfl, ↓zzfm, ↓zzfn, ↓zzfo, ↓zzfp, ↓zzfq, ↓zzfr, ↓zzfs, ↓zzft, ↓zzfu, ↓zzfv, ↓zzfw, ↓zzfx, ↓zzfy, ↓zzfz, ↓zzga, ↓zzgb, ↓zzgc, ↓zzgd, ↓zzge, ↓zzgf, ↓zzgg, ↓zzgh, ↓zzgi, ↓zzgj, ↓zzgk, ↓zzgl, ↓zzgm, ↓zzgn, ↓zzgo, ↓zzgp, ↓zzgq, ↓zzgr, ↓zzgs, ↓zzgt, ↓zzgu, ↓zzgv, ↓zzgw, ↓zzgx, ↓zzgy, ↓zzgz, ↓zzha, ↓zzhb, ↓zzhc, ↓zzhd, ↓zzhe, ↓zzhf, ↓zzhg, ↓zzhh, ↓zzhi, ↓zzhj, ↓zzhk, ↓zzhl, ↓zzhm, ↓zzhn, ↓zzho, ↓zzhp, ↓zzhq, ↓zzhr, ↓zzhs, ↓zzht, ↓zzhl, zzhu, zzhv, zzhw, zzhx, zzhy, zzhz, zzia, zzib, zzic, zzid, zzie, zzif, zzig, zzih, zzii, zzij, zzik, zzil, zzim, zzin, zzio, zzip, zziq, zzir, zzis, zzit, zziu, zziv, zziw, zzix, zziy, zziz, zzja, zzjb, zzjc, zzjd, zzje, zzjf, zzjg, zzjh, zzji, zzjj, zzjk, zzjl, zzjm, zzjn, zzjo, zzjp, zzjq, zzjr, zzjs, zzjt, zzju, zzjv, zzjw, zzjx, zzjy, zzjz, zzka, zzkb, zzkc, zzkd, zzke, zzkf, zzkg, zzkh, zzki, zzkj, zzkk, zzkl, zzkm, zzkn, zzko, zzkp, zzkq, zzkr, zzks, zzkt, zzku, zzkv, zzkw, zzkx, zzky, zzkz, zzla, zzlb, zzlc, zzld, zzle, zzlf, zzlg, zzlh, zzli, zzlj, zzlk, zzll, zzlm, zzln, zzlo, ↓zzlp, ↓zzlq, ↓zzlr, ↓zzls, ↓zzlt, ↓zzlu, ↓zzlv, ↓zzlw, ↓zzlx, ↓zzly, ↓zzlz, ↓zzma, zzmb, zzmc, ↓zzmd, ↓zzme, ↓zzmf, ↓zzmg, ↓zzmh, zzmi, zzmj, zzmk, zzml, zzmm, zzmn, zzmo, zzmp, zzmq, zzmr, zzms, Option.bind_some, Option.map_some, ↓zzmt, ↓zzmu, ↓zzmv, ↓zzmw, ↓zzmx, ↓zzmy, ↓zzmz, ↓zzna, ↓zznb, ↓zznc, ↓zznd, ↓zzne, ↓zznf, ↓zzng, ↓zznh, ↓zzni, ↓zznj, ↓zznk, ↓zznl]
      exact q
    | lst o xs =>
      cases o with
      | true => exact absurd h (by simp [Pl])
      | false =>
        have ho : T.owl xs = false := by have := h.ow; simpa only [T.ow, Bool.false_or] using this
        have h1 := h.1
        simp only [big] at h1
        unfold f__law_same b__law_same
        simp only [↓zzaa, ↓zzab, ↓zzac, ↓zzad, ↓zzae, ↓zzaf, ↓zzag, ↓zzah, ↓zzai, ↓zzaj, ↓zzak, ↓zzal, ↓zzam, ↓zzan, ↓zzao, ↓zzap, ↓zzaq, ↓zzar, ↓zzas, ↓zzat, ↓zzau, ↓zzav, ↓zzaw, ↓zzax, ↓zzay, ↓zzaz, ↓zzba, ↓zzbb, ↓zzbc, ↓zzbd, ↓zzbe, ↓zzbf, ↓zzbg, ↓zzbh, ↓zzbi, ↓zzbj, ↓zzbk, ↓zzbl, ↓zzbm, ↓zzbn, ↓zzbo, ↓zzbp, ↓zzbq, ↓zzbr, ↓zzbs, ↓zzbt, ↓zzbu, ↓zzbv, ↓zzbw, ↓zzbx, ↓zzby, ↓zzbz, ↓zzca, ↓zzcb, ↓zzcc, ↓zzcd, ↓zzce, ↓zzcf, ↓zzcg, ↓zzch, ↓zzci, ↓zzcj, ↓zzck, ↓zzcl, ↓zzcm, ↓zzcn, ↓zzco, ↓zzcp, ↓zzcq, ↓zzcr, ↓zzcs, ↓zzct, ↓zzcu, ↓zzcv, ↓zzcw, ↓zzcx, ↓zzcy, ↓zzcz, ↓zzda, ↓zzdb, ↓zzdc, ↓zzdd, zzde, ↓zzdf, ↓zzdg, ↓zzdh, ↓zzdi, ↓zzdj, ↓zzdk, ↓zzdl, ↓zzdm, ↓zzdn, ↓zzdo, ↓zzdp, ↓zzdq, zzdr, zzds, zzdt, zzdu, zzdv, zzdw, zzdx, zzdy, zzdz, zzea, zzeb, oEq, oNe, eqT, oAdd, oNeg, oAbs, oMax2, oMin2, oInt, oLen, oIsN, oNotN, oIn, oNin, inT, eqF, oIsi, oIsi2, oList, oTuple, seqT, zp, enm, two, three, ioFind, ioCount, brOk, Bop.still, Bop.isI, T.ow, T.owl, T.nob, T.nobl, T.nfz, T.nfzl, T.fz, T.fzl, Bop.fit, Bop.res, Bop.bo, zzec, zzed, zzee, zzef, zzeg, zzeh, zzei, zzej, zzef, zzeg, zzeh, zzei, zzek, zzel, List.all_cons, List.all_nil, List.any_cons, List.any_nil, zzem, zzen, zzeo, zzep, zzeq, zzer, zzes, zzet, Bool.not_false, Bool.not_true, Bool.or_false, Bool.false_or, Bool.and_true, Bool.true_and, Bool.or_true, Bool.true_or, Bool.and_false, Bool.false_and, Bool.not_not, Bool.not_eq_true', decide_eq_false_iff_not, Bool.and_eq_true, Bool.or_eq_true, true_or, or_true, false_or, or_false, true_and, and_true, false_and, and_false, Bool.false_eq_true, false_imp_iff, if_true, if_false, forall_const, implies_true, Option.some.injEq, Option.isSome_some, forall_eq', reduceCtorEq, List.cons_append, List.nil_append, List.length_cons, List.length_nil, List.length_map, List.length_append, List.length_range, zzeu, zzev, zzew, List.replicate, List.flatten_cons, List.flatten_nil, List.append_nil, Nat.reduceAdd, Nat.reduceSub, Nat.reduceLT, Nat.reduceLeDiff, List.set_cons_zero, List.set_cons_succ, decide_eq_true_eq, decide_true, decide_false, Int.reduceLT, Int.reduceLE, Int.reduceMul, Int.reducePow, Int.reduceToNat, Int.reduceAdd, Int.reduceSub, Int.reduceNeg, Int.reduceEq, Nat.reducePow, zzex, zzey, zzez, Nat.zero_add, big, zzfa, zzfb, String.reduceEq, wipeE, zzfc, zzfd, zzah, zzai, Option.getD_some, ↓zzfe, ↓zzff, ↓zzfg, ↓zzfh, ↓zzfi, ↓zzfj, ↓zzfk, ↓zzfl, ↓zzfm, ↓zzfn, ↓zzfo, ↓zzfp, ↓zzfq, ↓zzfr, ↓zzfs, ↓zzft, ↓zzfu, ↓zzfv, ↓zzfw, ↓zzfx, ↓zzfy, ↓zzfz, ↓zzga, ↓zzgb, ↓zzgc, ↓zzgd, ↓zzge, ↓zzgf, ↓zzgg, ↓zzgh, ↓zzgi, ↓zzgj, ↓zzgk, ↓zzgl, ↓zzgm, ↓zzgn, ↓zzgo, ↓zzgp, ↓zzgq, ↓zzgr, ↓zzgs, ↓zzgt, ↓zzgu, ↓zzgv, ↓zzgw, ↓zzgx, ↓zzgy, ↓zzgz, ↓zzha, ↓zzhb, ↓zzhc, ↓zzhd, ↓zzhe, ↓zzhf, ↓zzhg, ↓zzhh, ↓zzhi, ↓zzhj, ↓zzhk, ↓zzhl, ↓zzhm, ↓zzhn, ↓zzho, ↓zzhp, ↓zzhq, ↓zzhr, ↓zzhs, ↓zzht, ↓zzhl, zzhu, zzhv, zzhw, zzhx, zzhy, zzhz, zzia, zzib, zzic, zzid, zzie, zzif, zzig, zzih, zzii, zzij, zzik, zzil, zzim, zzin, zzio, zzip, zziq, zzir, zzis, zzit, zziu, zziv, zziw, zzix, zziy, zziz, zzja, zzjb, zzjc, zzjd, zzje, zzjf, zzjg, zzjh, zzji, zzjj, zzjk, zzjl, zzjm, zzjn, zzjo, zzjp, zzjq, zzjr, zzjs, zzjt, zzju, zzjv, zzjw, zzjx, zzjy, zzjz, zzka, zzkb, zzkc, zzkd, zzke, zzkf, zzkg, zzkh, zzki, zzkj, zzkk, zzkl, zzkm, zzkn, zzko, zzkp, zzkq, zzkr, zzks, zzkt, zzku, zzkv, zzkw, zzkx, zzky, zzkz, zzla, zzlb, zzlc, zzld, zzle, zzlf, zzlg, zzlh, zzli, zzlj, zzlk, zzll, zzlm, zzln, zzlo, ↓zzlp, ↓zzlq, ↓zzlr, ↓zzls, ↓zzlt, ↓zzlu, ↓zzlv, ↓zzlw, ↓zzlx, ↓zzly, ↓zzlz, ↓zzma, zzmb, zzmc, ↓zzmd, ↓zzme, ↓zzmf, ↓zzmg, ↓zzmh, zzmi, zzmj, zzmk, zzml, zzmm, zzmn, zzmo, zzmp, zzmq, zzmr, zzms, Option.bind_some, Option.map_some, ↓zzmt, ↓zzmu, ↓zzmv, ↓zzmw, ↓zzmx, ↓zzmy, ↓zzmz, ↓zzna, ↓zznb, ↓zznc, ↓zznd, ↓zzne, ↓zznf, ↓zzng, ↓zznh, ↓zzni, ↓zznj, ↓zznk, ↓zznl, ho, zip_self]
        refine ⟨h1, seq xs _ h.2 ⟨rfl, rfl⟩ _ ?_⟩
        simp only [↓zzaa, ↓zzab, ↓zzac, ↓zzad, ↓zzae, ↓zzaf, ↓zzag, ↓zzah, ↓zzai, ↓zzaj, ↓zzak, ↓zzal, ↓zzam, ↓zzan, ↓zzao, ↓zzap, ↓zzaq, ↓zzar, ↓zzas, ↓zzat, ↓zzau, ↓zzav, ↓zzaw, ↓zzax, ↓zzay, ↓zzaz, ↓zzba, ↓zzbb, ↓zzbc, ↓zzbd, ↓zzbe, ↓zzbf, ↓zzbg, ↓zzbh, ↓zzbi, ↓zzbj, ↓zzbk, ↓zzbl, ↓zzbm, ↓zzbn, ↓zzbo, ↓zzbp, ↓zzbq, ↓zzbr, ↓zzbs, ↓zzbt, ↓zzbu, ↓zzbv, ↓zzbw, ↓zzbx, ↓zzby, ↓zzbz, ↓zzca, ↓zzcb, ↓zzcc, ↓zzcd, ↓zzce, ↓zzcf, ↓zzcg, ↓zzch, ↓zzci, ↓zzcj, ↓zzck, ↓zzcl, ↓zzcm, ↓zzcn, ↓zzco, ↓zzcp, ↓zzcq, ↓zzcr, ↓zzcs, ↓zzct, ↓zzcu, ↓zzcv, ↓zzcw, ↓zzcx, ↓zzcy, ↓zzcz, ↓zzda, ↓zzdb, ↓zzdc, ↓zzdd, zzde, ↓zzdf, ↓zzdg, ↓zzdh, ↓zzdi, ↓zzdj, ↓zzdk, ↓zzdl, ↓zzdm, ↓zzdn, ↓zzdo, ↓zzdp, ↓zzdq, zzdr, zzds, zzdt, zzdu, zzdv, zzdw, zzdx, zzdy, zzdz, zzea, zzeb, oEq, oNe, eqT, oAdd, oNeg, oAbs, oMax2, oMin2, oInt, oLen, oIsN, oNotN, oIn, oNin, inT, eqF, oIsi, oIsi2, oList, oTuple, seqT, zp, enm, two, three, ioFind, ioCount, brOk, Bop.still, Bop.isI, T.ow, T.owl, T.nob, T.nobl, T.nfz, T.nfzl, T.fz, T.fzl, Bop.fit, Bop.res, Bop.bo, zzec, zzed, zzee, zzef, zzeg, zzeh, zzei, zzej, zzef, zzeg, zzeh, zzei, zzek, zzel, List.all_cons, List.all_nil, List.any_cons, List.any_nil, zzem, zzen, zzeo, zzep, zzeq, zzer, zzes, zzet, Bool.not_false, Bool.not_true, Bool.or_false, Bool.false_or, Bool.and_true, Bool.true_and, Bool.or_true, Bool.true_or, Bool.and_false, Bool.false_and, Bool.not_not, Bool.not_eq_true', decide_eq_false_iff_not, Bool.and_eq_true, Bool.or_eq_true, true_or, or_true, false_or, or_false, true_and, and_true, false_and, and_false, Bool.false_eq_true, false_imp_iff, if_true, if_false, forall_const, implies_true, Option.some.injEq, Option.isSome_some, forall_eq', reduceCtorEq, List.cons_append, List.nil_append, List.length_cons, List.length_nil, List.length_map, List.length_append, List.length_range, zzeu, zzev, zzew, List.replicate, List.flatten_cons, List.flatten_nil, List.append_nil, Nat.reduceAdd, Nat.reduceSub, Nat.reduceLT, Nat.reduceLeDiff, List.set_cons_zero, List.set_cons_succ, decide_eq_true_eq, decide_true, decide_false, Int.reduceLT, Int.reduceLE, Int.reduceMul, Int.reducePow, Int.reduceToNat, Int.reduceAdd, Int.reduceSub, Int.reduceNeg, Int.reduceEq, Nat.reducePow, zzex, zzey, zzez, Nat.zero_add, big, zzfa, zzfb, String.reduceEq, wipeE, zzfc, zzfd, zzah, zzai, Option.getD_some, ↓zzfe, ↓zzff, ↓zzfg, ↓zzfh, ↓zzfi, ↓zzfj, ↓zzfk, ↓zzfl, ↓zzfm, ↓zzfn, ↓zzfo, ↓zzfp, ↓zzfq, ↓zzfr, ↓zzfs, ↓zzft, ↓zzfu, ↓zzfv, ↓zzfw, ↓zzfx, ↓zzfy, ↓zzfz, ↓zzga, ↓zzgb, ↓zzgc, ↓zzgd, ↓zzge, ↓zzgf, ↓zzgg, ↓zzgh, ↓zzgi, ↓zzgj, ↓zzgk, ↓zzgl, ↓zzgm, ↓zzgn, ↓zzgo, ↓zzgp, ↓zzgq, ↓zzgr, ↓zzgs, ↓zzgt, ↓zzgu, ↓zzgv, ↓zzgw, ↓zzgx, ↓zzgy, ↓zzgz, ↓zzha, ↓zzhb, ↓zzhc, ↓zzhd, ↓zzhe, ↓zzhf, ↓zzhg, ↓zzhh, ↓zzhi, ↓zzhj, ↓zzhk, ↓zzhl, ↓zzhm, ↓zzhn, ↓zzho, ↓zzhp, ↓zzhq, ↓zzhr, ↓zzhs, ↓zzht, ↓zzhl, zzhu, zzhv, zzhw, zzhx, zzhy, zzhz, zzia, zzib, zzic, zzid, zzie, zzif, zzig, zzih, zzii, zzij, zzik, zzil, zzim, zzin, zzio, zzip, zziq, zzir, zzis, zzit, zziu, zziv, zziw, zzix, zziy, zziz, zzja, zzjb, zzjc, zzjd, zzje, zzjf, zzjg, zzjh, zzji, zzjj, zzjk, zzjl, zzjm, zzjn, zzjo, zzjp, zzjq, zzjr, zzjs, zzjt, zzju, zzjv, zzjw, zzjx, zzjy, zzjz, zzka, zzkb, zzkc, zzkd, zzke, zzkf, zzkg, zzkh, zzki, zzkj, zzkk, zzkl, zzkm, zzkn, zzko, zzkp, zzkq, zzkr, zzks, zzkt, zzku, zzkv, zzkw, zzkx, zzky, zzkz, zzla, zzlb, zzlc, zzld, zzle, zzlf, zzlg, zzlh, zzli, zzlj, zzlk, zzll, zzlm, zzln, zzlo, ↓zzlp, ↓zzlq, ↓zzlr, ↓zzls, ↓zzlt, ↓zzlu, ↓zzlv, ↓zzlw, ↓zzlx, ↓zzly, ↓zzlz, ↓zzma, zzmb, zzmc, ↓zzmd, ↓zzme, ↓zzmf, ↓zzmg, ↓zzmh, zzmi, zzmj, zzmk, zzml, zzmm, zzmn, zzmo, zzmp, zzmq, zzmr, zzms, Option.bind_some, Option.map_some, ↓zzmt, ↓zzmu, ↓zzmv, ↓zzmw, ↓zzmx, ↓zzmy, ↓zzmz, ↓zzna, ↓zznb, ↓zznc, ↓zznd, ↓zzne, ↓zznf, ↓zzng, ↓zznh, ↓zzni, ↓zznj, ↓zznk, ↓zznl]
        exact q
    | _ => first | exact flat _ _ rfl Q q | exact absurd h (by simp [Pl])
theorem same12 {t : T} (h : Pl 11 t) {Q : T × Option T → Prop} (q : Q (.bl true, none)) : wp (f__law_same 12 [t, t]) Q := same_ok 11 t h Q q
theorem same_e {s t : T} (e : s = t) (h : Pl 11 t) {Q : T × Option T → Prop} (q : Q (.bl true, none)) : wp (f__law_same 12 [s, t]) Q := by subst e; exact same12 h q
theorem pl_ints {k : Nat} {ns : List Int} (h : ns.length ≤ big) : Pl (k + 1) (.tup (ns.map T.int)) ∧ Pl (k + 1) (.lst false (ns.map T.int)) := by
  have : ∀ x, x ∈ ns.map T.int → Pl k x := fun x hx => by
    obtain ⟨i, _, rfl⟩ := List.mem_map.mp hx
    cases k <;> trivial
  exact ⟨⟨by simpa using h, this⟩, ⟨by simpa using h, this⟩⟩
theorem pl_tup {k : Nat} {ts : List T} (hl : ts.length ≤ big) (h : ∀ x, x ∈ ts → Pl k x) : Pl (k + 1) (.tup ts) := ⟨hl, h⟩
theorem pl_lst {k : Nat} {ts : List T} (hl : ts.length ≤ big) (h : ∀ x, x ∈ ts → Pl k x) : Pl (k + 1) (.lst false ts) := ⟨hl, h⟩
theorem pl_int {k : Nat} {i : Int} : Pl k (.int i) := by cases k <;> trivial
theorem pl_str {k : Nat} {i : Str} : Pl k (.str i) := by cases k <;> trivial
theorem pl_bl {k : Nat} {i : Bool} : Pl k (.bl i) := by cases k <;> trivial
theorem pl_non {k : Nat} : Pl k .non := by cases k <;> trivial
end NP
end
section
namespace NP
open PySem QL
def b__law_great : SM :=
  sSeq (sAsg (eCall (some 0) (some 0) f__law_take (aCons (bIo 0) (aCons (bE (eC (.int 4))) (aNil)))) (gN 1))
    (sSeq (sAsg (eOp oAdd (aCons (bE (eC (.int 100))) (aCons (bE (eCall (some 0) (some 0) f__law_take (aCons (bIo 0) (aCons (bE (eC (.int 99999900))) (aNil))))) aNil))) (gN 2))
    (sRet (eOp oIx (aCons (bE (eLst (aCons (bE (eOp oIx (aCons (bE (eLst (aCons (bE (eC (.int 100))) (aCons (bE (eC (.int 101))) (aCons (bE (eC (.int 12345))) (aCons (bE (eC (.int 10000))) (aCons (bE (eC (.int 9999))) (aNil)))))))) (aCons (bE (eCall (some 0) (some 0) f__law_take (aCons (bIo 0) (aCons (bE (eC (.int 5))) (aNil))))) aNil)))) (aCons (bE (eOp oAdd (aCons (bE (eC (.int 100))) (aCons (bE (eCall (some 0) (some 0) f__law_take (aCons (bIo 0) (aCons (bE (eC (.int 6))) (aNil))))) aNil)))) (aCons (bE (eVar 2)) (aCons (bE (eC (.int 99999999))) (aNil))))))) (aCons (bV 1) aNil)))))
def f__law_great : Fn := fnN 1 3 (some 0) b__law_great
def b__law_rows : SM :=
  sSeq (sAsg (eIf (tV (eOp oEq (aCons (bE (eCall (some 0) (some 0) f__law_take (aCons (bIo 0) (aCons (bE (eC (.int 8))) (aNil))))) (aCons (bE (eC (.int 0))) aNil)))) (eOp oAdd (aCons (bE (eC (.int 20))) (aCons (bE (eCall (some 0) (some 0) f__law_take (aCons (bIo 0) (aCons (bE (eC (.int 41))) (aNil))))) aNil))) (eCall (some 0) (some 0) f__law_take (aCons (bIo 0) (aCons (bE (eC (.int 11))) (aNil))))) (gN 1))
    (sSeq (sAsg (eOp oIx (aCons (bE (eLst (aCons (bE (eC (.int 2))) (aCons (bE (eC (.int 5))) (aCons (bE (eC (.int 9))) (aNil)))))) (aCons (bE (eCall (some 0) (some 0) f__law_take (aCons (bIo 0) (aCons (bE (eC (.int 3))) (aNil))))) aNil))) (gN 2))
    (sSeq (sAsg (eLst (aNil)) (gN 3))
    (sSeq (sFor (iRng rng1 (aCons (bV 1) (aNil))) (gN 4)
    (sSeq (sPar (aCons (bE (eCall (some 0) (some 0) f__law_take (aCons (bIo 0) (aCons (bE (eC (.int 10))) (aNil))))) (aCons (bE (eCall (some 0) (some 0) f__law_take (aCons (bIo 0) (aCons (bE (eC (.int 5))) (aNil))))) (aNil))) 5 8)
    (sSeq (sIf (tV (eOp oLt (aCons (bV 5) (aCons (bV 2) aNil)))) (sSeq (sDrop (eMut 3 T.isLst mAppend (aCons (bE (eTup (aCons (bE (eC (.str "set"))) (aCons (bE (eVar 8)) (aCons (bE (eCall (some 0) (some 0) f__law_great (aCons (bIo 0) (aNil)))) (aNil)))))) (aNil))))
    (sCont)) (sNil))
    (sSeq (sAsg (eCall (some 0) (some 0) f__law_take (aCons (bIo 0) (aCons (bE (eC (.int 9))) (aNil)))) (gN 5))
    (sSeq (sPar (aCons (bE (eCall (some 0) (some 0) f__law_take (aCons (bIo 0) (aCons (bE (eC (.int 5))) (aNil))))) (aCons (bE (eCall (some 0) (some 0) f__law_take (aCons (bIo 0) (aCons (bE (eOp oAdd (aCons (bV 1) (aCons (bE (eC (.int 1))) aNil)))) (aNil))))) (aNil))) 9 10)
    (sSeq (sAsg (eOp oMax2 (aCons (bE (eC (.int 0))) (aCons (bE (eOp oMin2 (aCons (bV 1) (aCons (bE (eOp oSub (aCons (bE (eOp oAdd (aCons (bV 4) (aCons (bE (eCall (some 0) (some 0) f__law_take (aCons (bIo 0) (aCons (bE (eC (.int 7))) (aNil))))) aNil)))) (aCons (bE (eC (.int 2))) aNil)))) (aNil))))) (aNil)))) (gN 6))
    (sSeq (sAsg (eLst (aCons (bE (eTup (aCons (bE (eC (.str "set"))) (aCons (bE (eVar 8)) (aCons (bE (eCall (some 0) (some 0) f__law_take (aCons (bIo 0) (aCons (bE (eC (.int 100))) (aNil))))) (aNil)))))) (aCons (bE (eTup (aCons (bE (eC (.str "sum"))) (aCons (bE (eVar 8)) (aCons (bE (eVar 9)) (aNil)))))) (aCons (bE (eTup (aCons (bE (eC (.str "less"))) (aCons (bE (eVar 8)) (aCons (bE (eVar 9)) (aNil)))))) (aCons (bE (eTup (aCons (bE (eC (.str "tell"))) (aCons (bE (eVar 8)) (aNil))))) (aCons (bE (eTup (aCons (bE (eC (.str "go"))) (aCons (bE (eVar 6)) (aNil))))) (aNil))))))) (gN 7))
    (sSeq (sAsg (eOp oAdd (aCons (bV 7) (aCons (bE (eLst (aCons (bE (eTup (aCons (bE (eC (.str "nil"))) (aCons (bE (eVar 8)) (aCons (bE (eVar 6)) (aNil)))))) (aCons (bE (eTup (aCons (bE (eC (.str "nil"))) (aCons (bE (eVar 8)) (aCons (bE (eVar 10)) (aNil)))))) (aCons (bE (eTup (aCons (bE (eC (.str "tell"))) (aCons (bE (eVar 8)) (aNil))))) (aCons (bE (eOp oIx (aCons (bE (eLst (aCons (bE (eTup (aCons (bE (eC (.str "go"))) (aCons (bE (eVar 10)) (aNil))))) (aCons (bE (eTup (aCons (bE (eC (.str "stop"))) (aNil)))) (aNil))))) (aCons (bE (eCall (some 0) (some 0) f__law_take (aCons (bIo 0) (aCons (bE (eC (.int 2))) (aNil))))) aNil)))) (aNil))))))) aNil))) (gN 7))
    (sDrop (eMut 3 T.isLst mAppend (aCons (bE (eOp oIx (aCons (bV 7) (aCons (bV 5) aNil)))) (aNil))))))))))))
    (sRet (eMv 3)))))
def f__law_rows : Fn := fnN 1 11 (some 0) b__law_rows
def b_is_great : SM :=
  sRet (eAnd (eOp oEq (aCons (bE (eOp oIx (aCons (bV 0) (aCons (bE (eC (.int 0))) aNil)))) (aCons (bE (eC (.str "set"))) aNil))) (eOp oGt (aCons (bE (eOp oIx (aCons (bV 0) (aCons (bE (eC (.int 2))) aNil)))) (aCons (bE (eC (.int 99))) aNil))))
def f_is_great : Fn := fnN 1 1 none b_is_great
def b_greats_of : SM :=
  sRet (eLc (iRng enm (aCons (bV 0) (aNil))) (gT 2 (gsC (gN 1) (gsC (gN 2) (gsN)))) (tV (eCall none none f_is_great (aCons (bV 2) (aNil)))) (eVar 1) [1, 2])
def f_greats_of : Fn := fnN 1 3 none b_greats_of
def b_jumps_of : SM :=
  sRet (eLc (iRng enm (aCons (bV 0) (aNil))) (gT 2 (gsC (gN 1) (gsC (gN 2) (gsN)))) (tV (eOp oIn (aCons (bE (eOp oIx (aCons (bV 2) (aCons (bE (eC (.int 0))) aNil)))) (aCons (bE (eC (.tup [(.str "go"), (.str "nil")]))) aNil)))) (eVar 1) [1, 2])
def f_jumps_of : Fn := fnN 1 3 none b_jumps_of
def b_falls : SM :=
  sRet (eOp oNin (aCons (bE (eOp oIx (aCons (bV 0) (aCons (bE (eC (.int 0))) aNil)))) (aCons (bE (eTup (aCons (bE (eC (.str "go"))) (aCons (bE (eC (.str "stop"))) (aNil))))) aNil)))
def f_falls : Fn := fnN 1 1 none b_falls
inductive Row where
  | set (r n : Int) | sum (r s : Int) | less (r s : Int) | tell (r : Int) | go (t : Int) | nil (r t : Int) | stop
  deriving DecidableEq
def Row.t : Row → T
  | .set r n => .tup [.str "set", .int r, .int n]
  | .sum r s => .tup [.str "sum", .int r, .int s]
  | .less r s => .tup [.str "less", .int r, .int s]
  | .tell r => .tup [.str "tell", .int r]
  | .go t => .tup [.str "go", .int t]
  | .nil r t => .tup [.str "nil", .int r, .int t]
  | .stop => .tup [.str "stop"]
def Row.ok (many : Int) : Row → Prop
  | .set r n => (0 ≤ r ∧ r < 5) ∧ 0 ≤ n ∧ n ≤ 99999999
  | .sum r s => (0 ≤ r ∧ r < 5) ∧ 0 ≤ s ∧ s < 5
  | .less r s => (0 ≤ r ∧ r < 5) ∧ 0 ≤ s ∧ s < 5
  | .tell r => 0 ≤ r ∧ r < 5
  | .go t => 0 ≤ t ∧ t ≤ many
  | .nil r t => (0 ≤ r ∧ r < 5) ∧ 0 ≤ t ∧ t ≤ many
  | .stop => True
theorem Row.ow {r : Row} : r.t.ow = false := by cases r <;> rfl
theorem Row.nob {r : Row} : r.t.nob = true := by cases r <;> rfl
theorem Row.nfz {r : Row} : r.t.nfz = true := by cases r <;> rfl
theorem Row.fz {r : Row} : r.t.fz = r.t := by cases r <;> rfl
def Row.great : Row → Bool
  | .set _ n => decide (99 < n)
  | _ => false
def Row.jump : Row → Bool
  | .go _ => true
  | .nil _ _ => true
  | _ => false
def Row.falls : Row → Bool
  | .go _ => false
  | .stop => false
  | _ => true
theorem great_ok {n : Int} {t : T} {Q : T × Option T → Prop} (h : Tp n t) (hn : n < 999990000) (q : ∀ g u, 100 ≤ g → g ≤ 99999999 → Tp (n + 4) u → Q (.int g, some u)) : wp (f__law_great [t]) Q := by
  unfold f__law_great b__law_great
  simp only [↓zzaa, ↓zzab, ↓zzac, ↓zzad, ↓zzae, ↓zzaf, ↓zzag, ↓zzah, ↓zzai, ↓zzaj, ↓zzak, ↓zzal, ↓zzam, ↓zzan, ↓zzao, ↓zzap, ↓zzaq, ↓zzar, ↓zzas, ↓zzat, ↓zzau, ↓zzav, ↓zzaw, ↓zzax, ↓zzay, ↓zzaz, ↓zzba, ↓zzbb, ↓zzbc, ↓zzbd, ↓zzbe, ↓zzbf, ↓zzbg, ↓zzbh, ↓zzbi, ↓zzbj, ↓zzbk, ↓zzbl, ↓zzbm, ↓zzbn, ↓zzbo, ↓zzbp, ↓zzbq, ↓zzbr, ↓zzbs, ↓zzbt, ↓zzbu, ↓zzbv, ↓zzbw, ↓zzbx, ↓zzby, ↓zzbz, ↓zzca, ↓zzcb, ↓zzcc, ↓zzcd, ↓zzce, ↓zzcf, ↓zzcg, ↓zzch, ↓zzci, ↓zzcj, ↓zzck, ↓zzcl, ↓zzcm, ↓zzcn, ↓zzco, ↓zzcp, ↓zzcq, ↓zzcr, ↓zzcs, ↓zzct, ↓zzcu, ↓zzcv, ↓zzcw, ↓zzcx, ↓zzcy, ↓zzcz, ↓zzda, ↓zzdb, ↓zzdc, ↓zzdd, zzde, ↓zzdf, ↓zzdg, ↓zzdh, ↓zzdi, ↓zzdj, ↓zzdk, ↓zzdl, ↓zzdm, ↓zzdn, ↓zzdo, ↓zzdp, ↓zzdq, zzdr, zzds, zzdt, zzdu, zzdv, zzdw, zzdx, zzdy, zzdz, zzea, zzeb, oEq, oNe, eqT, oAdd, oNeg, oAbs, oMax2, oMin2, oInt, oLen, oIsN, oNotN, oIn, oNin, inT, eqF, oIsi, oIsi2, oList, oTuple, seqT, zp, enm, two, three, ioFind, ioCount, brOk, Bop.still, Bop.isI, T.ow, T.owl, T.nob, T.nobl, T.nfz, T.nfzl, T.fz, T.fzl, Bop.fit, Bop.res, Bop.bo, zzec, zzed, zzee, zzef, zzeg, zzeh, zzei, zzej, zzef, zzeg, zzeh, zzei, zzek, zzel, List.all_cons, List.all_nil, List.any_cons, List.any_nil, zzem, zzen, zzeo, zzep, zzeq, zzer, zzes, zzet, Bool.not_false, Bool.not_true, Bool.or_false, Bool.false_or, Bool.and_true, Bool.true_and, Bool.or_true, Bool.true_or, Bool.and_false, Bool.false_and, Bool.not_not, Bool.not_eq_true', decide_eq_false_iff_not, Bool.and_eq_true, Bool.or_eq_true, true_or, or_true, false_or, or_false, true_and, and_true, false_and, and_false, Bool.false_eq_true, false_imp_iff, if_true, if_false, forall_const, implies_true, Option.some.injEq, Option.isSome_some, forall_eq', reduceCtorEq, List.cons_append, List.nil_append, List.length_cons, List.length_nil, List.length_map, List.length_append, List.length_range, zzeu, zzev, zzew, List.replicate, List.flatten_cons, List.flatten_nil, List.append_nil, Nat.reduceAdd, Nat.reduceSub, Nat.reduceLT, Nat.reduceLeDiff, List.set_cons_zero, List.set_cons_succ, decide_eq_true_eq, decide_true, decide_false, Int.reduceLT, Int.reduceLE, Int.reduceMul, Int.reducePow, Int.reduceToNat, Int.reduceAdd, Int.reduceSub, Int.reduceNeg, Int.reduceEq, Nat.reducePow, zzex, zzey, zzez, Nat.zero_add, big, zzfa, zzfb, String.reduceEq, wipeE, zzfc, zzfd, zzah, zzai, Option.getD_some, ↓zzfe, ↓zzff, ↓zzfg, ↓zzfh, ↓zzfi, ↓zzfj, ↓zzfk, ↓zzfl, ↓zzfm, ↓zzfn, ↓zzfo, ↓zzfp, ↓zzfq, ↓zzfr, ↓zzfs, ↓zzft, ↓zzfu, ↓zzfv, ↓zzfw, ↓zzfx, ↓zzfy, ↓zzfz, ↓zzga, ↓zzgb, ↓zzgc, ↓zzgd, ↓zzge, ↓zzgf, ↓zzgg, ↓zzgh, ↓zzgi, ↓zzgj, ↓zzgk, ↓zzgl, ↓zzgm, ↓zzgn, ↓zzgo, ↓zzgp, ↓zzgq, ↓zzgr, ↓zzgs, ↓zzgt, ↓zzgu, ↓zzgv, ↓zzgw, ↓zzgx, ↓zzgy, ↓zzgz, ↓zzha, ↓zzhb, ↓zzhc, ↓zzhd, ↓zzhe, ↓zzhf, ↓zzhg, ↓zzhh, ↓zzhi, ↓zzhj, ↓zzhk, ↓zzhl, ↓zzhm, ↓zzhn, ↓zzho, ↓zzhp, ↓zzhq, ↓zzhr, ↓zzhs, ↓zzht, ↓zzhl, zzhu, zzhv, zzhw, zzhx, zzhy, zzhz, zzia, zzib, zzic, zzid, zzie, zzif, zzig, zzih, zzii, zzij, zzik, zzil, zzim, zzin, zzio, zzip, zziq, zzir, zzis, zzit, zziu, zziv, zziw, zzix, zziy, zziz, zzja, zzjb, zzjc, zzjd, zzje, zzjf, zzjg, zzjh, zzji, zzjj, zzjk, zzjl, zzjm, zzjn, zzjo, zzjp, zzjq, zzjr, zzjs, zzjt, zzju, zzjv, zzjw, zzjx, zzjy, zzjz, zzka, zzkb, zzkc, zzkd, zzke, zzkf, zzkg, zzkh, zzki, zzkj, zzkk, zzkl, zzkm, zzkn, zzko, zzkp, zzkq, zzkr, zzks, zzkt, zzku, zzkv, zzkw, zzkx, zzky, zzkz, zzla, zzlb, zzlc, zzld, zzle, zzlf, zzlg, zzlh, zzli, zzlj, zzlk, zzll, zzlm, zzln, zzlo, ↓zzlp, ↓zzlq, ↓zzlr, ↓zzls, ↓zzlt, ↓zzlu, ↓zzlv, ↓zzlw, ↓zzlx, ↓zzly, ↓zzlz, ↓zzma, zzmb, zzmc, ↓zzmd, ↓zzme, ↓zzmf, ↓zzmg, ↓zzmh, zzmi, zzmj, zzmk, zzml, zzmm, zzmn, zzmo, zzmp, zzmq, zzmr, zzms, Option.bind_some, Option.map_some, ↓zzmt, ↓zzmu, ↓zzmv, ↓zzmw, ↓zzmx, ↓zzmy, ↓zzmz, ↓zzna, ↓zznb, ↓zznc, ↓zznd, ↓zzne, ↓zznf, ↓zzng, ↓zznh, ↓zzni, ↓zznj, ↓zznk, ↓zznl]
  (repeat (refine take_ok (by assumption) (by omega) (by omega) ?_; intro _ _ _ _ _; simp only [↓zzaa, ↓zzab, ↓zzac, ↓zzad, ↓zzae, ↓zzaf, ↓zzag, ↓zzah, ↓zzai, ↓zzaj, ↓zzak, ↓zzal, ↓zzam, ↓zzan, ↓zzao, ↓zzap, ↓zzaq, ↓zzar, ↓zzas, ↓zzat, ↓zzau, ↓zzav, ↓zzaw, ↓zzax, ↓zzay, ↓zzaz, ↓zzba, ↓zzbb, ↓zzbc, ↓zzbd, ↓zzbe, ↓zzbf, ↓zzbg, ↓zzbh, ↓zzbi, ↓zzbj, ↓zzbk, ↓zzbl, ↓zzbm, ↓zzbn, ↓zzbo, ↓zzbp, ↓zzbq, ↓zzbr, ↓zzbs, ↓zzbt, ↓zzbu, ↓zzbv, ↓zzbw, ↓zzbx, ↓zzby, ↓zzbz, ↓zzca, ↓zzcb, ↓zzcc, ↓zzcd, ↓zzce, ↓zzcf, ↓zzcg, ↓zzch, ↓zzci, ↓zzcj, ↓zzck, ↓zzcl, ↓zzcm, ↓zzcn, ↓zzco, ↓zzcp, ↓zzcq, ↓zzcr, ↓zzcs, ↓zzct, ↓zzcu, ↓zzcv, ↓zzcw, ↓zzcx, ↓zzcy, ↓zzcz, ↓zzda, ↓zzdb, ↓zzdc, ↓zzdd, zzde, ↓zzdf, ↓zzdg, ↓zzdh, ↓zzdi, ↓zzdj, ↓zzdk, ↓zzdl, ↓zzdm, ↓zzdn, ↓zzdo, ↓zzdp, ↓zzdq, zzdr, zzds, zzdt, zzdu, zzdv, zzdw, zzdx, zzdy, zzdz, zzea, zzeb, oEq, oNe, eqT, oAdd, oNeg, oAbs, oMax2, oMin2, oInt, oLen, oIsN, oNotN, oIn, oNin, inT, eqF, oIsi, oIsi2, oList, oTuple, seqT, zp, enm, two, three, ioFind, ioCount, brOk, Bop.still, Bop.isI, T.ow, T.owl, T.nob, T.nobl, T.nfz, T.nfzl, T.fz, T.fzl, Bop.fit, Bop.res, Bop.bo, zzec, zzed, zzee, zzef, zzeg, zzeh, zzei, zzej, zzef, zzeg, zzeh, zzei, zzek, zzel, List.all_cons, List.all_nil, List.any_cons, List.any_nil, zzem, zzen, zzeo, zzep, zzeq, zzer, zzes, zzet, Bool.not_false, Bool.not_true, Bool.or_false, Bool.false_or, Bool.and_true, Bool.true_and, Bool.or_true, Bool.true_or, Bool.and_false, Bool.false_and, Bool.not_not, Bool.not_eq_true', decide_eq_false_iff_not, Bool.and_eq_true, Bool.or_eq_true, true_or, or_true, false_or, or_false, true_and, and_true, false_and, and_false, Bool.false_eq_true, false_imp_iff, if_true, if_false, forall_const, implies_true, Option.some.injEq, Option.isSome_some, forall_eq', reduceCtorEq, List.cons_append, List.nil_append, List.length_cons, List.length_nil, List.length_map, List.length_append, List.length_range, zzeu, zzev, zzew, List.replicate, List.flatten_cons, List.flatten_nil, List.append_nil, Nat.reduceAdd, Nat.reduceSub, Nat.reduceLT, Nat.reduceLeDiff, List.set_cons_zero, List.set_cons_succ, decide_eq_true_eq, decide_true, decide_false, Int.reduceLT, Int.reduceLE, Int.reduceMul, Int.reducePow, Int.reduceToNat, Int.reduceAdd, Int.reduceSub, Int.reduceNeg, Int.reduceEq, Nat.reducePow, zzex, zzey, zzez, Nat.zero_add, big, zzfa, zzfb, String.reduceEq, wipeE, zzfc, zzfd, zzah, zzai, Option.getD_some, ↓zzfe, ↓zzff, ↓zzfg, ↓zzfh, ↓zzfi, ↓zzfj, ↓zzfk, ↓zzfl, ↓zzfm, ↓zzfn, ↓zzfo, ↓zzfp, ↓zzfq, ↓zzfr, ↓zzfs, ↓zzft, ↓zzfu, ↓zzfv, ↓zzfw, ↓zzfx, ↓zzfy, ↓zzfz, ↓zzga, ↓zzgb, ↓zzgc, ↓zzgd, ↓zzge, ↓zzgf, ↓zzgg, ↓zzgh, ↓zzgi, ↓zzgj, ↓zzgk, ↓zzgl, ↓zzgm, ↓zzgn, ↓zzgo, ↓zzgp, ↓zzgq, ↓zzgr, ↓zzgs, ↓zzgt, ↓zzgu, ↓zzgv, ↓zzgw, ↓zzgx, ↓zzgy, ↓zzgz, ↓zzha, ↓zzhb, ↓zzhc, ↓zzhd, ↓zzhe, ↓zzhf, ↓zzhg, ↓zzhh, ↓zzhi, ↓zzhj, ↓zzhk, ↓zzhl, ↓zzhm, ↓zzhn, ↓zzho, ↓zzhp, ↓zzhq, ↓zzhr, ↓zzhs, ↓zzht, ↓zzhl, zzhu, zzhv, zzhw, zzhx, zzhy, zzhz, zzia, zzib, zzic, zzid, zzie, zzif, zzig, zzih, zzii, zzij, zzik, zzil, zzim, zzin, zzio, zzip, zziq, zzir, zzis, zzit, zziu, zziv, zziw, zzix, zziy, zziz, zzja, zzjb, zzjc, zzjd, zzje, zzjf, zzjg, zzjh, zzji, zzjj, zzjk, zzjl, zzjm, zzjn, zzjo, zzjp, zzjq, zzjr, zzjs, zzjt, zzju, zzjv, zzjw, zzjx, zzjy, zzjz, zzka, zzkb, zzkc, zzkd, zzke, zzkf, zzkg, zzkh, zzki, zzkj, zzkk, zzkl, zzkm, zzkn, zzko, zzkp, zzkq, zzkr, zzks, zzkt, zzku, zzkv, zzkw, zzkx, zzky, zzkz, zzla, zzlb, zzlc, zzld, zzle, zzlf, zzlg, zzlh, zzli, zzlj, zzlk, zzll, zzlm, zzln, zzlo, ↓zzlp, ↓zzlq, ↓zzlr, ↓zzls, ↓zzlt, ↓zzlu, ↓zzlv, ↓zzlw, ↓zzlx, ↓zzly, ↓zzlz, ↓zzma, zzmb, zzmc, ↓zzmd, ↓zzme, ↓zzmf, ↓zzmg, ↓zzmh, zzmi, zzmj, zzmk, zzml, zzmm, zzmn, zzmo, zzmp, zzmq, zzmr, zzms, Option.bind_some, Option.map_some, ↓zzmt, ↓zzmu, ↓zzmv, ↓zzmw, ↓zzmx, ↓zzmy, ↓zzmz, ↓zzna, ↓zznb, ↓zznc, ↓zznd, ↓zzne, ↓zznf, ↓zzng, ↓zznh, ↓zzni, ↓zznj, ↓zznk, ↓zznl]))
  refine pickI (lo := 100) (hi := 12345) (by repeat (first | exact al_nil | refine al_cons ⟨_, rfl, by omega, by omega⟩ ?_)) (by omega) (by simp; omega) fun g1 _ _ => ?_
  simp only [↓zzaa, ↓zzab, ↓zzac, ↓zzad, ↓zzae, ↓zzaf, ↓zzag, ↓zzah, ↓zzai, ↓zzaj, ↓zzak, ↓zzal, ↓zzam, ↓zzan, ↓zzao, ↓zzap, ↓zzaq, ↓zzar, ↓zzas, ↓zzat, ↓zzau, ↓zzav, ↓zzaw, ↓zzax, ↓zzay, ↓zzaz, ↓zzba, ↓zzbb, ↓zzbc, ↓zzbd, ↓zzbe, ↓zzbf, ↓zzbg, ↓zzbh, ↓zzbi, ↓zzbj, ↓zzbk, ↓zzbl, ↓zzbm, ↓zzbn, ↓zzbo, ↓zzbp, ↓zzbq, ↓zzbr, ↓zzbs, ↓zzbt, ↓zzbu, ↓zzbv, ↓zzbw, ↓zzbx, ↓zzby, ↓zzbz, ↓zzca, ↓zzcb, ↓zzcc, ↓zzcd, ↓zzce, ↓zzcf, ↓zzcg, ↓zzch, ↓zzci, ↓zzcj, ↓zzck, ↓zzcl, ↓zzcm, ↓zzcn, ↓zzco, ↓zzcp, ↓zzcq, ↓zzcr, ↓zzcs, ↓zzct, ↓zzcu, ↓zzcv, ↓zzcw, ↓zzcx, ↓zzcy, ↓zzcz, ↓zzda, ↓zzdb, ↓zzdc, ↓zzdd, zzde, ↓zzdf, ↓zzdg, ↓zzdh, ↓zzdi, ↓zzdj, ↓zzdk, ↓zzdl, ↓zzdm, ↓zzdn, ↓zzdo, ↓zzdp, ↓zzdq, zzdr, zzds, zzdt, zzdu, zzdv, zzdw, zzdx, zzdy, zzdz, zzea, zzeb, oEq, oNe, eqT, oAdd, oNeg, oAbs, oMax2, oMin2, oInt, oLen, oIsN, oNotN, oIn, oNin, inT, eqF, oIsi, oIsi2, oList, oTuple, seqT, zp, enm, two, three, ioFind, ioCount, brOk, Bop.still, Bop.isI, T.ow, T.owl, T.nob, T.nobl, T.nfz, T.nfzl, T.fz, T.fzl, Bop.fit, Bop.res, Bop.bo, zzec, zzed, zzee, zzef, zzeg, zzeh, zzei, zzej, zzef, zzeg, zzeh, zzei, zzek, zzel, List.all_cons, List.all_nil, List.any_cons, List.any_nil, zzem, zzen, zzeo, zzep, zzeq, zzer, zzes, zzet, Bool.not_false, Bool.not_true, Bool.or_false, Bool.false_or, Bool.and_true, Bool.true_and, Bool.or_true, Bool.true_or, Bool.and_false, Bool.false_and, Bool.not_not, Bool.not_eq_true', decide_eq_false_iff_not, Bool.and_eq_true, Bool.or_eq_true, true_or, or_true, false_or, or_false, true_and, and_true, false_and, and_false, Bool.false_eq_true, false_imp_iff, if_true, if_false, forall_const, implies_true, Option.some.injEq, Option.isSome_some, forall_eq', reduceCtorEq, List.cons_append, List.nil_append, List.length_cons, List.length_nil, List.length_map, List.length_append, List.length_range, zzeu, zzev, zzew, List.replicate, List.flatten_cons, List.flatten_nil, List.append_nil, Nat.reduceAdd, Nat.reduceSub, Nat.reduceLT, Nat.reduceLeDiff, List.set_cons_zero, List.set_cons_succ, decide_eq_true_eq, decide_true, decide_false, Int.reduceLT, Int.reduceLE, Int.reduceMul, Int.reducePow, Int.reduceToNat, Int.reduceAdd, Int.reduceSub, Int.reduceNeg, Int.reduceEq, Nat.reducePow, zzex, zzey, zzez, Nat.zero_add, big, zzfa, zzfb, String.reduceEq, wipeE, zzfc, zzfd, zzah, zzai, Option.getD_some, ↓zzfe, ↓zzff, ↓zzfg, ↓zzfh, ↓zzfi, ↓zzfj, ↓zzfk, ↓zzfl, ↓zzfm, ↓zzfn, ↓zzfo, ↓zzfp, ↓zzfq, ↓zzfr, ↓zzfs, ↓zzft, ↓zzfu, ↓zzfv, ↓zzfw, ↓zzfx, ↓zzfy, ↓zzfz, ↓zzga, ↓zzgb, ↓zzgc, ↓zzgd, ↓zzge, ↓zzgf, ↓zzgg, ↓zzgh, ↓zzgi, ↓zzgj, ↓zzgk, ↓zzgl, ↓zzgm, ↓zzgn, ↓zzgo, ↓zzgp, ↓zzgq, ↓zzgr, ↓zzgs, ↓zzgt, ↓zzgu, ↓zzgv, ↓zzgw, ↓zzgx, ↓zzgy, ↓zzgz, ↓zzha, ↓zzhb, ↓zzhc, ↓zzhd, ↓zzhe, ↓zzhf, ↓zzhg, ↓zzhh, ↓zzhi, ↓zzhj, ↓zzhk, ↓zzhl, ↓zzhm, ↓zzhn, ↓zzho, ↓zzhp, ↓zzhq, ↓zzhr, ↓zzhs, ↓zzht, ↓zzhl, zzhu, zzhv, zzhw, zzhx, zzhy, zzhz, zzia, zzib, zzic, zzid, zzie, zzif, zzig, zzih, zzii, zzij, zzik, zzil, zzim, zzin, zzio, zzip, zziq, zzir, zzis, zzit, zziu, zziv, zziw, zzix, zziy, zziz, zzja, zzjb, zzjc, zzjd, zzje, zzjf, zzjg, zzjh, zzji, zzjj, zzjk, zzjl, zzjm, zzjn, zzjo, zzjp, zzjq, zzjr, zzjs, zzjt, zzju, zzjv, zzjw, zzjx, zzjy, zzjz, zzka, zzkb, zzkc, zzkd, zzke, zzkf, zzkg, zzkh, zzki, zzkj, zzkk, zzkl, zzkm, zzkn, zzko, zzkp, zzkq, zzkr, zzks, zzkt, zzku, zzkv, zzkw, zzkx, zzky, zzkz, zzla, zzlb, zzlc, zzld, zzle, zzlf, zzlg, zzlh, zzli, zzlj, zzlk, zzll, zzlm, zzln, zzlo, ↓zzlp, ↓zzlq, ↓zzlr, ↓zzls, ↓zzlt, ↓zzlu, ↓zzlv, ↓zzlw, ↓zzlx, ↓zzly, ↓zzlz, ↓zzma, zzmb, zzmc, ↓zzmd, ↓zzme, ↓zzmf, ↓zzmg, ↓zzmh, zzmi, zzmj, zzmk, zzml, zzmm, zzmn, zzmo, zzmp, zzmq, zzmr, zzms, Option.bind_some, Option.map_some, ↓zzmt, ↓zzmu, ↓zzmv, ↓zzmw, ↓zzmx, ↓zzmy, ↓zzmz, ↓zzna, ↓zznb, ↓zznc, ↓zznd, ↓zzne, ↓zznf, ↓zzng, ↓zznh, ↓zzni, ↓zznj, ↓zznk, ↓zznl]
  (repeat (refine take_ok (by assumption) (by omega) (by omega) ?_; intro _ _ _ _ _; simp only [↓zzaa, ↓zzab, ↓zzac, ↓zzad, ↓zzae, ↓zzaf, ↓zzag, ↓zzah, ↓zzai, ↓zzaj, ↓zzak, ↓zzal, ↓zzam, ↓zzan, ↓zzao, ↓zzap, ↓zzaq, ↓zzar, ↓zzas, ↓zzat, ↓zzau, ↓zzav, ↓zzaw, ↓zzax, ↓zzay, ↓zzaz, ↓zzba, ↓zzbb, ↓zzbc, ↓zzbd, ↓zzbe, ↓zzbf, ↓zzbg, ↓zzbh, ↓zzbi, ↓zzbj, ↓zzbk, ↓zzbl, ↓zzbm, ↓zzbn, ↓zzbo, ↓zzbp, ↓zzbq, ↓zzbr, ↓zzbs, ↓zzbt, ↓zzbu, ↓zzbv, ↓zzbw, ↓zzbx, ↓zzby, ↓zzbz, ↓zzca, ↓zzcb, ↓zzcc, ↓zzcd, ↓zzce, ↓zzcf, ↓zzcg, ↓zzch, ↓zzci, ↓zzcj, ↓zzck, ↓zzcl, ↓zzcm, ↓zzcn, ↓zzco, ↓zzcp, ↓zzcq, ↓zzcr, ↓zzcs, ↓zzct, ↓zzcu, ↓zzcv, ↓zzcw, ↓zzcx, ↓zzcy, ↓zzcz, ↓zzda, ↓zzdb, ↓zzdc, ↓zzdd, zzde, ↓zzdf, ↓zzdg, ↓zzdh, ↓zzdi, ↓zzdj, ↓zzdk, ↓zzdl, ↓zzdm, ↓zzdn, ↓zzdo, ↓zzdp, ↓zzdq, zzdr, zzds, zzdt, zzdu, zzdv, zzdw, zzdx, zzdy, zzdz, zzea, zzeb, oEq, oNe, eqT, oAdd, oNeg, oAbs, oMax2, oMin2, oInt, oLen, oIsN, oNotN, oIn, oNin, inT, eqF, oIsi, oIsi2, oList, oTuple, seqT, zp, enm, two, three, ioFind, ioCount, brOk, Bop.still, Bop.isI, T.ow, T.owl, T.nob, T.nobl, T.nfz, T.nfzl, T.fz, T.fzl, Bop.fit, Bop.res, Bop.bo, zzec, zzed, zzee, zzef, zzeg, zzeh, zzei, zzej, zzef, zzeg, zzeh, zzei, zzek, zzel, List.all_cons, List.all_nil, List.any_cons, List.any_nil, zzem, zzen, zzeo, zzep, zzeq, zzer, zzes, zzet, Bool.not_false, Bool.not_true, Bool.or_false, Bool.false_or, Bool.and_true, Bool.true_and, Bool.or_true, Bool.true_or, Bool.and_false, Bool.false_and, Bool.not_not, Bool.not_eq_true', decide_eq_false_iff_not, Bool.and_eq_true, Bool.or_eq_true, true_or, or_true, false_or, or_false, true_and, and_true, false_and, and_false, Bool.false_eq_true, false_imp_iff, if_true, if_false, forall_const, implies_true, Option.some.injEq, Option.isSome_some, forall_eq', reduceCtorEq, List.cons_append, List.nil_append, List.length_cons, List.length_nil, List.length_map, List.length_append, List.length_range, zzeu, zzev, zzew, List.replicate, List.flatten_cons, List.flatten_nil, List.append_nil, Nat.reduceAdd, Nat.reduceSub, Nat.reduceLT, Nat.reduceLeDiff, List.set_cons_zero, List.set_cons_succ, decide_eq_true_eq, decide_true, decide_false, Int.reduceLT, Int.reduceLE, Int.reduceMul, Int.reducePow, Int.reduceToNat, Int.reduceAdd, Int.reduceSub, Int.reduceNeg, Int.reduceEq, Nat.reducePow, zzex, zzey, zzez, Nat.zero_add, big, zzfa, zzfb, String.reduceEq, wipeE, zzfc, zzfd, zzah, zzai, Option.getD_some, ↓zzfe, ↓zzff, ↓zzfg, ↓zzfh, ↓zzfi, ↓zzfj, ↓zzfk, ↓zzfl, ↓zzfm, ↓zzfn, ↓zzfo, ↓zzfp, ↓zzfq, ↓zzfr, ↓zzfs, ↓zzft, ↓zzfu, ↓zzfv, ↓zzfw, ↓zzfx, ↓zzfy, ↓zzfz, ↓zzga, ↓zzgb, ↓zzgc, ↓zzgd, ↓zzge, ↓zzgf, ↓zzgg, ↓zzgh, ↓zzgi, ↓zzgj, ↓zzgk, ↓zzgl, ↓zzgm, ↓zzgn, ↓zzgo, ↓zzgp, ↓zzgq, ↓zzgr, ↓zzgs, ↓zzgt, ↓zzgu, ↓zzgv, ↓zzgw, ↓zzgx, ↓zzgy, ↓zzgz, ↓zzha, ↓zzhb, ↓zzhc, ↓zzhd, ↓zzhe, ↓zzhf, ↓zzhg, ↓zzhh, ↓zzhi, ↓zzhj, ↓zzhk, ↓zzhl, ↓zzhm, ↓zzhn, ↓zzho, ↓zzhp, ↓zzhq, ↓zzhr, ↓zzhs, ↓zzht, ↓zzhl, zzhu, zzhv, zzhw, zzhx, zzhy, zzhz, zzia, zzib, zzic, zzid, zzie, zzif, zzig, zzih, zzii, zzij, zzik, zzil, zzim, zzin, zzio, zzip, zziq, zzir, zzis, zzit, zziu, zziv, zziw, zzix, zziy, zziz, zzja, zzjb, zzjc, zzjd, zzje, zzjf, zzjg, zzjh, zzji, zzjj, zzjk, zzjl, zzjm, zzjn, zzjo, zzjp, zzjq, zzjr, zzjs, zzjt, zzju, zzjv, zzjw, zzjx, zzjy, zzjz, zzka, zzkb, zzkc, zzkd, zzke, zzkf, zzkg, zzkh, zzki, zzkj, zzkk, zzkl, zzkm, zzkn, zzko, zzkp, zzkq, zzkr, zzks, zzkt, zzku, zzkv, zzkw, zzkx, zzky, zzkz, zzla, zzlb, zzlc, zzld, zzle, zzlf, zzlg, zzlh, zzli, zzlj, zzlk, zzll, zzlm, zzln, zzlo, ↓zzlp, ↓zzlq, ↓zzlr, ↓zzls, ↓zzlt, ↓zzlu, ↓zzlv, ↓zzlw, ↓zzlx, ↓zzly, ↓zzlz, ↓zzma, zzmb, zzmc, ↓zzmd, ↓zzme, ↓zzmf, ↓zzmg, ↓zzmh, zzmi, zzmj, zzmk, zzml, zzmm, zzmn, zzmo, zzmp, zzmq, zzmr, zzms, Option.bind_some, Option.map_some, ↓zzmt, ↓zzmu, ↓zzmv, ↓zzmw, ↓zzmx, ↓zzmy, ↓zzmz, ↓zzna, ↓zznb, ↓zznc, ↓zznd, ↓zzne, ↓zznf, ↓zzng, ↓zznh, ↓zzni, ↓zznj, ↓zznk, ↓zznl]))
  refine pickI (lo := 100) (hi := 99999999) (by repeat (first | exact al_nil | refine al_cons ⟨_, rfl, by omega, by omega⟩ ?_)) (by omega) (by simp; omega) fun g _ _ => ?_
  simp only [↓zzaa, ↓zzab, ↓zzac, ↓zzad, ↓zzae, ↓zzaf, ↓zzag, ↓zzah, ↓zzai, ↓zzaj, ↓zzak, ↓zzal, ↓zzam, ↓zzan, ↓zzao, ↓zzap, ↓zzaq, ↓zzar, ↓zzas, ↓zzat, ↓zzau, ↓zzav, ↓zzaw, ↓zzax, ↓zzay, ↓zzaz, ↓zzba, ↓zzbb, ↓zzbc, ↓zzbd, ↓zzbe, ↓zzbf, ↓zzbg, ↓zzbh, ↓zzbi, ↓zzbj, ↓zzbk, ↓zzbl, ↓zzbm, ↓zzbn, ↓zzbo, ↓zzbp, ↓zzbq, ↓zzbr, ↓zzbs, ↓zzbt, ↓zzbu, ↓zzbv, ↓zzbw, ↓zzbx, ↓zzby, ↓zzbz, ↓zzca, ↓zzcb, ↓zzcc, ↓zzcd, ↓zzce, ↓zzcf, ↓zzcg, ↓zzch, ↓zzci, ↓zzcj, ↓zzck, ↓zzcl, ↓zzcm, ↓zzcn, ↓zzco, ↓zzcp, ↓zzcq, ↓zzcr, ↓zzcs, ↓zzct, ↓zzcu, ↓zzcv, ↓zzcw, ↓zzcx, ↓zzcy, ↓zzcz, ↓zzda, ↓zzdb, ↓zzdc, ↓zzdd, zzde, ↓zzdf, ↓zzdg, ↓zzdh, ↓zzdi, ↓zzdj, ↓zzdk, ↓zzdl, ↓zzdm, ↓zzdn, ↓zzdo, ↓zzdp, ↓zzdq, zzdr, zzds, zzdt, zzdu, zzdv, zzdw, zzdx, zzdy, zzdz, zzea, zzeb, oEq, oNe, eqT, oAdd, oNeg, oAbs, oMax2, oMin2, oInt, oLen, oIsN, oNotN, oIn, oNin, inT, eqF, oIsi, oIsi2, oList, oTuple, seqT, zp, enm, two, three, ioFind, ioCount, brOk, Bop.still, Bop.isI, T.ow, T.owl, T.nob, T.nobl, T.nfz, T.nfzl, T.fz, T.fzl, Bop.fit, Bop.res, Bop.bo, zzec, zzed, zzee, zzef, zzeg, zzeh, zzei, zzej, zzef, zzeg, zzeh, zzei, zzek, zzel, List.all_cons, List.all_nil, List.any_cons, List.any_nil, zzem, zzen, zzeo, zzep, zzeq, zzer, zzes, zzet, Bool.not_false, Bool.not_true, Bool.or_false, Bool.false_or, Bool.and_true, Bool.true_and, Bool.or_true, Bool.true_or, Bool.and_false, Bool.false_and, Bool.not_not, Bool.not_eq_true', decide_eq_false_iff_not, Bool.and_eq_true, Bool.or_eq_true, true_or, or_true, false_or, or_false, true_and, and_true, false_and, and_false, Bool.false_eq_true, false_imp_iff, if_true, if_false, forall_const, implies_true, Option.some.injEq, Option.isSome_some, forall_eq', reduceCtorEq, List.cons_append, List.nil_append, List.length_cons, List.length_nil, List.length_map, List.length_append, List.length_range, zzeu, zzev, zzew, List.replicate, List.flatten_cons, List.flatten_nil, List.append_nil, Nat.reduceAdd, Nat.reduceSub, Nat.reduceLT, Nat.reduceLeDiff, List.set_cons_zero, List.set_cons_succ, decide_eq_true_eq, decide_true, decide_false, Int.reduceLT, Int.reduceLE, Int.reduceMul, Int.reducePow, Int.reduceToNat, Int.reduceAdd, Int.reduceSub, Int.reduceNeg, Int.reduceEq, Nat.reducePow, zzex, zzey, zzez, Nat.zero_add, big, zzfa, zzfb, String.reduceEq, wipeE, zzfc, zzfd, zzah, zzai, Option.getD_some, ↓zzfe, ↓zzff, ↓zzfg, ↓zzfh, ↓zzfi, ↓zzfj, ↓zzfk, ↓zzfl, ↓zzfm, ↓zzfn, ↓zzfo, ↓zzfp, ↓zzfq, ↓zzfr, ↓zzfs, ↓zzft, ↓zzfu, ↓zzfv, ↓zzfw, ↓zzfx, ↓zzfy, ↓zzfz, ↓zzga, ↓zzgb, ↓zzgc, ↓zzgd, ↓zzge, ↓zzgf, ↓zzgg, ↓zzgh, ↓zzgi, ↓zzgj, ↓zzgk, ↓zzgl, ↓zzgm, ↓zzgn, ↓zzgo, ↓zzgp, ↓zzgq, ↓zzgr, ↓zzgs, ↓zzgt, ↓zzgu, ↓zzgv, ↓zzgw, ↓zzgx, ↓zzgy, ↓zzgz, ↓zzha, ↓zzhb, ↓zzhc, ↓zzhd, ↓zzhe, ↓zzhf, ↓zzhg, ↓zzhh, ↓zzhi, ↓zzhj, ↓zzhk, ↓zzhl, ↓zzhm, ↓zzhn, ↓zzho, ↓zzhp, ↓zzhq, ↓zzhr, ↓zzhs, ↓zzht, ↓zzhl, zzhu, zzhv, zzhw, zzhx, zzhy, zzhz, zzia, zzib, zzic, zzid, zzie, zzif, zzig, zzih, zzii, zzij, zzik, zzil, zzim, zzin, zzio, zzip, zziq, zzir, zzis, zzit, zziu, zziv, zziw, zzix, zziy, zziz, zzja, zzjb, zzjc, zzjd, zzje, zzjf, zzjg, zzjh, zzji, zzjj, zzjk, zzjl, zzjm, zzjn, zzjo, zzjp, zzjq, zzjr, zzjs, zzjt, zzju, zzjv, zzjw, zzjx, zzjy, zzjz, zzka, zzkb, zzkc, zzkd, zzke, zzkf, zzkg, zzkh, zzki, zzkj, zzkk, zzkl, zzkm, zzkn, zzko, zzkp, zzkq, zzkr, zzks, zzkt, zzku, zzkv, zzkw, zzkx, zzky, zzkz, zzla, zzlb, zzlc, zzld, zzle, zzlf, zzlg, zzlh, zzli, zzlj, zzlk, zzll, zzlm, zzln, zzlo, ↓zzlp, ↓zzlq, ↓zzlr, ↓zzls, ↓zzlt, ↓zzlu, ↓zzlv, ↓zzlw, ↓zzlx, ↓zzly, ↓zzlz, ↓zzma, zzmb, zzmc, ↓zzmd, ↓zzme, ↓zzmf, ↓zzmg, ↓zzmh, zzmi, zzmj, zzmk, zzml, zzmm, zzmn, zzmo, zzmp, zzmq, zzmr, zzms, Option.bind_some, Option.map_some, ↓zzmt, ↓zzmu, ↓zzmv, ↓zzmw, ↓zzmx, ↓zzmy, ↓zzmz, ↓zzna, ↓zznb, ↓zznc, ↓zznd, ↓zzne, ↓zznf, ↓zzng, ↓zznh, ↓zzni, ↓zznj, ↓zznk, ↓zznl]
  exact q _ _ (by omega) (by omega) (Tp.mono (by assumption) (by omega))
theorem oneof {c : Prop} [Decidable c] {α : Sort _} {P : Prop} {a b : Prop} (h : c → a) (h2 : ¬ c → b) : if c then a else b := by split; exact h ‹_›; exact h2 ‹_›
/-- the rows that the laws draw -/
theorem rows_ok {n : Int} {t : T} {Q : T × Option T → Prop} (h : Tp n t) (hn : n < 999900000) (q : ∀ (rows : List Row) u, (∀ r, r ∈ rows → r.ok rows.length) → rows.length ≤ 60 → Tp (n + 2000) u → Q (.lst true (rows.map Row.t), some u)) : wp (f__law_rows [t]) Q := by
  unfold f__law_rows b__law_rows
  simp only [↓zzaa, ↓zzab, ↓zzac, ↓zzad, ↓zzae, ↓zzaf, ↓zzag, ↓zzah, ↓zzai, ↓zzaj, ↓zzak, ↓zzal, ↓zzam, ↓zzan, ↓zzao, ↓zzap, ↓zzaq, ↓zzar, ↓zzas, ↓zzat, ↓zzau, ↓zzav, ↓zzaw, ↓zzax, ↓zzay, ↓zzaz, ↓zzba, ↓zzbb, ↓zzbc, ↓zzbd, ↓zzbe, ↓zzbf, ↓zzbg, ↓zzbh, ↓zzbi, ↓zzbj, ↓zzbk, ↓zzbl, ↓zzbm, ↓zzbn, ↓zzbo, ↓zzbp, ↓zzbq, ↓zzbr, ↓zzbs, ↓zzbt, ↓zzbu, ↓zzbv, ↓zzbw, ↓zzbx, ↓zzby, ↓zzbz, ↓zzca, ↓zzcb, ↓zzcc, ↓zzcd, ↓zzce, ↓zzcf, ↓zzcg, ↓zzch, ↓zzci, ↓zzcj, ↓zzck, ↓zzcl, ↓zzcm, ↓zzcn, ↓zzco, ↓zzcp, ↓zzcq, ↓zzcr, ↓zzcs, ↓zzct, ↓zzcu, ↓zzcv, ↓zzcw, ↓zzcx, ↓zzcy, ↓zzcz, ↓zzda, ↓zzdb, ↓zzdc, ↓zzdd, zzde, ↓zzdf, ↓zzdg, ↓zzdh, ↓zzdi, ↓zzdj, ↓zzdk, ↓zzdl, ↓zzdm, ↓zzdn, ↓zzdo, ↓zzdp, ↓zzdq, zzdr, zzds, zzdt, zzdu, zzdv, zzdw, zzdx, zzdy, zzdz, zzea, zzeb, oEq, oNe, eqT, oAdd, oNeg, oAbs, oMax2, oMin2, oInt, oLen, oIsN, oNotN, oIn, oNin, inT, eqF, oIsi, oIsi2, oList, oTuple, seqT, zp, enm, two, three, ioFind, ioCount, brOk, Bop.still, Bop.isI, T.ow, T.owl, T.nob, T.nobl, T.nfz, T.nfzl, T.fz, T.fzl, Bop.fit, Bop.res, Bop.bo, zzec, zzed, zzee, zzef, zzeg, zzeh, zzei, zzej, zzef, zzeg, zzeh, zzei, zzek, zzel, List.all_cons, List.all_nil, List.any_cons, List.any_nil, zzem, zzen, zzeo, zzep, zzeq, zzer, zzes, zzet, Bool.not_false, Bool.not_true, Bool.or_false, Bool.false_or, Bool.and_true, Bool.true_and, Bool.or_true, Bool.true_or, Bool.and_false, Bool.false_and, Bool.not_not, Bool.not_eq_true', decide_eq_false_iff_not, Bool.and_eq_true, Bool.or_eq_true, true_or, or_true, false_or, or_false, true_and, and_true, false_and, and_false, Bool.false_eq_true, false_imp_iff, if_true, if_false, forall_const, implies_true, Option.some.injEq, Option.isSome_some, forall_eq', reduceCtorEq, List.cons_append, List.nil_append, List.length_cons, List.length_nil, List.length_map, List.length_append, List.length_range, zzeu, zzev, zzew, List.replicate, List.flatten_cons, List.flatten_nil, List.append_nil, Nat.reduceAdd, Nat.reduceSub, Nat.reduceLT, Nat.reduceLeDiff, List.set_cons_zero, List.set_cons_succ, decide_eq_true_eq, decide_true, decide_false, Int.reduceLT, Int.reduceLE, Int.reduceMul, Int.reducePow, Int.reduceToNat, Int.reduceAdd, Int.reduceSub, Int.reduceNeg, Int.reduceEq, Nat.reducePow, zzex, zzey, zzez, Nat.zero_add, big, zzfa, zzfb, String.reduceEq, wipeE, zzfc, zzfd, zzah, zzai, Option.getD_some, ↓zzfe, ↓zzff, ↓zzfg, ↓zzfh, ↓zzfi, ↓zzfj, ↓zzfk, ↓zzfl, ↓zzfm, ↓zzfn, ↓zzfo, ↓zzfp, ↓zzfq, ↓zzfr, ↓zzfs, ↓zzft, ↓zzfu, ↓zzfv, ↓zzfw, ↓zzfx, ↓zzfy, ↓zzfz, ↓zzga, ↓zzgb, ↓zzgc, ↓zzgd, ↓zzge, ↓zzgf, ↓zzgg, ↓zzgh, ↓zzgi, ↓zzgj, ↓zzgk, ↓zzgl, ↓zzgm, ↓zzgn, ↓zzgo, ↓zzgp, ↓zzgq, ↓zzgr, ↓zzgs, ↓zzgt, ↓zzgu, ↓zzgv, ↓zzgw, ↓zzgx, ↓zzgy, ↓zzgz, ↓zzha, ↓zzhb, ↓zzhc, ↓zzhd, ↓zzhe, ↓zzhf, ↓zzhg, ↓zzhh, ↓zzhi, ↓zzhj, ↓zzhk, ↓zzhl, ↓zzhm, ↓zzhn, ↓zzho, ↓zzhp, ↓zzhq, ↓zzhr, ↓zzhs, ↓zzht, ↓zzhl, zzhu, zzhv, zzhw, zzhx, zzhy, zzhz, zzia, zzib, zzic, zzid, zzie, zzif, zzig, zzih, zzii, zzij, zzik, zzil, zzim, zzin, zzio, zzip, zziq, zzir, zzis, zzit, zziu, zziv, zziw, zzix, zziy, zziz, zzja, zzjb, zzjc, zzjd, zzje, zzjf, zzjg, zzjh, zzji, zzjj, zzjk, zzjl, zzjm, zzjn, zzjo, zzjp, zzjq, zzjr, zzjs, zzjt, zzju, zzjv, zzjw, zzjx, zzjy, zzjz, zzka, zzkb, zzkc, zzkd, zzke, zzkf, zzkg, zzkh, zzki, zzkj, zzkk, zzkl, zzkm, zzkn, zzko, zzkp, zzkq, zzkr, zzks, zzkt, zzku, zzkv, zzkw, zzkx, zzky, zzkz, zzla, zzlb, zzlc, zzld, zzle, zzlf, zzlg, zzlh, zzli, zzlj, zzlk, zzll, zzlm, zzln, zzlo, ↓zzlp, ↓zzlq, ↓zzlr, ↓zzls, ↓zzlt, ↓zzlu, ↓zzlv, ↓zzlw, ↓zzlx, ↓zzly, ↓zzlz, ↓zzma, zzmb, zzmc, ↓zzmd, ↓zzme, ↓zzmf, ↓zzmg, ↓zzmh, zzmi, zzmj, zzmk, zzml, zzmm, zzmn, zzmo, zzmp, zzmq, zzmr, zzms, Option.bind_some, Option.map_some, ↓zzmt, ↓zzmu, ↓zzmv, ↓zzmw, ↓zzmx, ↓zzmy, ↓zzmz, ↓zzna, ↓zznb, ↓zznc, ↓zznd, ↓zzne, ↓zznf, ↓zzng, ↓zznh, ↓zzni, ↓zznj, ↓zznk, ↓zznl]
  (refine take_ok (by assumption) (by omega) (by omega) ?_; intro _ _ _ _ _; simp only [↓zzaa, ↓zzab, ↓zzac, ↓zzad, ↓zzae, ↓zzaf, ↓zzag, ↓zzah, ↓zzai, ↓zzaj, ↓zzak, ↓zzal, ↓zzam, ↓zzan, ↓zzao, ↓zzap, ↓zzaq, ↓zzar, ↓zzas, ↓zzat, ↓zzau, ↓zzav, ↓zzaw, ↓zzax, ↓zzay, ↓zzaz, ↓zzba, ↓zzbb, ↓zzbc, ↓zzbd, ↓zzbe, ↓zzbf, ↓zzbg, ↓zzbh, ↓zzbi, ↓zzbj, ↓zzbk, ↓zzbl, ↓zzbm, ↓zzbn, ↓zzbo, ↓zzbp, ↓zzbq, ↓zzbr, ↓zzbs, ↓zzbt, ↓zzbu, ↓zzbv, ↓zzbw, ↓zzbx, ↓zzby, ↓zzbz, ↓zzca, ↓zzcb, ↓zzcc, ↓zzcd, ↓zzce, ↓zzcf, ↓zzcg, ↓zzch, ↓zzci, ↓zzcj, ↓zzck, ↓zzcl, ↓zzcm, ↓zzcn, ↓zzco, ↓zzcp, ↓zzcq, ↓zzcr, ↓zzcs, ↓zzct, ↓zzcu, ↓zzcv, ↓zzcw, ↓zzcx, ↓zzcy, ↓zzcz, ↓zzda, ↓zzdb, ↓zzdc, ↓zzdd, zzde, ↓zzdf, ↓zzdg, ↓zzdh, ↓zzdi, ↓zzdj, ↓zzdk, ↓zzdl, ↓zzdm, ↓zzdn, ↓zzdo, ↓zzdp, ↓zzdq, zzdr, zzds, zzdt, zzdu, zzdv, zzdw, zzdx, zzdy, zzdz, zzea, zzeb, oEq, oNe, eqT, oAdd, oNeg, oAbs, oMax2, oMin2, oInt, oLen, oIsN, oNotN, oIn, oNin, inT, eqF, oIsi, oIsi2, oList, oTuple, seqT, zp, enm, two, three, ioFind, ioCount, brOk, Bop.still, Bop.isI, T.ow, T.owl, T.nob, T.nobl, T.nfz, T.nfzl, T.fz, T.fzl, Bop.fit, Bop.res, Bop.bo, zzec, zzed, zzee, zzef, zzeg, zzeh, zzei, zzej, zzef, zzeg, zzeh, zzei, zzek, zzel, List.all_cons, List.all_nil, List.any_cons, List.any_nil, zzem, zzen, zzeo, zzep, zzeq, zzer, zzes, zzet, Bool.not_false, Bool.not_true, Bool.or_false, Bool.false_or, Bool.and_true, Bool.true_and, Bool.or_true, Bool.true_or, Bool.and_false, Bool.false_and, Bool.not_not, Bool.not_eq_true', decide_eq_false_iff_not, Bool.and_eq_true, Bool.or_eq_true, true_or, or_true, false_or, or_false, true_and, and_true, false_and, and_false, Bool.false_eq_true, false_imp_iff, if_true, if_false, forall_const, implies_true, Option.some.injEq, Option.isSome_some, forall_eq', reduceCtorEq, List.cons_append, List.nil_append, List.length_cons, List.length_nil, List.length_map, List.length_append, List.length_range, zzeu, zzev, zzew, List.replicate, List.flatten_cons, List.flatten_nil, List.append_nil, Nat.reduceAdd, Nat.reduceSub, Nat.reduceLT, Nat.reduceLeDiff, List.set_cons_zero, List.set_cons_succ, decide_eq_true_eq, decide_true, decide_false, Int.reduceLT, Int.reduceLE, Int.reduceMul, Int.reducePow, Int.reduceToNat, Int.reduceAdd, Int.reduceSub, Int.reduceNeg, Int.reduceEq, Nat.reducePow, zzex, zzey, zzez, Nat.zero_add, big, zzfa, zzfb, String.reduceEq, wipeE, zzfc, zzfd, zzah, zzai, Option.getD_some, ↓zzfe, ↓zzff, ↓zzfg, ↓zzfh, ↓zzfi, ↓zzfj, ↓zzfk, ↓zzfl, ↓zzfm, ↓zzfn, ↓zzfo, ↓zzfp, ↓zzfq, ↓zzfr, ↓zzfs, ↓zzft, ↓zzfu, ↓zzfv, ↓zzfw, ↓zzfx, ↓zzfy, ↓zzfz, ↓zzga, ↓zzgb, ↓zzgc, ↓zzgd, ↓zzge, ↓zzgf, ↓zzgg, ↓zzgh, ↓zzgi, ↓zzgj, ↓zzgk, ↓zzgl, ↓zzgm, ↓zzgn, ↓zzgo, ↓zzgp, ↓zzgq, ↓zzgr, ↓zzgs, ↓zzgt, ↓zzgu, ↓zzgv, ↓zzgw, ↓zzgx, ↓zzgy, ↓zzgz, ↓zzha, ↓zzhb, ↓zzhc, ↓zzhd, ↓zzhe, ↓zzhf, ↓zzhg, ↓zzhh, ↓zzhi, ↓zzhj, ↓zzhk, ↓zzhl, ↓zzhm, ↓zzhn, ↓zzho, ↓zzhp, ↓zzhq, ↓zzhr, ↓zzhs, ↓zzht, ↓zzhl, zzhu, zzhv, zzhw, zzhx, zzhy, zzhz, zzia, zzib, zzic, zzid, zzie, zzif, zzig, zzih, zzii, zzij, zzik, zzil, zzim, zzin, zzio, zzip, zziq, zzir, zzis, zzit, zziu, zziv, zziw, zzix, zziy, zziz, zzja, zzjb, zzjc, zzjd, zzje, zzjf, zzjg, zzjh, zzji, zzjj, zzjk, zzjl, zzjm, zzjn, zzjo, zzjp, zzjq, zzjr, zzjs, zzjt, zzju, zzjv, zzjw, zzjx, zzjy, zzjz, zzka, zzkb, zzkc, zzkd, zzke, zzkf, zzkg, zzkh, zzki, zzkj, zzkk, zzkl, zzkm, zzkn, zzko, zzkp, zzkq, zzkr, zzks, zzkt, zzku, zzkv, zzkw, zzkx, zzky, zzkz, zzla, zzlb, zzlc, zzld, zzle, zzlf, zzlg, zzlh, zzli, zzlj, zzlk, zzll, zzlm, zzln, zzlo, ↓zzlp, ↓zzlq, ↓zzlr, ↓zzls, ↓zzlt, ↓zzlu, ↓zzlv, ↓zzlw, ↓zzlx, ↓zzly, ↓zzlz, ↓zzma, zzmb, zzmc, ↓zzmd, ↓zzme, ↓zzmf, ↓zzmg, ↓zzmh, zzmi, zzmj, zzmk, zzml, zzmm, zzmn, zzmo, zzmp, zzmq, zzmr, zzms, Option.bind_some, Option.map_some, ↓zzmt, ↓zzmu, ↓zzmv, ↓zzmw, ↓zzmx, ↓zzmy, ↓zzmz, ↓zzna, ↓zznb, ↓zznc, ↓zznd, ↓zzne, ↓zznf, ↓zzng, ↓zznh, ↓zzni, ↓zznj, ↓zznk, ↓zznl])
  generalize hK : kSeq _ (kF1 0 Q) = K
  have rest : ∀ (m : Int) (u : T), 0 ≤ m → m ≤ 60 → Tp (n + 2) u → K (.nx, [some u, some (.int m), none, none, none, none, none, none, none, none, none]) := by
    intro m u h0 h1 hu
    subst hK
    simp only [↓zzaa, ↓zzab, ↓zzac, ↓zzad, ↓zzae, ↓zzaf, ↓zzag, ↓zzah, ↓zzai, ↓zzaj, ↓zzak, ↓zzal, ↓zzam, ↓zzan, ↓zzao, ↓zzap, ↓zzaq, ↓zzar, ↓zzas, ↓zzat, ↓zzau, ↓zzav, ↓zzaw, ↓zzax, ↓zzay, ↓zzaz, ↓zzba, ↓zzbb, ↓zzbc, ↓zzbd, ↓zzbe, ↓zzbf, ↓zzbg, ↓zzbh, ↓zzbi, ↓zzbj, ↓zzbk, ↓zzbl, ↓zzbm, ↓zzbn, ↓zzbo, ↓zzbp, ↓zzbq, ↓zzbr, ↓zzbs, ↓zzbt, ↓zzbu, ↓zzbv, ↓zzbw, ↓zzbx, ↓zzby, ↓zzbz, ↓zzca, ↓zzcb, ↓zzcc, ↓zzcd, ↓zzce, ↓zzcf, ↓zzcg, ↓zzch, ↓zzci, ↓zzcj, ↓zzck, ↓zzcl, ↓zzcm, ↓zzcn, ↓zzco, ↓zzcp, ↓zzcq, ↓zzcr, ↓zzcs, ↓zzct, ↓zzcu, ↓zzcv, ↓zzcw, ↓zzcx, ↓zzcy, ↓zzcz, ↓zzda, ↓zzdb, ↓zzdc, ↓zzdd, zzde, ↓zzdf, ↓zzdg, ↓zzdh, ↓zzdi, ↓zzdj, ↓zzdk, ↓zzdl, ↓zzdm, ↓zzdn, ↓zzdo, ↓zzdp, ↓zzdq, zzdr, zzds, zzdt, zzdu, zzdv, zzdw, zzdx, zzdy, zzdz, zzea, zzeb, oEq, oNe, eqT, oAdd, oNeg, oAbs, oMax2, oMin2, oInt, oLen, oIsN, oNotN, oIn, oNin, inT, eqF, oIsi, oIsi2, oList, oTuple, seqT, zp, enm, two, three, ioFind, ioCount, brOk, Bop.still, Bop.isI, T.ow, T.owl, T.nob, T.nobl, T.nfz, T.nfzl, T.fz, T.fzl, Bop.fit, Bop.res, Bop.bo, zzec, zzed, zzee, zzef, zzeg, zzeh, zzei, zzej, zzef, zzeg, zzeh, zzei, zzek, zzel, List.all_cons, List.all_nil, List.any_cons, List.any_nil, zzem, zzen, zzeo, zzep, zzeq, zzer, zzes, zzet, Bool.not_false, Bool.not_true, Bool.or_false, Bool.false_or, Bool.and_true, Bool.true_and, Bool.or_true, Bool.true_or, Bool.and_false, Bool.false_and, Bool.not_not, Bool.not_eq_true', decide_eq_false_iff_not, Bool.and_eq_true, Bool.or_eq_true, true_or, or_true, false_or, or_false, true_and, and_true, false_and, and_false, Bool.false_eq_true, false_imp_iff, if_true, if_false, forall_const, implies_true, Option.some.injEq, Option.isSome_some, forall_eq', reduceCtorEq, List.cons_append, List.nil_append, List.length_cons, List.length_nil, List.length_map, List.length_append, List.length_range, zzeu, zzev, zzew, List.replicate, List.flatten_cons, List.flatten_nil, List.append_nil, Nat.reduceAdd, Nat.reduceSub, Nat.reduceLT, Nat.reduceLeDiff, List.set_cons_zero, List.set_cons_succ, decide_eq_true_eq, decide_true, decide_false, Int.reduceLT, Int.reduceLE, Int.reduceMul, Int.reducePow, Int.reduceToNat, Int.reduceAdd, Int.reduceSub, Int.reduceNeg, Int.reduceEq, Nat.reducePow, zzex, zzey, zzez, Nat.zero_add, big, zzfa, zzfb, String.reduceEq, wipeE, zzfc, zzfd, zzah, zzai, Option.getD_some, ↓zzfe, ↓zzff, ↓zzfg, ↓zzfh, ↓zzfi, ↓zzfj, ↓zzfk, ↓zzfl, ↓zzfm, ↓zzfn, ↓zzfo, ↓zzfp, ↓zzfq, ↓zzfr, ↓zzfs, ↓zzft, ↓zzfu, ↓zzfv, ↓zzfw, ↓zzfx, ↓zzfy, ↓zzfz, ↓zzga, ↓zzgb, ↓zzgc, ↓zzgd, ↓zzge, ↓zzgf, ↓zzgg, ↓zzgh, ↓zzgi, ↓zzgj, ↓zzgk, ↓zzgl, ↓zzgm, ↓zzgn, ↓zzgo, ↓zzgp, ↓zzgq, ↓zzgr, ↓zzgs, ↓zzgt, ↓zzgu, ↓zzgv, ↓zzgw, ↓zzgx, ↓zzgy, ↓zzgz, ↓zzha, ↓zzhb, ↓zzhc, ↓zzhd, ↓zzhe, ↓zzhf, ↓zzhg, ↓zzhh, ↓zzhi, ↓zzhj, ↓zzhk, ↓zzhl, ↓zzhm, ↓zzhn, ↓zzho, ↓zzhp, ↓zzhq, ↓zzhr, ↓zzhs, ↓zzht, ↓zzhl, zzhu, zzhv, zzhw, zzhx, zzhy, zzhz, zzia, zzib, zzic, zzid, zzie, zzif, zzig, zzih, zzii, zzij, zzik, zzil, zzim, zzin, zzio, zzip, zziq, zzir, zzis, zzit, zziu, zziv, zziw, zzix, zziy, zziz, zzja, zzjb, zzjc, zzjd, zzje, zzjf, zzjg, zzjh, zzji, zzjj, zzjk, zzjl, zzjm, zzjn, zzjo, zzjp, zzjq, zzjr, zzjs, zzjt, zzju, zzjv, zzjw, zzjx, zzjy, zzjz, zzka, zzkb, zzkc, zzkd, zzke, zzkf, zzkg, zzkh, zzki, zzkj, zzkk, zzkl, zzkm, zzkn, zzko, zzkp, zzkq, zzkr, zzks, zzkt, zzku, zzkv, zzkw, zzkx, zzky, zzkz, zzla, zzlb, zzlc, zzld, zzle, zzlf, zzlg, zzlh, zzli, zzlj, zzlk, zzll, zzlm, zzln, zzlo, ↓zzlp, ↓zzlq, ↓zzlr, ↓zzls, ↓zzlt, ↓zzlu, ↓zzlv, ↓zzlw, ↓zzlx, ↓zzly, ↓zzlz, ↓zzma, zzmb, zzmc, ↓zzmd, ↓zzme, ↓zzmf, ↓zzmg, ↓zzmh, zzmi, zzmj, zzmk, zzml, zzmm, zzmn, zzmo, zzmp, zzmq, zzmr, zzms, Option.bind_some, Option.map_some, ↓zzmt, ↓zzmu, ↓zzmv, ↓zzmw, ↓zzmx, ↓zzmy, ↓zzmz, ↓zzna, ↓zznb, ↓zznc, ↓zznd, ↓zzne, ↓zznf, ↓zzng, ↓zznh, ↓zzni, ↓zznj, ↓zznk, ↓zznl]
    (refine take_ok (by assumption) (by omega) (by omega) ?_; intro _ _ _ _ _; simp only [↓zzaa, ↓zzab, ↓zzac, ↓zzad, ↓zzae, ↓zzaf, ↓zzag, ↓zzah, ↓zzai, ↓zzaj, ↓zzak, ↓zzal, ↓zzam, ↓zzan, ↓zzao, ↓zzap, ↓zzaq, ↓zzar, ↓zzas, ↓zzat, ↓zzau, ↓zzav, ↓zzaw, ↓zzax, ↓zzay, ↓zzaz, ↓zzba, ↓zzbb, ↓zzbc, ↓zzbd, ↓zzbe, ↓zzbf, ↓zzbg, ↓zzbh, ↓zzbi, ↓zzbj, ↓zzbk, ↓zzbl, ↓zzbm, ↓zzbn, ↓zzbo, ↓zzbp, ↓zzbq, ↓zzbr, ↓zzbs, ↓zzbt, ↓zzbu, ↓zzbv, ↓zzbw, ↓zzbx, ↓zzby, ↓zzbz, ↓zzca, ↓zzcb, ↓zzcc, ↓zzcd, ↓zzce, ↓zzcf, ↓zzcg, ↓zzch, ↓zzci, ↓zzcj, ↓zzck, ↓zzcl, ↓zzcm, ↓zzcn, ↓zzco, ↓zzcp, ↓zzcq, ↓zzcr, ↓zzcs, ↓zzct, ↓zzcu, ↓zzcv, ↓zzcw, ↓zzcx, ↓zzcy, ↓zzcz, ↓zzda, ↓zzdb, ↓zzdc, ↓zzdd, zzde, ↓zzdf, ↓zzdg, ↓zzdh, ↓zzdi, ↓zzdj, ↓zzdk, ↓zzdl, ↓zzdm, ↓zzdn, ↓zzdo, ↓zzdp, ↓zzdq, zzdr, zzds, zzdt, zzdu, zzdv, zzdw, zzdx, zzdy, zzdz, zzea, zzeb, oEq, oNe, eqT, oAdd, oNeg, oAbs, oMax2, oMin2, oInt, oLen, oIsN, oNotN, oIn, oNin, inT, eqF, oIsi, oIsi2, oList, oTuple, seqT, zp, enm, two, three, ioFind, ioCount, brOk, Bop.still, Bop.isI, T.ow, T.owl, T.nob, T.nobl, T.nfz, T.nfzl, T.fz, T.fzl, Bop.fit, Bop.res, Bop.bo, zzec, zzed, zzee, zzef, zzeg, zzeh, zzei, zzej, zzef, zzeg, zzeh, zzei, zzek, zzel, List.all_cons, List.all_nil, List.any_cons, List.any_nil, zzem, zzen, zzeo, zzep, zzeq, zzer, zzes, zzet, Bool.not_false, Bool.not_true, Bool.or_false, Bool.false_or, Bool.and_true, Bool.true_and, Bool.or_true, Bool.true_or, Bool.and_false, Bool.false_and, Bool.not_not, Bool.not_eq_true', decide_eq_false_iff_not, Bool.and_eq_true, Bool.or_eq_true, true_or, or_true, false_or, or_false, true_and, and_true, false_and, and_false, Bool.false_eq_true, false_imp_iff, if_true, if_false, forall_const, implies_true, Option.some.injEq, Option.isSome_some, forall_eq', reduceCtorEq, List.cons_append, List.nil_append, List.length_cons, List.length_nil, List.length_map, List.length_append, List.length_range, zzeu, zzev, zzew, List.replicate, List.flatten_cons, List.flatten_nil, List.append_nil, Nat.reduceAdd, Nat.reduceSub, Nat.reduceLT, Nat.reduceLeDiff, List.set_cons_zero, List.set_cons_succ, decide_eq_true_eq, decide_true, decide_false, Int.reduceLT, Int.reduceLE, Int.reduceMul, Int.reducePow, Int.reduceToNat, Int.reduceAdd, Int.reduceSub, Int.reduceNeg, Int.reduceEq, Nat.reducePow, zzex, zzey, zzez, Nat.zero_add, big, zzfa, zzfb, String.reduceEq, wipeE, zzfc, zzfd, zzah, zzai, Option.getD_some, ↓zzfe, ↓zzff, ↓zzfg, ↓zzfh, ↓zzfi, ↓zzfj, ↓zzfk, ↓zzfl, ↓zzfm, ↓zzfn, ↓zzfo, ↓zzfp, ↓zzfq, ↓zzfr, ↓zzfs, ↓zzft, ↓zzfu, ↓zzfv, ↓zzfw, ↓zzfx, ↓zzfy, ↓zzfz, ↓zzga, ↓zzgb, ↓zzgc, ↓zzgd, ↓zzge, ↓zzgf, ↓zzgg, ↓zzgh, ↓zzgi, ↓zzgj, ↓zzgk, ↓zzgl, ↓zzgm, ↓zzgn, ↓zzgo, ↓zzgp, ↓zzgq, ↓zzgr, ↓zzgs, ↓zzgt, ↓zzgu, ↓zzgv, ↓zzgw, ↓zzgx, ↓zzgy, ↓zzgz, ↓zzha, ↓zzhb, ↓zzhc, ↓zzhd, ↓zzhe, ↓zzhf, ↓zzhg, ↓zzhh, ↓zzhi, ↓zzhj, ↓zzhk, ↓zzhl, ↓zzhm, ↓zzhn, ↓zzho, ↓zzhp, ↓zzhq, ↓zzhr, ↓zzhs, ↓zzht, ↓zzhl, zzhu, zzhv, zzhw, zzhx, zzhy, zzhz, zzia, zzib, zzic, zzid, zzie, zzif, zzig, zzih, zzii, zzij, zzik, zzil, zzim, zzin, zzio, zzip, zziq, zzir, zzis, zzit, zziu, zziv, zziw, zzix, zziy, zziz, zzja, zzjb, zzjc, zzjd, zzje, zzjf, zzjg, zzjh, zzji, zzjj, zzjk, zzjl, zzjm, zzjn, zzjo, zzjp, zzjq, zzjr, zzjs, zzjt, zzju, zzjv, zzjw, zzjx, zzjy, zzjz, zzka, zzkb, zzkc, zzkd, zzke, zzkf, zzkg, zzkh, zzki, zzkj, zzkk, zzkl, zzkm, zzkn, zzko, zzkp, zzkq, zzkr, zzks, zzkt, zzku, zzkv, zzkw, zzkx, zzky, zzkz, zzla, zzlb, zzlc, zzld, zzle, zzlf, zzlg, zzlh, zzli, zzlj, zzlk, zzll, zzlm, zzln, zzlo, ↓zzlp, ↓zzlq, ↓zzlr, ↓zzls, ↓zzlt, ↓zzlu, ↓zzlv, ↓zzlw, ↓zzlx, ↓zzly, ↓zzlz, ↓zzma, zzmb, zzmc, ↓zzmd, ↓zzme, ↓zzmf, ↓zzmg, ↓zzmh, zzmi, zzmj, zzmk, zzml, zzmm, zzmn, zzmo, zzmp, zzmq, zzmr, zzms, Option.bind_some, Option.map_some, ↓zzmt, ↓zzmu, ↓zzmv, ↓zzmw, ↓zzmx, ↓zzmy, ↓zzmz, ↓zzna, ↓zznb, ↓zznc, ↓zznd, ↓zzne, ↓zznf, ↓zzng, ↓zznh, ↓zzni, ↓zznj, ↓zznk, ↓zznl])
    refine pickI (lo := 2) (hi := 9) (by repeat (first | exact al_nil | refine al_cons ⟨_, rfl, by omega, by omega⟩ ?_)) (by omega) (by simp; omega) fun sh _ _ => ?_
    simp only [↓zzaa, ↓zzab, ↓zzac, ↓zzad, ↓zzae, ↓zzaf, ↓zzag, ↓zzah, ↓zzai, ↓zzaj, ↓zzak, ↓zzal, ↓zzam, ↓zzan, ↓zzao, ↓zzap, ↓zzaq, ↓zzar, ↓zzas, ↓zzat, ↓zzau, ↓zzav, ↓zzaw, ↓zzax, ↓zzay, ↓zzaz, ↓zzba, ↓zzbb, ↓zzbc, ↓zzbd, ↓zzbe, ↓zzbf, ↓zzbg, ↓zzbh, ↓zzbi, ↓zzbj, ↓zzbk, ↓zzbl, ↓zzbm, ↓zzbn, ↓zzbo, ↓zzbp, ↓zzbq, ↓zzbr, ↓zzbs, ↓zzbt, ↓zzbu, ↓zzbv, ↓zzbw, ↓zzbx, ↓zzby, ↓zzbz, ↓zzca, ↓zzcb, ↓zzcc, ↓zzcd, ↓zzce, ↓zzcf, ↓zzcg, ↓zzch, ↓zzci, ↓zzcj, ↓zzck, ↓zzcl, ↓zzcm, ↓zzcn, ↓zzco, ↓zzcp, ↓zzcq, ↓zzcr, ↓zzcs, ↓zzct, ↓zzcu, ↓zzcv, ↓zzcw, ↓zzcx, ↓zzcy, ↓zzcz, ↓zzda, ↓zzdb, ↓zzdc, ↓zzdd, zzde, ↓zzdf, ↓zzdg, ↓zzdh, ↓zzdi, ↓zzdj, ↓zzdk, ↓zzdl, ↓zzdm, ↓zzdn, ↓zzdo, ↓zzdp, ↓zzdq, zzdr, zzds, zzdt, zzdu, zzdv, zzdw, zzdx, zzdy, zzdz, zzea, zzeb, oEq, oNe, eqT, oAdd, oNeg, oAbs, oMax2, oMin2, oInt, oLen, oIsN, oNotN, oIn, oNin, inT, eqF, oIsi, oIsi2, oList, oTuple, seqT, zp, enm, two, three, ioFind, ioCount, brOk, Bop.still, Bop.isI, T.ow, T.owl, T.nob, T.nobl, T.nfz, T.nfzl, T.fz, T.fzl, Bop.fit, Bop.res, Bop.bo, zzec, zzed, zzee, zzef, zzeg, zzeh, zzei, zzej, zzef, zzeg, zzeh, zzei, zzek, zzel, List.all_cons, List.all_nil, List.any_cons, List.any_nil, zzem, zzen, zzeo, zzep, zzeq, zzer, zzes, zzet, Bool.not_false, Bool.not_true, Bool.or_false, Bool.false_or, Bool.and_true, Bool.true_and, Bool.or_true, Bool.true_or, Bool.and_false, Bool.false_and, Bool.not_not, Bool.not_eq_true', decide_eq_false_iff_not, Bool.and_eq_true, Bool.or_eq_true, true_or, or_true, false_or, or_false, true_and, and_true, false_and, and_false, Bool.false_eq_true, false_imp_iff, if_true, if_false, forall_const, implies_true, Option.some.injEq, Option.isSome_some, forall_eq', reduceCtorEq, List.cons_append, List.nil_append, List.length_cons, List.length_nil, List.length_map, List.length_append, List.length_range, zzeu, zzev, zzew, List.replicate, List.flatten_cons, List.flatten_nil, List.append_nil, Nat.reduceAdd, Nat.reduceSub, Nat.reduceLT, Nat.reduceLeDiff, List.set_cons_zero, List.set_cons_succ, decide_eq_true_eq, decide_true, decide_false, Int.reduceLT, Int.reduceLE, Int.reduceMul, Int.reducePow, Int.reduceToNat, Int.reduceAdd, Int.reduceSub, Int.reduceNeg, Int.reduceEq, Nat.reducePow, zzex, zzey, zzez, Nat.zero_add, big, zzfa, zzfb, String.reduceEq, wipeE, zzfc, zzfd, zzah, zzai, Option.getD_some, ↓zzfe, ↓zzff, ↓zzfg, ↓zzfh, ↓zzfi, ↓zzfj, ↓zzfk, ↓zzfl, ↓zzfm, ↓zzfn, ↓zzfo, ↓zzfp, ↓zzfq, ↓zzfr, ↓zzfs, ↓zzft, ↓zzfu, ↓zzfv, ↓zzfw, ↓zzfx, ↓zzfy, ↓zzfz, ↓zzga, ↓zzgb, ↓zzgc, ↓zzgd, ↓zzge, ↓zzgf, ↓zzgg, ↓zzgh, ↓zzgi, ↓zzgj, ↓zzgk, ↓zzgl, ↓zzgm, ↓zzgn, ↓zzgo, ↓zzgp, ↓zzgq, ↓zzgr, ↓zzgs, ↓zzgt, ↓zzgu, ↓zzgv, ↓zzgw, ↓zzgx, ↓zzgy, ↓zzgz, ↓zzha, ↓zzhb, ↓zzhc, ↓zzhd, ↓zzhe, ↓zzhf, ↓zzhg, ↓zzhh, ↓zzhi, ↓zzhj, ↓zzhk, ↓zzhl, ↓zzhm, ↓zzhn, ↓zzho, ↓zzhp, ↓zzhq, ↓zzhr, ↓zzhs, ↓zzht, ↓zzhl, zzhu, zzhv, zzhw, zzhx, zzhy, zzhz, zzia, zzib, zzic, zzid, zzie, zzif, zzig, zzih, zzii, zzij, zzik, zzil, zzim, zzin, zzio, zzip, zziq, zzir, zzis, zzit, zziu, zziv, zziw, zzix, zziy, zziz, zzja, zzjb, zzjc, zzjd, zzje, zzjf, zzjg, zzjh, zzji, zzjj, zzjk, zzjl, zzjm, zzjn, zzjo, zzjp, zzjq, zzjr, zzjs, zzjt, zzju, zzjv, zzjw, zzjx, zzjy, zzjz, zzka, zzkb, zzkc, zzkd, zzke, zzkf, zzkg, zzkh, zzki, zzkj, zzkk, zzkl, zzkm, zzkn, zzko, zzkp, zzkq, zzkr, zzks, zzkt, zzku, zzkv, zzkw, zzkx, zzky, zzkz, zzla, zzlb, zzlc, zzld, zzle, zzlf, zzlg, zzlh, zzli, zzlj, zzlk, zzll, zzlm, zzln, zzlo, ↓zzlp, ↓zzlq, ↓zzlr, ↓zzls, ↓zzlt, ↓zzlu, ↓zzlv, ↓zzlw, ↓zzlx, ↓zzly, ↓zzlz, ↓zzma, zzmb, zzmc, ↓zzmd, ↓zzme, ↓zzmf, ↓zzmg, ↓zzmh, zzmi, zzmj, zzmk, zzml, zzmm, zzmn, zzmo, zzmp, zzmq, zzmr, zzms, Option.bind_some, Option.map_some, ↓zzmt, ↓zzmu, ↓zzmv, ↓zzmw, ↓zzmx, ↓zzmy, ↓zzmz, ↓zzna, ↓zznb, ↓zznc, ↓zznd, ↓zzne, ↓zznf, ↓zzng, ↓zznh, ↓zzni, ↓zznj, ↓zznk, ↓zznl]
    refine ⟨by omega, ?_⟩
    refine for_inv (fun d r e => ∃ u x4 x5 x6 x7 x8 x9 x10, ∃ made : List Row, made.length = d.length ∧ (∀ r, r ∈ made → r.ok m) ∧ Tp (n + 10 + 20 * d.length) u ∧
      e = [some u, some (.int m), some (.int sh), some (.lst true (made.map Row.t)), x4, x5, x6, x7, x8, x9, x10]) ⟨_, _, _, _, _, _, _, _, [], rfl, (fun _ z => nomatch z), Tp.mono (by assumption) (by simp; omega), rfl⟩ ?_ ?_
    · rintro d k r _ hd ⟨u, x4, x5, x6, x7, x8, x9, x10, made, hl, hok, hu, rfl⟩
      have hdl : d.length < 60 ∧ (k : Int) < m := by
        have h1' := congrArg List.length hd
        simp at h1'
        have h2 : k ∈ List.range m.toNat := by rw [hd]; simp
        have := List.mem_range.mp h2
        omega
      simp only [↓zzaa, ↓zzab, ↓zzac, ↓zzad, ↓zzae, ↓zzaf, ↓zzag, ↓zzah, ↓zzai, ↓zzaj, ↓zzak, ↓zzal, ↓zzam, ↓zzan, ↓zzao, ↓zzap, ↓zzaq, ↓zzar, ↓zzas, ↓zzat, ↓zzau, ↓zzav, ↓zzaw, ↓zzax, ↓zzay, ↓zzaz, ↓zzba, ↓zzbb, ↓zzbc, ↓zzbd, ↓zzbe, ↓zzbf, ↓zzbg, ↓zzbh, ↓zzbi, ↓zzbj, ↓zzbk, ↓zzbl, ↓zzbm, ↓zzbn, ↓zzbo, ↓zzbp, ↓zzbq, ↓zzbr, ↓zzbs, ↓zzbt, ↓zzbu, ↓zzbv, ↓zzbw, ↓zzbx, ↓zzby, ↓zzbz, ↓zzca, ↓zzcb, ↓zzcc, ↓zzcd, ↓zzce, ↓zzcf, ↓zzcg, ↓zzch, ↓zzci, ↓zzcj, ↓zzck, ↓zzcl, ↓zzcm, ↓zzcn, ↓zzco, ↓zzcp, ↓zzcq, ↓zzcr, ↓zzcs, ↓zzct, ↓zzcu, ↓zzcv, ↓zzcw, ↓zzcx, ↓zzcy, ↓zzcz, ↓zzda, ↓zzdb, ↓zzdc, ↓zzdd, zzde, ↓zzdf, ↓zzdg, ↓zzdh, ↓zzdi, ↓zzdj, ↓zzdk, ↓zzdl, ↓zzdm, ↓zzdn, ↓zzdo, ↓zzdp, ↓zzdq, zzdr, zzds, zzdt, zzdu, zzdv, zzdw, zzdx, zzdy, zzdz, zzea, zzeb, oEq, oNe, eqT, oAdd, oNeg, oAbs, oMax2, oMin2, oInt, oLen, oIsN, oNotN, oIn, oNin, inT, eqF, oIsi, oIsi2, oList, oTuple, seqT, zp, enm, two, three, ioFind, ioCount, brOk, Bop.still, Bop.isI, T.ow, T.owl, T.nob, T.nobl, T.nfz, T.nfzl, T.fz, T.fzl, Bop.fit, Bop.res, Bop.bo, zzec, zzed, zzee, zzef, zzeg, zzeh, zzei, zzej, zzef, zzeg, zzeh, zzei, zzek, zzel, List.all_cons, List.all_nil, List.any_cons, List.any_nil, zzem, zzen, zzeo, zzep, zzeq, zzer, zzes, zzet, Bool.not_false, Bool.not_true, Bool.or_false, Bool.false_or, Bool.and_true, Bool.true_and, Bool.or_true, Bool.true_or, Bool.and_false, Bool.false_and, Bool.not_not, Bool.not_eq_true', decide_eq_false_iff_not, Bool.and_eq_true, Bool.or_eq_true, true_or, or_true, false_or, or_false, true_and, and_true, false_and, and_false, Bool.false_eq_true, false_imp_iff, if_true, if_false, forall_const, implies_true, Option.some.injEq, Option.isSome_some, forall_eq', reduceCtorEq, List.cons_append, List.nil_append, List.length_cons, List.length_nil, List.length_map, List.length_append, List.length_range, zzeu, zzev, zzew, List.replicate, List.flatten_cons, List.flatten_nil, List.append_nil, Nat.reduceAdd, Nat.reduceSub, Nat.reduceLT, Nat.reduceLeDiff, List.set_cons_zero, List.set_cons_succ, decide_eq_true_eq, decide_true, decide_false, Int.reduceLT, Int.reduceLE, Int.reduceMul, Int.reducePow, Int.reduceToNat, Int.reduceAdd, Int.reduceSub, Int.reduceNeg, Int.reduceEq, Nat.reducePow, zzex, zzey, zzez, Nat.zero_add, big, zzfa, zzfb, String.reduceEq, wipeE, zzfc, zzfd, zzah, zzai, Option.getD_some, ↓zzfe, ↓zzff, ↓zzfg, ↓zzfh, ↓zzfi, ↓zzfj, ↓zzfk, ↓zzfl, ↓zzfm, ↓zzfn, ↓zzfo, ↓zzfp, ↓zzfq, ↓zzfr, ↓zzfs, ↓zzft, ↓zzfu, ↓zzfv, ↓zzfw, ↓zzfx, ↓zzfy, ↓zzfz, ↓zzga, ↓zzgb, ↓zzgc, ↓zzgd, ↓zzge, ↓zzgf, ↓zzgg, ↓zzgh, ↓zzgi, ↓zzgj, ↓zzgk, ↓zzgl, ↓zzgm, ↓zzgn, ↓zzgo, ↓zzgp, ↓zzgq, ↓zzgr, ↓zzgs, ↓zzgt, ↓zzgu, ↓zzgv, ↓zzgw, ↓zzgx, ↓zzgy, ↓zzgz, ↓zzha, ↓zzhb, ↓zzhc, ↓zzhd, ↓zzhe, ↓zzhf, ↓zzhg, ↓zzhh, ↓zzhi, ↓zzhj, ↓zzhk, ↓zzhl, ↓zzhm, ↓zzhn, ↓zzho, ↓zzhp, ↓zzhq, ↓zzhr, ↓zzhs, ↓zzht, ↓zzhl, zzhu, zzhv, zzhw, zzhx, zzhy, zzhz, zzia, zzib, zzic, zzid, zzie, zzif, zzig, zzih, zzii, zzij, zzik, zzil, zzim, zzin, zzio, zzip, zziq, zzir, zzis, zzit, zziu, zziv, zziw, zzix, zziy, zziz, zzja, zzjb, zzjc, zzjd, zzje, zzjf, zzjg, zzjh, zzji, zzjj, zzjk, zzjl, zzjm, zzjn, zzjo, zzjp, zzjq, zzjr, zzjs, zzjt, zzju, zzjv, zzjw, zzjx, zzjy, zzjz, zzka, zzkb, zzkc, zzkd, zzke, zzkf, zzkg, zzkh, zzki, zzkj, zzkk, zzkl, zzkm, zzkn, zzko, zzkp, zzkq, zzkr, zzks, zzkt, zzku, zzkv, zzkw, zzkx, zzky, zzkz, zzla, zzlb, zzlc, zzld, zzle, zzlf, zzlg, zzlh, zzli, zzlj, zzlk, zzll, zzlm, zzln, zzlo, ↓zzlp, ↓zzlq, ↓zzlr, ↓zzls, ↓zzlt, ↓zzlu, ↓zzlv, ↓zzlw, ↓zzlx, ↓zzly, ↓zzlz, ↓zzma, zzmb, zzmc, ↓zzmd, ↓zzme, ↓zzmf, ↓zzmg, ↓zzmh, zzmi, zzmj, zzmk, zzml, zzmm, zzmn, zzmo, zzmp, zzmq, zzmr, zzms, Option.bind_some, Option.map_some, ↓zzmt, ↓zzmu, ↓zzmv, ↓zzmw, ↓zzmx, ↓zzmy, ↓zzmz, ↓zzna, ↓zznb, ↓zznc, ↓zznd, ↓zzne, ↓zznf, ↓zzng, ↓zznh, ↓zzni, ↓zznj, ↓zznk, ↓zznl]
      refine take_ok (by assumption) (by omega) (by omega) ?_; intro way _ _ _ _; simp only [↓zzaa, ↓zzab, ↓zzac, ↓zzad, ↓zzae, ↓zzaf, ↓zzag, ↓zzah, ↓zzai, ↓zzaj, ↓zzak, ↓zzal, ↓zzam, ↓zzan, ↓zzao, ↓zzap, ↓zzaq, ↓zzar, ↓zzas, ↓zzat, ↓zzau, ↓zzav, ↓zzaw, ↓zzax, ↓zzay, ↓zzaz, ↓zzba, ↓zzbb, ↓zzbc, ↓zzbd, ↓zzbe, ↓zzbf, ↓zzbg, ↓zzbh, ↓zzbi, ↓zzbj, ↓zzbk, ↓zzbl, ↓zzbm, ↓zzbn, ↓zzbo, ↓zzbp, ↓zzbq, ↓zzbr, ↓zzbs, ↓zzbt, ↓zzbu, ↓zzbv, ↓zzbw, ↓zzbx, ↓zzby, ↓zzbz, ↓zzca, ↓zzcb, ↓zzcc, ↓zzcd, ↓zzce, ↓zzcf, ↓zzcg, ↓zzch, ↓zzci, ↓zzcj, ↓zzck, ↓zzcl, ↓zzcm, ↓zzcn, ↓zzco, ↓zzcp, ↓zzcq, ↓zzcr, ↓zzcs, ↓zzct, ↓zzcu, ↓zzcv, ↓zzcw, ↓zzcx, ↓zzcy, ↓zzcz, ↓zzda, ↓zzdb, ↓zzdc, ↓zzdd, zzde, ↓zzdf, ↓zzdg, ↓zzdh, ↓zzdi, ↓zzdj, ↓zzdk, ↓zzdl, ↓zzdm, ↓zzdn, ↓zzdo, ↓zzdp, ↓zzdq, zzdr, zzds, zzdt, zzdu, zzdv, zzdw, zzdx, zzdy, zzdz, zzea, zzeb, oEq, oNe, eqT, oAdd, oNeg, oAbs, oMax2, oMin2, oInt, oLen, oIsN, oNotN, oIn, oNin, inT, eqF, oIsi, oIsi2, oList, oTuple, seqT, zp, enm, two, three, ioFind, ioCount, brOk, Bop.still, Bop.isI, T.ow, T.owl, T.nob, T.nobl, T.nfz, T.nfzl, T.fz, T.fzl, Bop.fit, Bop.res, Bop.bo, zzec, zzed, zzee, zzef, zzeg, zzeh, zzei, zzej, zzef, zzeg, zzeh, zzei, zzek, zzel, List.all_cons, List.all_nil, List.any_cons, List.any_nil, zzem, zzen, zzeo, zzep, zzeq, zzer, zzes, zzet, Bool.not_false, Bool.not_true, Bool.or_false, Bool.false_or, Bool.and_true, Bool.true_and, Bool.or_true, Bool.true_or, Bool.and_false, Bool.false_and, Bool.not_not, Bool.not_eq_true', decide_eq_false_iff_not, Bool.and_eq_true, Bool.or_eq_true, true_or, or_true, false_or, or_false, true_and, and_true, false_and, and_false, Bool.false_eq_true, false_imp_iff, if_true, if_false, forall_const, implies_true, Option.some.injEq, Option.isSome_some, forall_eq', reduceCtorEq, List.cons_append, List.nil_append, List.length_cons, List.length_nil, List.length_map, List.length_append, List.length_range, zzeu, zzev, zzew, List.replicate, List.flatten_cons, List.flatten_nil, List.append_nil, Nat.reduceAdd, Nat.reduceSub, Nat.reduceLT, Nat.reduceLeDiff, List.set_cons_zero, List.set_cons_succ, decide_eq_true_eq, decide_true, decide_false, Int.reduceLT, Int.reduceLE, Int.reduceMul, Int.reducePow, Int.reduceToNat, Int.reduceAdd, Int.reduceSub, Int.reduceNeg, Int.reduceEq, Nat.reducePow, zzex, zzey, zzez, Nat.zero_add, big, zzfa, zzfb, String.reduceEq, wipeE, zzfc, zzfd, zzah, zzai, Option.getD_some, ↓zzfe, ↓zzff, ↓zzfg, ↓zzfh, ↓zzfi, ↓zzfj, ↓zzfk, ↓zzfl, ↓zzfm, ↓zzfn, ↓zzfo, ↓zzfp, ↓zzfq, ↓zzfr, ↓zzfs, ↓zzft, ↓zzfu, ↓zzfv, ↓zzfw, ↓zzfx, ↓zzfy, ↓zzfz, ↓zzga, ↓zzgb, ↓zzgc, ↓zzgd, ↓zzge, ↓zzgf, ↓zzgg, ↓zzgh, ↓zzgi, ↓zzgj, ↓zzgk, ↓zzgl, ↓zzgm, ↓zzgn, ↓zzgo, ↓zzgp, ↓zzgq, ↓zzgr, ↓zzgs, ↓zzgt, ↓zzgu, ↓zzgv, ↓zzgw, ↓zzgx, ↓zzgy, ↓zzgz, ↓zzha, ↓zzhb, ↓zzhc, ↓zzhd, ↓zzhe, ↓zzhf, ↓zzhg, ↓zzhh, ↓zzhi, ↓zzhj, ↓zzhk, ↓zzhl, ↓zzhm, ↓zzhn, ↓zzho, ↓zzhp, ↓zzhq, ↓zzhr, ↓zzhs, ↓zzht, ↓zzhl, zzhu, zzhv, zzhw, zzhx, zzhy, zzhz, zzia, zzib, zzic, zzid, zzie, zzif, zzig, zzih, zzii, zzij, zzik, zzil, zzim, zzin, zzio, zzip, zziq, zzir, zzis, zzit, zziu, zziv, zziw, zzix, zziy, zziz, zzja, zzjb, zzjc, zzjd, zzje, zzjf, zzjg, zzjh, zzji, zzjj, zzjk, zzjl, zzjm, zzjn, zzjo, zzjp, zzjq, zzjr, zzjs, zzjt, zzju, zzjv, zzjw, zzjx, zzjy, zzjz, zzka, zzkb, zzkc, zzkd, zzke, zzkf, zzkg, zzkh, zzki, zzkj, zzkk, zzkl, zzkm, zzkn, zzko, zzkp, zzkq, zzkr, zzks, zzkt, zzku, zzkv, zzkw, zzkx, zzky, zzkz, zzla, zzlb, zzlc, zzld, zzle, zzlf, zzlg, zzlh, zzli, zzlj, zzlk, zzll, zzlm, zzln, zzlo, ↓zzlp, ↓zzlq, ↓zzlr, ↓zzls, ↓zzlt, ↓zzlu, ↓zzlv, ↓zzlw, ↓zzlx, ↓zzly, ↓zzlz, ↓zzma, zzmb, zzmc, ↓zzmd, ↓zzme, ↓zzmf, ↓zzmg, ↓zzmh, zzmi, zzmj, zzmk, zzml, zzmm, zzmn, zzmo, zzmp, zzmq, zzmr, zzms, Option.bind_some, Option.map_some, ↓zzmt, ↓zzmu, ↓zzmv, ↓zzmw, ↓zzmx, ↓zzmy, ↓zzmz, ↓zzna, ↓zznb, ↓zznc, ↓zznd, ↓zzne, ↓zznf, ↓zzng, ↓zznh, ↓zzni, ↓zznj, ↓zznk, ↓zznl]
      refine take_ok (by assumption) (by omega) (by omega) ?_; intro rr _ hr1 hr2 _; simp only [↓zzaa, ↓zzab, ↓zzac, ↓zzad, ↓zzae, ↓zzaf, ↓zzag, ↓zzah, ↓zzai, ↓zzaj, ↓zzak, ↓zzal, ↓zzam, ↓zzan, ↓zzao, ↓zzap, ↓zzaq, ↓zzar, ↓zzas, ↓zzat, ↓zzau, ↓zzav, ↓zzaw, ↓zzax, ↓zzay, ↓zzaz, ↓zzba, ↓zzbb, ↓zzbc, ↓zzbd, ↓zzbe, ↓zzbf, ↓zzbg, ↓zzbh, ↓zzbi, ↓zzbj, ↓zzbk, ↓zzbl, ↓zzbm, ↓zzbn, ↓zzbo, ↓zzbp, ↓zzbq, ↓zzbr, ↓zzbs, ↓zzbt, ↓zzbu, ↓zzbv, ↓zzbw, ↓zzbx, ↓zzby, ↓zzbz, ↓zzca, ↓zzcb, ↓zzcc, ↓zzcd, ↓zzce, ↓zzcf, ↓zzcg, ↓zzch, ↓zzci, ↓zzcj, ↓zzck, ↓zzcl, ↓zzcm, ↓zzcn, ↓zzco, ↓zzcp, ↓zzcq, ↓zzcr, ↓zzcs, ↓zzct, ↓zzcu, ↓zzcv, ↓zzcw, ↓zzcx, ↓zzcy, ↓zzcz, ↓zzda, ↓zzdb, ↓zzdc, ↓zzdd, zzde, ↓zzdf, ↓zzdg, ↓zzdh, ↓zzdi, ↓zzdj, ↓zzdk, ↓zzdl, ↓zzdm, ↓zzdn, ↓zzdo, ↓zzdp, ↓zzdq, zzdr, zzds, zzdt, zzdu, zzdv, zzdw, zzdx, zzdy, zzdz, zzea, zzeb, oEq, oNe, eqT, oAdd, oNeg, oAbs, oMax2, oMin2, oInt, oLen, oIsN, oNotN, oIn, oNin, inT, eqF, oIsi, oIsi2, oList, oTuple, seqT, zp, enm, two, three, ioFind, ioCount, brOk, Bop.still, Bop.isI, T.ow, T.owl, T.nob, T.nobl, T.nfz, T.nfzl, T.fz, T.fzl, Bop.fit, Bop.res, Bop.bo, zzec, zzed, zzee, zzef, zzeg, zzeh, zzei, zzej, zzef, zzeg, zzeh, zzei, zzek, zzel, List.all_cons, List.all_nil, List.any_cons, List.any_nil, zzem, zzen, zzeo, zzep, zzeq, zzer, zzes, zzet, Bool.not_false, Bool.not_true, Bool.or_false, Bool.false_or, Bool.and_true, Bool.true_and, Bool.or_true, Bool.true_or, Bool.and_false, Bool.false_and, Bool.not_not, Bool.not_eq_true', decide_eq_false_iff_not, Bool.and_eq_true, Bool.or_eq_true, true_or, or_true, false_or, or_false, true_and, and_true, false_and, and_false, Bool.false_eq_true, false_imp_iff, if_true, if_false, forall_const, implies_true, Option.some.injEq, Option.isSome_some, forall_eq', reduceCtorEq, List.cons_append, List.nil_append, List.length_cons, List.length_nil, List.length_map, List.length_append, List.length_range, zzeu, zzev, zzew, List.replicate, List.flatten_cons, List.flatten_nil, List.append_nil, Nat.reduceAdd, Nat.reduceSub, Nat.reduceLT, Nat.reduceLeDiff, List.set_cons_zero, List.set_cons_succ, decide_eq_true_eq, decide_true, decide_false, Int.reduceLT, Int.reduceLE, Int.reduceMul, Int.reducePow, Int.reduceToNat, Int.reduceAdd, Int.reduceSub, Int.reduceNeg, Int.reduceEq, Nat.reducePow, zzex, zzey, zzez, Nat.zero_add, big, zzfa, zzfb, String.reduceEq, wipeE, zzfc, zzfd, zzah, zzai, Option.getD_some, ↓zzfe, ↓zzff, ↓zzfg, ↓zzfh, ↓zzfi, ↓zzfj, ↓zzfk, ↓zzfl, ↓zzfm, ↓zzfn, ↓zzfo, ↓zzfp, ↓zzfq, ↓zzfr, ↓zzfs, ↓zzft, ↓zzfu, ↓zzfv, ↓zzfw, ↓zzfx, ↓zzfy, ↓zzfz, ↓zzga, ↓zzgb, ↓zzgc, ↓zzgd, ↓zzge, ↓zzgf, ↓zzgg, ↓zzgh, ↓zzgi, ↓zzgj, ↓zzgk, ↓zzgl, ↓zzgm, ↓zzgn, ↓zzgo, ↓zzgp, ↓zzgq, ↓zzgr, ↓zzgs, ↓zzgt, ↓zzgu, ↓zzgv, ↓zzgw, ↓zzgx, ↓zzgy, ↓zzgz, ↓zzha, ↓zzhb, ↓zzhc, ↓zzhd, ↓zzhe, ↓zzhf, ↓zzhg, ↓zzhh, ↓zzhi, ↓zzhj, ↓zzhk, ↓zzhl, ↓zzhm, ↓zzhn, ↓zzho, ↓zzhp, ↓zzhq, ↓zzhr, ↓zzhs, ↓zzht, ↓zzhl, zzhu, zzhv, zzhw, zzhx, zzhy, zzhz, zzia, zzib, zzic, zzid, zzie, zzif, zzig, zzih, zzii, zzij, zzik, zzil, zzim, zzin, zzio, zzip, zziq, zzir, zzis, zzit, zziu, zziv, zziw, zzix, zziy, zziz, zzja, zzjb, zzjc, zzjd, zzje, zzjf, zzjg, zzjh, zzji, zzjj, zzjk, zzjl, zzjm, zzjn, zzjo, zzjp, zzjq, zzjr, zzjs, zzjt, zzju, zzjv, zzjw, zzjx, zzjy, zzjz, zzka, zzkb, zzkc, zzkd, zzke, zzkf, zzkg, zzkh, zzki, zzkj, zzkk, zzkl, zzkm, zzkn, zzko, zzkp, zzkq, zzkr, zzks, zzkt, zzku, zzkv, zzkw, zzkx, zzky, zzkz, zzla, zzlb, zzlc, zzld, zzle, zzlf, zzlg, zzlh, zzli, zzlj, zzlk, zzll, zzlm, zzln, zzlo, ↓zzlp, ↓zzlq, ↓zzlr, ↓zzls, ↓zzlt, ↓zzlu, ↓zzlv, ↓zzlw, ↓zzlx, ↓zzly, ↓zzlz, ↓zzma, zzmb, zzmc, ↓zzmd, ↓zzme, ↓zzmf, ↓zzmg, ↓zzmh, zzmi, zzmj, zzmk, zzml, zzmm, zzmn, zzmo, zzmp, zzmq, zzmr, zzms, Option.bind_some, Option.map_some, ↓zzmt, ↓zzmu, ↓zzmv, ↓zzmw, ↓zzmx, ↓zzmy, ↓zzmz, ↓zzna, ↓zznb, ↓zznc, ↓zznd, ↓zzne, ↓zznf, ↓zzng, ↓zznh, ↓zzni, ↓zznj, ↓zznk, ↓zznl]
      have fin : ∀ (row : Row) (u : T) (x4 x5 x6 x7 x8 x9 x10 : Option T), row.ok m → Tp (n + 10 + 20 * d.length + 20) u → ∃ u' y4 y5 y6 y7 y8 y9 y10, ∃ made' : List Row, made'.length = d.length + 1 ∧ (∀ r, r ∈ made' → r.ok m) ∧ Tp (n + 10 + 20 * ((d.length + 1 : Nat) : Int)) u' ∧
          [some u, some (.int m), some (.int sh), some (.lst true (made.map Row.t ++ [row.t])), x4, x5, x6, x7, x8, x9, x10] = [some u', some (.int m), some (.int sh), some (.lst true (made'.map Row.t)), y4, y5, y6, y7, y8, y9, y10] := by
        intro row u x4 x5 x6 x7 x8 x9 x10 h1 h2
        refine ⟨u, x4, x5, x6, x7, x8, x9, x10, made ++ [row], by simp [hl], fun r hr => ?_, h2.mono (by omega), by simp⟩
        rcases List.mem_append.mp hr with z | z
        · exact hok r z
        · rw [List.mem_singleton.mp z]; exact h1
      split
      · refine great_ok (by assumption) (by omega) fun g u _ _ _ => ?_
        simp only [↓zzaa, ↓zzab, ↓zzac, ↓zzad, ↓zzae, ↓zzaf, ↓zzag, ↓zzah, ↓zzai, ↓zzaj, ↓zzak, ↓zzal, ↓zzam, ↓zzan, ↓zzao, ↓zzap, ↓zzaq, ↓zzar, ↓zzas, ↓zzat, ↓zzau, ↓zzav, ↓zzaw, ↓zzax, ↓zzay, ↓zzaz, ↓zzba, ↓zzbb, ↓zzbc, ↓zzbd, ↓zzbe, ↓zzbf, ↓zzbg, ↓zzbh, ↓zzbi, ↓zzbj, ↓zzbk, ↓zzbl, ↓zzbm, ↓zzbn, ↓zzbo, ↓zzbp, ↓zzbq, ↓zzbr, ↓zzbs, ↓zzbt, ↓zzbu, ↓zzbv, ↓zzbw, ↓zzbx, ↓zzby, ↓zzbz, ↓zzca, ↓zzcb, ↓zzcc, ↓zzcd, ↓zzce, ↓zzcf, ↓zzcg, ↓zzch, ↓zzci, ↓zzcj, ↓zzck, ↓zzcl, ↓zzcm, ↓zzcn, ↓zzco, ↓zzcp, ↓zzcq, ↓zzcr, ↓zzcs, ↓zzct, ↓zzcu, ↓zzcv, ↓zzcw, ↓zzcx, ↓zzcy, ↓zzcz, ↓zzda, ↓zzdb, ↓zzdc, ↓zzdd, zzde, ↓zzdf, ↓zzdg, ↓zzdh, ↓zzdi, ↓zzdj, ↓zzdk, ↓zzdl, ↓zzdm, ↓zzdn, ↓zzdo, ↓zzdp, ↓zzdq, zzdr, zzds, zzdt, zzdu, zzdv, zzdw, zzdx, zzdy, zzdz, zzea, zzeb, oEq, oNe, eqT, oAdd, oNeg, oAbs, oMax2, oMin2, oInt, oLen, oIsN, oNotN, oIn, oNin, inT, eqF, oIsi, oIsi2, oList, oTuple, seqT, zp, enm, two, three, ioFind, ioCount, brOk, Bop.still, Bop.isI, T.ow, T.owl, T.nob, T.nobl, T.nfz, T.nfzl, T.fz, T.fzl, Bop.fit, Bop.res, Bop.bo, zzec, zzed, zzee, zzef, zzeg, zzeh, zzei, zzej, zzef, zzeg, zzeh, zzei, zzek, zzel, List.all_cons, List.all_nil, List.any_cons, List.any_nil, zzem, zzen, zzeo, zzep, zzeq, zzer, zzes, zzet, Bool.not_false, Bool.not_true, Bool.or_false, Bool.false_or, Bool.and_true, Bool.true_and, Bool.or_true, Bool.true_or, Bool.and_false, Bool.false_and, Bool.not_not, Bool.not_eq_true', decide_eq_false_iff_not, Bool.and_eq_true, Bool.or_eq_true, true_or, or_true, false_or, or_false, true_and, and_true, false_and, and_false, Bool.false_eq_true, false_imp_iff, if_true, if_false, forall_const, implies_true, Option.some.injEq, Option.isSome_some, forall_eq', reduceCtorEq, List.cons_append, List.nil_append, List.length_cons, List.length_nil, List.length_map, List.length_append, List.length_range, zzeu, zzev, zzew, List.replicate, List.flatten_cons, List.flatten_nil, List.append_nil, Nat.reduceAdd, Nat.reduceSub, Nat.reduceLT, Nat.reduceLeDiff, List.set_cons_zero, List.set_cons_succ, decide_eq_true_eq, decide_true, decide_false, Int.reduceLT, Int.reduceLE, Int.reduceMul, Int.reducePow, Int.reduceToNat, Int.reduceAdd, Int.reduceSub, Int.reduceNeg, Int.reduceEq, Nat.reducePow, zzex, zzey, zzez, Nat.zero_add, big, zzfa, zzfb, String.reduceEq, wipeE, zzfc, zzfd, zzah, zzai, Option.getD_some, ↓zzfe, ↓zzff, ↓zzfg, ↓zzfh, ↓zzfi, ↓zzfj, ↓zzfk, ↓zzfl, ↓zzfm, ↓zzfn, ↓zzfo, ↓zzfp, ↓zzfq, ↓zzfr, ↓zzfs, ↓zzft, ↓zzfu, ↓zzfv, ↓zzfw, ↓zzfx, ↓zzfy, ↓zzfz, ↓zzga, ↓zzgb, ↓zzgc, ↓zzgd, ↓zzge, ↓zzgf, ↓zzgg, ↓zzgh, ↓zzgi, ↓zzgj, ↓zzgk, ↓zzgl, ↓zzgm, ↓zzgn, ↓zzgo, ↓zzgp, ↓zzgq, ↓zzgr, ↓zzgs, ↓zzgt, ↓zzgu, ↓zzgv, ↓zzgw, ↓zzgx, ↓zzgy, ↓zzgz, ↓zzha, ↓zzhb, ↓zzhc, ↓zzhd, ↓zzhe, ↓zzhf, ↓zzhg, ↓zzhh, ↓zzhi, ↓zzhj, ↓zzhk, ↓zzhl, ↓zzhm, ↓zzhn, ↓zzho, ↓zzhp, ↓zzhq, ↓zzhr, ↓zzhs, ↓zzht, ↓zzhl, zzhu, zzhv, zzhw, zzhx, zzhy, zzhz, zzia, zzib, zzic, zzid, zzie, zzif, zzig, zzih, zzii, zzij, zzik, zzil, zzim, zzin, zzio, zzip, zziq, zzir, zzis, zzit, zziu, zziv, zziw, zzix, zziy, zziz, zzja, zzjb, zzjc, zzjd, zzje, zzjf, zzjg, zzjh, zzji, zzjj, zzjk, zzjl, zzjm, zzjn, zzjo, zzjp, zzjq, zzjr, zzjs, zzjt, zzju, zzjv, zzjw, zzjx, zzjy, zzjz, zzka, zzkb, zzkc, zzkd, zzke, zzkf, zzkg, zzkh, zzki, zzkj, zzkk, zzkl, zzkm, zzkn, zzko, zzkp, zzkq, zzkr, zzks, zzkt, zzku, zzkv, zzkw, zzkx, zzky, zzkz, zzla, zzlb, zzlc, zzld, zzle, zzlf, zzlg, zzlh, zzli, zzlj, zzlk, zzll, zzlm, zzln, zzlo, ↓zzlp, ↓zzlq, ↓zzlr, ↓zzls, ↓zzlt, ↓zzlu, ↓zzlv, ↓zzlw, ↓zzlx, ↓zzly, ↓zzlz, ↓zzma, zzmb, zzmc, ↓zzmd, ↓zzme, ↓zzmf, ↓zzmg, ↓zzmh, zzmi, zzmj, zzmk, zzml, zzmm, zzmn, zzmo, zzmp, zzmq, zzmr, zzms, Option.bind_some, Option.map_some, ↓zzmt, ↓zzmu, ↓zzmv, ↓zzmw, ↓zzmx, ↓zzmy, ↓zzmz, ↓zzna, ↓zznb, ↓zznc, ↓zznd, ↓zzne, ↓zznf, ↓zzng, ↓zznh, ↓zzni, ↓zznj, ↓zznk, ↓zznl]
        refine ⟨by omega, ?_⟩
        exact fin (.set rr g) _ _ _ _ _ _ _ _ ⟨⟨hr1, hr2⟩, by omega, by omega⟩ (Tp.mono (by assumption) (by omega))
      · refine take_ok (by assumption) (by omega) (by omega) ?_; intro w9 _ hw1 hw2 _; simp only [↓zzaa, ↓zzab, ↓zzac, ↓zzad, ↓zzae, ↓zzaf, ↓zzag, ↓zzah, ↓zzai, ↓zzaj, ↓zzak, ↓zzal, ↓zzam, ↓zzan, ↓zzao, ↓zzap, ↓zzaq, ↓zzar, ↓zzas, ↓zzat, ↓zzau, ↓zzav, ↓zzaw, ↓zzax, ↓zzay, ↓zzaz, ↓zzba, ↓zzbb, ↓zzbc, ↓zzbd, ↓zzbe, ↓zzbf, ↓zzbg, ↓zzbh, ↓zzbi, ↓zzbj, ↓zzbk, ↓zzbl, ↓zzbm, ↓zzbn, ↓zzbo, ↓zzbp, ↓zzbq, ↓zzbr, ↓zzbs, ↓zzbt, ↓zzbu, ↓zzbv, ↓zzbw, ↓zzbx, ↓zzby, ↓zzbz, ↓zzca, ↓zzcb, ↓zzcc, ↓zzcd, ↓zzce, ↓zzcf, ↓zzcg, ↓zzch, ↓zzci, ↓zzcj, ↓zzck, ↓zzcl, ↓zzcm, ↓zzcn, ↓zzco, ↓zzcp, ↓zzcq, ↓zzcr, ↓zzcs, ↓zzct, ↓zzcu, ↓zzcv, ↓zzcw, ↓zzcx, ↓zzcy, ↓zzcz, ↓zzda, ↓zzdb, ↓zzdc, ↓zzdd, zzde, ↓zzdf, ↓zzdg, ↓zzdh, ↓zzdi, ↓zzdj, ↓zzdk, ↓zzdl, ↓zzdm, ↓zzdn, ↓zzdo, ↓zzdp, ↓zzdq, zzdr, zzds, zzdt, zzdu, zzdv, zzdw, zzdx, zzdy, zzdz, zzea, zzeb, oEq, oNe, eqT, oAdd, oNeg, oAbs, oMax2, oMin2, oInt, oLen, oIsN, oNotN, oIn, oNin, inT, eqF, oIsi, oIsi2, oList, oTuple, seqT, zp, enm, two, three, ioFind, ioCount, brOk, Bop.still, Bop.isI, T.ow, T.owl, T.nob, T.nobl, T.nfz, T.nfzl, T.fz, T.fzl, Bop.fit, Bop.res, Bop.bo, zzec, zzed, zzee, zzef, zzeg, zzeh, zzei, zzej, zzef, zzeg, zzeh, zzei, zzek, zzel, List.all_cons, List.all_nil, List.any_cons, List.any_nil, zzem, zzen, zzeo, zzep, zzeq, zzer, zzes, zzet, Bool.not_false, Bool.not_true, Bool.or_false, Bool.false_or, Bool.and_true, Bool.true_and, Bool.or_true, Bool.true_or, Bool.and_false, Bool.false_and, Bool.not_not, Bool.not_eq_true', decide_eq_false_iff_not, Bool.and_eq_true, Bool.or_eq_true, true_or, or_true, false_or, or_false, true_and, and_true, false_and, and_false, Bool.false_eq_true, false_imp_iff, if_true, if_false, forall_const, implies_true, Option.some.injEq, Option.isSome_some, forall_eq', reduceCtorEq, List.cons_append, List.nil_append, List.length_cons, List.length_nil, List.length_map, List.length_append, List.length_range, zzeu, zzev, zzew, List.replicate, List.flatten_cons, List.flatten_nil, List.append_nil, Nat.reduceAdd, Nat.reduceSub, Nat.reduceLT, Nat.reduceLeDiff, List.set_cons_zero, List.set_cons_succ, decide_eq_true_eq, decide_true, decide_false, Int.reduceLT, Int.reduceLE, Int.reduceMul, Int.reducePow, Int.reduceToNat, Int.reduceAdd, Int.reduceSub, Int.reduceNeg, Int.reduceEq, Nat.reducePow, zzex, zzey, zzez, Nat.zero_add, big, zzfa, zzfb, String.reduceEq, wipeE, zzfc, zzfd, zzah, zzai, Option.getD_some, ↓zzfe, ↓zzff, ↓zzfg, ↓zzfh, ↓zzfi, ↓zzfj, ↓zzfk, ↓zzfl, ↓zzfm, ↓zzfn, ↓zzfo, ↓zzfp, ↓zzfq, ↓zzfr, ↓zzfs, ↓zzft, ↓zzfu, ↓zzfv, ↓zzfw, ↓zzfx, ↓zzfy, ↓zzfz, ↓zzga, ↓zzgb, ↓zzgc, ↓zzgd, ↓zzge, ↓zzgf, ↓zzgg, ↓zzgh, ↓zzgi, ↓zzgj, ↓zzgk, ↓zzgl, ↓zzgm, ↓zzgn, ↓zzgo, ↓zzgp, ↓zzgq, ↓zzgr, ↓zzgs, ↓zzgt, ↓zzgu, ↓zzgv, ↓zzgw, ↓zzgx, ↓zzgy, ↓zzgz, ↓zzha, ↓zzhb, ↓zzhc, ↓zzhd, ↓zzhe, ↓zzhf, ↓zzhg, ↓zzhh, ↓zzhi, ↓zzhj, ↓zzhk, ↓zzhl, ↓zzhm, ↓zzhn, ↓zzho, ↓zzhp, ↓zzhq, ↓zzhr, ↓zzhs, ↓zzht, ↓zzhl, zzhu, zzhv, zzhw, zzhx, zzhy, zzhz, zzia, zzib, zzic, zzid, zzie, zzif, zzig, zzih, zzii, zzij, zzik, zzil, zzim, zzin, zzio, zzip, zziq, zzir, zzis, zzit, zziu, zziv, zziw, zzix, zziy, zziz, zzja, zzjb, zzjc, zzjd, zzje, zzjf, zzjg, zzjh, zzji, zzjj, zzjk, zzjl, zzjm, zzjn, zzjo, zzjp, zzjq, zzjr, zzjs, zzjt, zzju, zzjv, zzjw, zzjx, zzjy, zzjz, zzka, zzkb, zzkc, zzkd, zzke, zzkf, zzkg, zzkh, zzki, zzkj, zzkk, zzkl, zzkm, zzkn, zzko, zzkp, zzkq, zzkr, zzks, zzkt, zzku, zzkv, zzkw, zzkx, zzky, zzkz, zzla, zzlb, zzlc, zzld, zzle, zzlf, zzlg, zzlh, zzli, zzlj, zzlk, zzll, zzlm, zzln, zzlo, ↓zzlp, ↓zzlq, ↓zzlr, ↓zzls, ↓zzlt, ↓zzlu, ↓zzlv, ↓zzlw, ↓zzlx, ↓zzly, ↓zzlz, ↓zzma, zzmb, zzmc, ↓zzmd, ↓zzme, ↓zzmf, ↓zzmg, ↓zzmh, zzmi, zzmj, zzmk, zzml, zzmm, zzmn, zzmo, zzmp, zzmq, zzmr, zzms, Option.bind_some, Option.map_some, ↓zzmt, ↓zzmu, ↓zzmv, ↓zzmw, ↓zzmx, ↓zzmy, ↓zzmz, ↓zzna, ↓zznb, ↓zznc, ↓zznd, ↓zzne, ↓zznf, ↓zzng, ↓zznh, ↓zzni, ↓zznj, ↓zznk, ↓zznl]
        refine take_ok (by assumption) (by omega) (by omega) ?_; intro s5 _ hs1 hs2 _; simp only [↓zzaa, ↓zzab, ↓zzac, ↓zzad, ↓zzae, ↓zzaf, ↓zzag, ↓zzah, ↓zzai, ↓zzaj, ↓zzak, ↓zzal, ↓zzam, ↓zzan, ↓zzao, ↓zzap, ↓zzaq, ↓zzar, ↓zzas, ↓zzat, ↓zzau, ↓zzav, ↓zzaw, ↓zzax, ↓zzay, ↓zzaz, ↓zzba, ↓zzbb, ↓zzbc, ↓zzbd, ↓zzbe, ↓zzbf, ↓zzbg, ↓zzbh, ↓zzbi, ↓zzbj, ↓zzbk, ↓zzbl, ↓zzbm, ↓zzbn, ↓zzbo, ↓zzbp, ↓zzbq, ↓zzbr, ↓zzbs, ↓zzbt, ↓zzbu, ↓zzbv, ↓zzbw, ↓zzbx, ↓zzby, ↓zzbz, ↓zzca, ↓zzcb, ↓zzcc, ↓zzcd, ↓zzce, ↓zzcf, ↓zzcg, ↓zzch, ↓zzci, ↓zzcj, ↓zzck, ↓zzcl, ↓zzcm, ↓zzcn, ↓zzco, ↓zzcp, ↓zzcq, ↓zzcr, ↓zzcs, ↓zzct, ↓zzcu, ↓zzcv, ↓zzcw, ↓zzcx, ↓zzcy, ↓zzcz, ↓zzda, ↓zzdb, ↓zzdc, ↓zzdd, zzde, ↓zzdf, ↓zzdg, ↓zzdh, ↓zzdi, ↓zzdj, ↓zzdk, ↓zzdl, ↓zzdm, ↓zzdn, ↓zzdo, ↓zzdp, ↓zzdq, zzdr, zzds, zzdt, zzdu, zzdv, zzdw, zzdx, zzdy, zzdz, zzea, zzeb, oEq, oNe, eqT, oAdd, oNeg, oAbs, oMax2, oMin2, oInt, oLen, oIsN, oNotN, oIn, oNin, inT, eqF, oIsi, oIsi2, oList, oTuple, seqT, zp, enm, two, three, ioFind, ioCount, brOk, Bop.still, Bop.isI, T.ow, T.owl, T.nob, T.nobl, T.nfz, T.nfzl, T.fz, T.fzl, Bop.fit, Bop.res, Bop.bo, zzec, zzed, zzee, zzef, zzeg, zzeh, zzei, zzej, zzef, zzeg, zzeh, zzei, zzek, zzel, List.all_cons, List.all_nil, List.any_cons, List.any_nil, zzem, zzen, zzeo, zzep, zzeq, zzer, zzes, zzet, Bool.not_false, Bool.not_true, Bool.or_false, Bool.false_or, Bool.and_true, Bool.true_and, Bool.or_true, Bool.true_or, Bool.and_false, Bool.false_and, Bool.not_not, Bool.not_eq_true', decide_eq_false_iff_not, Bool.and_eq_true, Bool.or_eq_true, true_or, or_true, false_or, or_false, true_and, and_true, false_and, and_false, Bool.false_eq_true, false_imp_iff, if_true, if_false, forall_const, implies_true, Option.some.injEq, Option.isSome_some, forall_eq', reduceCtorEq, List.cons_append, List.nil_append, List.length_cons, List.length_nil, List.length_map, List.length_append, List.length_range, zzeu, zzev, zzew, List.replicate, List.flatten_cons, List.flatten_nil, List.append_nil, Nat.reduceAdd, Nat.reduceSub, Nat.reduceLT, Nat.reduceLeDiff, List.set_cons_zero, List.set_cons_succ, decide_eq_true_eq, decide_true, decide_false, Int.reduceLT, Int.reduceLE, Int.reduceMul, Int.reducePow, Int.reduceToNat, Int.reduceAdd, Int.reduceSub, Int.reduceNeg, Int.reduceEq, Nat.reducePow, zzex, zzey, zzez, Nat.zero_add, big, zzfa, zzfb, String.reduceEq, wipeE, zzfc, zzfd, zzah, zzai, Option.getD_some, ↓zzfe, ↓zzff, ↓zzfg, ↓zzfh, ↓zzfi, ↓zzfj, ↓zzfk, ↓zzfl, ↓zzfm, ↓zzfn, ↓zzfo, ↓zzfp, ↓zzfq, ↓zzfr, ↓zzfs, ↓zzft, ↓zzfu, ↓zzfv, ↓zzfw, ↓zzfx, ↓zzfy, ↓zzfz, ↓zzga, ↓zzgb, ↓zzgc, ↓zzgd, ↓zzge, ↓zzgf, ↓zzgg, ↓zzgh, ↓zzgi, ↓zzgj, ↓zzgk, ↓zzgl, ↓zzgm, ↓zzgn, ↓zzgo, ↓zzgp, ↓zzgq, ↓zzgr, ↓zzgs, ↓zzgt, ↓zzgu, ↓zzgv, ↓zzgw, ↓zzgx, ↓zzgy, ↓zzgz, ↓zzha, ↓zzhb, ↓zzhc, ↓zzhd, ↓zzhe, ↓zzhf, ↓zzhg, ↓zzhh, ↓zzhi, ↓zzhj, ↓zzhk, ↓zzhl, ↓zzhm, ↓zzhn, ↓zzho, ↓zzhp, ↓zzhq, ↓zzhr, ↓zzhs, ↓zzht, ↓zzhl, zzhu, zzhv, zzhw, zzhx, zzhy, zzhz, zzia, zzib, zzic, zzid, zzie, zzif, zzig, zzih, zzii, zzij, zzik, zzil, zzim, zzin, zzio, zzip, zziq, zzir, zzis, zzit, zziu, zziv, zziw, zzix, zziy, zziz, zzja, zzjb, zzjc, zzjd, zzje, zzjf, zzjg, zzjh, zzji, zzjj, zzjk, zzjl, zzjm, zzjn, zzjo, zzjp, zzjq, zzjr, zzjs, zzjt, zzju, zzjv, zzjw, zzjx, zzjy, zzjz, zzka, zzkb, zzkc, zzkd, zzke, zzkf, zzkg, zzkh, zzki, zzkj, zzkk, zzkl, zzkm, zzkn, zzko, zzkp, zzkq, zzkr, zzks, zzkt, zzku, zzkv, zzkw, zzkx, zzky, zzkz, zzla, zzlb, zzlc, zzld, zzle, zzlf, zzlg, zzlh, zzli, zzlj, zzlk, zzll, zzlm, zzln, zzlo, ↓zzlp, ↓zzlq, ↓zzlr, ↓zzls, ↓zzlt, ↓zzlu, ↓zzlv, ↓zzlw, ↓zzlx, ↓zzly, ↓zzlz, ↓zzma, zzmb, zzmc, ↓zzmd, ↓zzme, ↓zzmf, ↓zzmg, ↓zzmh, zzmi, zzmj, zzmk, zzml, zzmm, zzmn, zzmo, zzmp, zzmq, zzmr, zzms, Option.bind_some, Option.map_some, ↓zzmt, ↓zzmu, ↓zzmv, ↓zzmw, ↓zzmx, ↓zzmy, ↓zzmz, ↓zzna, ↓zznb, ↓zznc, ↓zznd, ↓zzne, ↓zznf, ↓zzng, ↓zznh, ↓zzni, ↓zznj, ↓zznk, ↓zznl]
        refine take_ok (by assumption) (by omega) (by omega) ?_; intro tt _ ht1 ht2 _; simp only [↓zzaa, ↓zzab, ↓zzac, ↓zzad, ↓zzae, ↓zzaf, ↓zzag, ↓zzah, ↓zzai, ↓zzaj, ↓zzak, ↓zzal, ↓zzam, ↓zzan, ↓zzao, ↓zzap, ↓zzaq, ↓zzar, ↓zzas, ↓zzat, ↓zzau, ↓zzav, ↓zzaw, ↓zzax, ↓zzay, ↓zzaz, ↓zzba, ↓zzbb, ↓zzbc, ↓zzbd, ↓zzbe, ↓zzbf, ↓zzbg, ↓zzbh, ↓zzbi, ↓zzbj, ↓zzbk, ↓zzbl, ↓zzbm, ↓zzbn, ↓zzbo, ↓zzbp, ↓zzbq, ↓zzbr, ↓zzbs, ↓zzbt, ↓zzbu, ↓zzbv, ↓zzbw, ↓zzbx, ↓zzby, ↓zzbz, ↓zzca, ↓zzcb, ↓zzcc, ↓zzcd, ↓zzce, ↓zzcf, ↓zzcg, ↓zzch, ↓zzci, ↓zzcj, ↓zzck, ↓zzcl, ↓zzcm, ↓zzcn, ↓zzco, ↓zzcp, ↓zzcq, ↓zzcr, ↓zzcs, ↓zzct, ↓zzcu, ↓zzcv, ↓zzcw, ↓zzcx, ↓zzcy, ↓zzcz, ↓zzda, ↓zzdb, ↓zzdc, ↓zzdd, zzde, ↓zzdf, ↓zzdg, ↓zzdh, ↓zzdi, ↓zzdj, ↓zzdk, ↓zzdl, ↓zzdm, ↓zzdn, ↓zzdo, ↓zzdp, ↓zzdq, zzdr, zzds, zzdt, zzdu, zzdv, zzdw, zzdx, zzdy, zzdz, zzea, zzeb, oEq, oNe, eqT, oAdd, oNeg, oAbs, oMax2, oMin2, oInt, oLen, oIsN, oNotN, oIn, oNin, inT, eqF, oIsi, oIsi2, oList, oTuple, seqT, zp, enm, two, three, ioFind, ioCount, brOk, Bop.still, Bop.isI, T.ow, T.owl, T.nob, T.nobl, T.nfz, T.nfzl, T.fz, T.fzl, Bop.fit, Bop.res, Bop.bo, zzec, zzed, zzee, zzef, zzeg, zzeh, zzei, zzej, zzef, zzeg, zzeh, zzei, zzek, zzel, List.all_cons, List.all_nil, List.any_cons, List.any_nil, zzem, zzen, zzeo, zzep, zzeq, zzer, zzes, zzet, Bool.not_false, Bool.not_true, Bool.or_false, Bool.false_or, Bool.and_true, Bool.true_and, Bool.or_true, Bool.true_or, Bool.and_false, Bool.false_and, Bool.not_not, Bool.not_eq_true', decide_eq_false_iff_not, Bool.and_eq_true, Bool.or_eq_true, true_or, or_true, false_or, or_false, true_and, and_true, false_and, and_false, Bool.false_eq_true, false_imp_iff, if_true, if_false, forall_const, implies_true, Option.some.injEq, Option.isSome_some, forall_eq', reduceCtorEq, List.cons_append, List.nil_append, List.length_cons, List.length_nil, List.length_map, List.length_append, List.length_range, zzeu, zzev, zzew, List.replicate, List.flatten_cons, List.flatten_nil, List.append_nil, Nat.reduceAdd, Nat.reduceSub, Nat.reduceLT, Nat.reduceLeDiff, List.set_cons_zero, List.set_cons_succ, decide_eq_true_eq, decide_true, decide_false, Int.reduceLT, Int.reduceLE, Int.reduceMul, Int.reducePow, Int.reduceToNat, Int.reduceAdd, Int.reduceSub, Int.reduceNeg, Int.reduceEq, Nat.reducePow, zzex, zzey, zzez, Nat.zero_add, big, zzfa, zzfb, String.reduceEq, wipeE, zzfc, zzfd, zzah, zzai, Option.getD_some, ↓zzfe, ↓zzff, ↓zzfg, ↓zzfh, ↓zzfi, ↓zzfj, ↓zzfk, ↓zzfl, ↓zzfm, ↓zzfn, ↓zzfo, ↓zzfp, ↓zzfq, ↓zzfr, ↓zzfs, ↓zzft, ↓zzfu, ↓zzfv, ↓zzfw, ↓zzfx, ↓zzfy, ↓zzfz, ↓zzga, ↓zzgb, ↓zzgc, ↓zzgd, ↓zzge, ↓zzgf, ↓zzgg, ↓zzgh, ↓zzgi, ↓zzgj, ↓zzgk, ↓zzgl, ↓zzgm, ↓zzgn, ↓zzgo, ↓zzgp, ↓zzgq, ↓zzgr, ↓zzgs, ↓zzgt, ↓zzgu, ↓zzgv, ↓zzgw, ↓zzgx, ↓zzgy, ↓zzgz, ↓zzha, ↓zzhb, ↓zzhc, ↓zzhd, ↓zzhe, ↓zzhf, ↓zzhg, ↓zzhh, ↓zzhi, ↓zzhj, ↓zzhk, ↓zzhl, ↓zzhm, ↓zzhn, ↓zzho, ↓zzhp, ↓zzhq, ↓zzhr, ↓zzhs, ↓zzht, ↓zzhl, zzhu, zzhv, zzhw, zzhx, zzhy, zzhz, zzia, zzib, zzic, zzid, zzie, zzif, zzig, zzih, zzii, zzij, zzik, zzil, zzim, zzin, zzio, zzip, zziq, zzir, zzis, zzit, zziu, zziv, zziw, zzix, zziy, zziz, zzja, zzjb, zzjc, zzjd, zzje, zzjf, zzjg, zzjh, zzji, zzjj, zzjk, zzjl, zzjm, zzjn, zzjo, zzjp, zzjq, zzjr, zzjs, zzjt, zzju, zzjv, zzjw, zzjx, zzjy, zzjz, zzka, zzkb, zzkc, zzkd, zzke, zzkf, zzkg, zzkh, zzki, zzkj, zzkk, zzkl, zzkm, zzkn, zzko, zzkp, zzkq, zzkr, zzks, zzkt, zzku, zzkv, zzkw, zzkx, zzky, zzkz, zzla, zzlb, zzlc, zzld, zzle, zzlf, zzlg, zzlh, zzli, zzlj, zzlk, zzll, zzlm, zzln, zzlo, ↓zzlp, ↓zzlq, ↓zzlr, ↓zzls, ↓zzlt, ↓zzlu, ↓zzlv, ↓zzlw, ↓zzlx, ↓zzly, ↓zzlz, ↓zzma, zzmb, zzmc, ↓zzmd, ↓zzme, ↓zzmf, ↓zzmg, ↓zzmh, zzmi, zzmj, zzmk, zzml, zzmm, zzmn, zzmo, zzmp, zzmq, zzmr, zzms, Option.bind_some, Option.map_some, ↓zzmt, ↓zzmu, ↓zzmv, ↓zzmw, ↓zzmx, ↓zzmy, ↓zzmz, ↓zzna, ↓zznb, ↓zznc, ↓zznd, ↓zzne, ↓zznf, ↓zzng, ↓zznh, ↓zzni, ↓zznj, ↓zznk, ↓zznl]
        refine take_ok (by assumption) (by omega) (by omega) ?_; intro n7 _ hn1 hn2 _; simp only [↓zzaa, ↓zzab, ↓zzac, ↓zzad, ↓zzae, ↓zzaf, ↓zzag, ↓zzah, ↓zzai, ↓zzaj, ↓zzak, ↓zzal, ↓zzam, ↓zzan, ↓zzao, ↓zzap, ↓zzaq, ↓zzar, ↓zzas, ↓zzat, ↓zzau, ↓zzav, ↓zzaw, ↓zzax, ↓zzay, ↓zzaz, ↓zzba, ↓zzbb, ↓zzbc, ↓zzbd, ↓zzbe, ↓zzbf, ↓zzbg, ↓zzbh, ↓zzbi, ↓zzbj, ↓zzbk, ↓zzbl, ↓zzbm, ↓zzbn, ↓zzbo, ↓zzbp, ↓zzbq, ↓zzbr, ↓zzbs, ↓zzbt, ↓zzbu, ↓zzbv, ↓zzbw, ↓zzbx, ↓zzby, ↓zzbz, ↓zzca, ↓zzcb, ↓zzcc, ↓zzcd, ↓zzce, ↓zzcf, ↓zzcg, ↓zzch, ↓zzci, ↓zzcj, ↓zzck, ↓zzcl, ↓zzcm, ↓zzcn, ↓zzco, ↓zzcp, ↓zzcq, ↓zzcr, ↓zzcs, ↓zzct, ↓zzcu, ↓zzcv, ↓zzcw, ↓zzcx, ↓zzcy, ↓zzcz, ↓zzda, ↓zzdb, ↓zzdc, ↓zzdd, zzde, ↓zzdf, ↓zzdg, ↓zzdh, ↓zzdi, ↓zzdj, ↓zzdk, ↓zzdl, ↓zzdm, ↓zzdn, ↓zzdo, ↓zzdp, ↓zzdq, zzdr, zzds, zzdt, zzdu, zzdv, zzdw, zzdx, zzdy, zzdz, zzea, zzeb, oEq, oNe, eqT, oAdd, oNeg, oAbs, oMax2, oMin2, oInt, oLen, oIsN, oNotN, oIn, oNin, inT, eqF, oIsi, oIsi2, oList, oTuple, seqT, zp, enm, two, three, ioFind, ioCount, brOk, Bop.still, Bop.isI, T.ow, T.owl, T.nob, T.nobl, T.nfz, T.nfzl, T.fz, T.fzl, Bop.fit, Bop.res, Bop.bo, zzec, zzed, zzee, zzef, zzeg, zzeh, zzei, zzej, zzef, zzeg, zzeh, zzei, zzek, zzel, List.all_cons, List.all_nil, List.any_cons, List.any_nil, zzem, zzen, zzeo, zzep, zzeq, zzer, zzes, zzet, Bool.not_false, Bool.not_true, Bool.or_false, Bool.false_or, Bool.and_true, Bool.true_and, Bool.or_true, Bool.true_or, Bool.and_false, Bool.false_and, Bool.not_not, Bool.not_eq_true', decide_eq_false_iff_not, Bool.and_eq_true, Bool.or_eq_true, true_or, or_true, false_or, or_false, true_and, and_true, false_and, and_false, Bool.false_eq_true, false_imp_iff, if_true, if_false, forall_const, implies_true, Option.some.injEq, Option.isSome_some, forall_eq', reduceCtorEq, List.cons_append, List.nil_append, List.length_cons, List.length_nil, List.length_map, List.length_append, List.length_range, zzeu, zzev, zzew, List.replicate, List.flatten_cons, List.flatten_nil, List.append_nil, Nat.reduceAdd, Nat.reduceSub, Nat.reduceLT, Nat.reduceLeDiff, List.set_cons_zero, List.set_cons_succ, decide_eq_true_eq, decide_true, decide_false, Int.reduceLT, Int.reduceLE, Int.reduceMul, Int.reducePow, Int.reduceToNat, Int.reduceAdd, Int.reduceSub, Int.reduceNeg, Int.reduceEq, Nat.reducePow, zzex, zzey, zzez, Nat.zero_add, big, zzfa, zzfb, String.reduceEq, wipeE, zzfc, zzfd, zzah, zzai, Option.getD_some, ↓zzfe, ↓zzff, ↓zzfg, ↓zzfh, ↓zzfi, ↓zzfj, ↓zzfk, ↓zzfl, ↓zzfm, ↓zzfn, ↓zzfo, ↓zzfp, ↓zzfq, ↓zzfr, ↓zzfs, ↓zzft, ↓zzfu, ↓zzfv, ↓zzfw, ↓zzfx, ↓zzfy, ↓zzfz, ↓zzga, ↓zzgb, ↓zzgc, ↓zzgd, ↓zzge, ↓zzgf, ↓zzgg, ↓zzgh, ↓zzgi, ↓zzgj, ↓zzgk, ↓zzgl, ↓zzgm, ↓zzgn, ↓zzgo, ↓zzgp, ↓zzgq, ↓zzgr, ↓zzgs, ↓zzgt, ↓zzgu, ↓zzgv, ↓zzgw, ↓zzgx, ↓zzgy, ↓zzgz, ↓zzha, ↓zzhb, ↓zzhc, ↓zzhd, ↓zzhe, ↓zzhf, ↓zzhg, ↓zzhh, ↓zzhi, ↓zzhj, ↓zzhk, ↓zzhl, ↓zzhm, ↓zzhn, ↓zzho, ↓zzhp, ↓zzhq, ↓zzhr, ↓zzhs, ↓zzht, ↓zzhl, zzhu, zzhv, zzhw, zzhx, zzhy, zzhz, zzia, zzib, zzic, zzid, zzie, zzif, zzig, zzih, zzii, zzij, zzik, zzil, zzim, zzin, zzio, zzip, zziq, zzir, zzis, zzit, zziu, zziv, zziw, zzix, zziy, zziz, zzja, zzjb, zzjc, zzjd, zzje, zzjf, zzjg, zzjh, zzji, zzjj, zzjk, zzjl, zzjm, zzjn, zzjo, zzjp, zzjq, zzjr, zzjs, zzjt, zzju, zzjv, zzjw, zzjx, zzjy, zzjz, zzka, zzkb, zzkc, zzkd, zzke, zzkf, zzkg, zzkh, zzki, zzkj, zzkk, zzkl, zzkm, zzkn, zzko, zzkp, zzkq, zzkr, zzks, zzkt, zzku, zzkv, zzkw, zzkx, zzky, zzkz, zzla, zzlb, zzlc, zzld, zzle, zzlf, zzlg, zzlh, zzli, zzlj, zzlk, zzll, zzlm, zzln, zzlo, ↓zzlp, ↓zzlq, ↓zzlr, ↓zzls, ↓zzlt, ↓zzlu, ↓zzlv, ↓zzlw, ↓zzlx, ↓zzly, ↓zzlz, ↓zzma, zzmb, zzmc, ↓zzmd, ↓zzme, ↓zzmf, ↓zzmg, ↓zzmh, zzmi, zzmj, zzmk, zzml, zzmm, zzmn, zzmo, zzmp, zzmq, zzmr, zzms, Option.bind_some, Option.map_some, ↓zzmt, ↓zzmu, ↓zzmv, ↓zzmw, ↓zzmx, ↓zzmy, ↓zzmz, ↓zzna, ↓zznb, ↓zznc, ↓zznd, ↓zzne, ↓zznf, ↓zzng, ↓zznh, ↓zzni, ↓zznj, ↓zznk, ↓zznl]
        generalize hnr : (if (if (k : Int) + n7 - 2 < m then (k : Int) + n7 - 2 else m) > 0 then _ else (0 : Int)) = near
        have hnear : 0 ≤ near ∧ near ≤ m := by subst hnr; split <;> split <;> omega
        refine take_ok (by assumption) (by omega) (by omega) ?_; intro x100 _ hx1 hx2 _; simp only [↓zzaa, ↓zzab, ↓zzac, ↓zzad, ↓zzae, ↓zzaf, ↓zzag, ↓zzah, ↓zzai, ↓zzaj, ↓zzak, ↓zzal, ↓zzam, ↓zzan, ↓zzao, ↓zzap, ↓zzaq, ↓zzar, ↓zzas, ↓zzat, ↓zzau, ↓zzav, ↓zzaw, ↓zzax, ↓zzay, ↓zzaz, ↓zzba, ↓zzbb, ↓zzbc, ↓zzbd, ↓zzbe, ↓zzbf, ↓zzbg, ↓zzbh, ↓zzbi, ↓zzbj, ↓zzbk, ↓zzbl, ↓zzbm, ↓zzbn, ↓zzbo, ↓zzbp, ↓zzbq, ↓zzbr, ↓zzbs, ↓zzbt, ↓zzbu, ↓zzbv, ↓zzbw, ↓zzbx, ↓zzby, ↓zzbz, ↓zzca, ↓zzcb, ↓zzcc, ↓zzcd, ↓zzce, ↓zzcf, ↓zzcg, ↓zzch, ↓zzci, ↓zzcj, ↓zzck, ↓zzcl, ↓zzcm, ↓zzcn, ↓zzco, ↓zzcp, ↓zzcq, ↓zzcr, ↓zzcs, ↓zzct, ↓zzcu, ↓zzcv, ↓zzcw, ↓zzcx, ↓zzcy, ↓zzcz, ↓zzda, ↓zzdb, ↓zzdc, ↓zzdd, zzde, ↓zzdf, ↓zzdg, ↓zzdh, ↓zzdi, ↓zzdj, ↓zzdk, ↓zzdl, ↓zzdm, ↓zzdn, ↓zzdo, ↓zzdp, ↓zzdq, zzdr, zzds, zzdt, zzdu, zzdv, zzdw, zzdx, zzdy, zzdz, zzea, zzeb, oEq, oNe, eqT, oAdd, oNeg, oAbs, oMax2, oMin2, oInt, oLen, oIsN, oNotN, oIn, oNin, inT, eqF, oIsi, oIsi2, oList, oTuple, seqT, zp, enm, two, three, ioFind, ioCount, brOk, Bop.still, Bop.isI, T.ow, T.owl, T.nob, T.nobl, T.nfz, T.nfzl, T.fz, T.fzl, Bop.fit, Bop.res, Bop.bo, zzec, zzed, zzee, zzef, zzeg, zzeh, zzei, zzej, zzef, zzeg, zzeh, zzei, zzek, zzel, List.all_cons, List.all_nil, List.any_cons, List.any_nil, zzem, zzen, zzeo, zzep, zzeq, zzer, zzes, zzet, Bool.not_false, Bool.not_true, Bool.or_false, Bool.false_or, Bool.and_true, Bool.true_and, Bool.or_true, Bool.true_or, Bool.and_false, Bool.false_and, Bool.not_not, Bool.not_eq_true', decide_eq_false_iff_not, Bool.and_eq_true, Bool.or_eq_true, true_or, or_true, false_or, or_false, true_and, and_true, false_and, and_false, Bool.false_eq_true, false_imp_iff, if_true, if_false, forall_const, implies_true, Option.some.injEq, Option.isSome_some, forall_eq', reduceCtorEq, List.cons_append, List.nil_append, List.length_cons, List.length_nil, List.length_map, List.length_append, List.length_range, zzeu, zzev, zzew, List.replicate, List.flatten_cons, List.flatten_nil, List.append_nil, Nat.reduceAdd, Nat.reduceSub, Nat.reduceLT, Nat.reduceLeDiff, List.set_cons_zero, List.set_cons_succ, decide_eq_true_eq, decide_true, decide_false, Int.reduceLT, Int.reduceLE, Int.reduceMul, Int.reducePow, Int.reduceToNat, Int.reduceAdd, Int.reduceSub, Int.reduceNeg, Int.reduceEq, Nat.reducePow, zzex, zzey, zzez, Nat.zero_add, big, zzfa, zzfb, String.reduceEq, wipeE, zzfc, zzfd, zzah, zzai, Option.getD_some, ↓zzfe, ↓zzff, ↓zzfg, ↓zzfh, ↓zzfi, ↓zzfj, ↓zzfk, ↓zzfl, ↓zzfm, ↓zzfn, ↓zzfo, ↓zzfp, ↓zzfq, ↓zzfr, ↓zzfs, ↓zzft, ↓zzfu, ↓zzfv, ↓zzfw, ↓zzfx, ↓zzfy, ↓zzfz, ↓zzga, ↓zzgb, ↓zzgc, ↓zzgd, ↓zzge, ↓zzgf, ↓zzgg, ↓zzgh, ↓zzgi, ↓zzgj, ↓zzgk, ↓zzgl, ↓zzgm, ↓zzgn, ↓zzgo, ↓zzgp, ↓zzgq, ↓zzgr, ↓zzgs, ↓zzgt, ↓zzgu, ↓zzgv, ↓zzgw, ↓zzgx, ↓zzgy, ↓zzgz, ↓zzha, ↓zzhb, ↓zzhc, ↓zzhd, ↓zzhe, ↓zzhf, ↓zzhg, ↓zzhh, ↓zzhi, ↓zzhj, ↓zzhk, ↓zzhl, ↓zzhm, ↓zzhn, ↓zzho, ↓zzhp, ↓zzhq, ↓zzhr, ↓zzhs, ↓zzht, ↓zzhl, zzhu, zzhv, zzhw, zzhx, zzhy, zzhz, zzia, zzib, zzic, zzid, zzie, zzif, zzig, zzih, zzii, zzij, zzik, zzil, zzim, zzin, zzio, zzip, zziq, zzir, zzis, zzit, zziu, zziv, zziw, zzix, zziy, zziz, zzja, zzjb, zzjc, zzjd, zzje, zzjf, zzjg, zzjh, zzji, zzjj, zzjk, zzjl, zzjm, zzjn, zzjo, zzjp, zzjq, zzjr, zzjs, zzjt, zzju, zzjv, zzjw, zzjx, zzjy, zzjz, zzka, zzkb, zzkc, zzkd, zzke, zzkf, zzkg, zzkh, zzki, zzkj, zzkk, zzkl, zzkm, zzkn, zzko, zzkp, zzkq, zzkr, zzks, zzkt, zzku, zzkv, zzkw, zzkx, zzky, zzkz, zzla, zzlb, zzlc, zzld, zzle, zzlf, zzlg, zzlh, zzli, zzlj, zzlk, zzll, zzlm, zzln, zzlo, ↓zzlp, ↓zzlq, ↓zzlr, ↓zzls, ↓zzlt, ↓zzlu, ↓zzlv, ↓zzlw, ↓zzlx, ↓zzly, ↓zzlz, ↓zzma, zzmb, zzmc, ↓zzmd, ↓zzme, ↓zzmf, ↓zzmg, ↓zzmh, zzmi, zzmj, zzmk, zzml, zzmm, zzmn, zzmo, zzmp, zzmq, zzmr, zzms, Option.bind_some, Option.map_some, ↓zzmt, ↓zzmu, ↓zzmv, ↓zzmw, ↓zzmx, ↓zzmy, ↓zzmz, ↓zzna, ↓zznb, ↓zznc, ↓zznd, ↓zzne, ↓zznf, ↓zzng, ↓zznh, ↓zzni, ↓zznj, ↓zznk, ↓zznl]
        refine take_ok (by assumption) (by omega) (by omega) ?_; intro b2 _ hb1 hb2 _; simp only [↓zzaa, ↓zzab, ↓zzac, ↓zzad, ↓zzae, ↓zzaf, ↓zzag, ↓zzah, ↓zzai, ↓zzaj, ↓zzak, ↓zzal, ↓zzam, ↓zzan, ↓zzao, ↓zzap, ↓zzaq, ↓zzar, ↓zzas, ↓zzat, ↓zzau, ↓zzav, ↓zzaw, ↓zzax, ↓zzay, ↓zzaz, ↓zzba, ↓zzbb, ↓zzbc, ↓zzbd, ↓zzbe, ↓zzbf, ↓zzbg, ↓zzbh, ↓zzbi, ↓zzbj, ↓zzbk, ↓zzbl, ↓zzbm, ↓zzbn, ↓zzbo, ↓zzbp, ↓zzbq, ↓zzbr, ↓zzbs, ↓zzbt, ↓zzbu, ↓zzbv, ↓zzbw, ↓zzbx, ↓zzby, ↓zzbz, ↓zzca, ↓zzcb, ↓zzcc, ↓zzcd, ↓zzce, ↓zzcf, ↓zzcg, ↓zzch, ↓zzci, ↓zzcj, ↓zzck, ↓zzcl, ↓zzcm, ↓zzcn, ↓zzco, ↓zzcp, ↓zzcq, ↓zzcr, ↓zzcs, ↓zzct, ↓zzcu, ↓zzcv, ↓zzcw, ↓zzcx, ↓zzcy, ↓zzcz, ↓zzda, ↓zzdb, ↓zzdc, ↓zzdd, zzde, ↓zzdf, ↓zzdg, ↓zzdh, ↓zzdi, ↓zzdj, ↓zzdk, ↓zzdl, ↓zzdm, ↓zzdn, ↓zzdo, ↓zzdp, ↓zzdq, zzdr, zzds, zzdt, zzdu, zzdv, zzdw, zzdx, zzdy, zzdz, zzea, zzeb, oEq, oNe, eqT, oAdd, oNeg, oAbs, oMax2, oMin2, oInt, oLen, oIsN, oNotN, oIn, oNin, inT, eqF, oIsi, oIsi2, oList, oTuple, seqT, zp, enm, two, three, ioFind, ioCount, brOk, Bop.still, Bop.isI, T.ow, T.owl, T.nob, T.nobl, T.nfz, T.nfzl, T.fz, T.fzl, Bop.fit, Bop.res, Bop.bo, zzec, zzed, zzee, zzef, zzeg, zzeh, zzei, zzej, zzef, zzeg, zzeh, zzei, zzek, zzel, List.all_cons, List.all_nil, List.any_cons, List.any_nil, zzem, zzen, zzeo, zzep, zzeq, zzer, zzes, zzet, Bool.not_false, Bool.not_true, Bool.or_false, Bool.false_or, Bool.and_true, Bool.true_and, Bool.or_true, Bool.true_or, Bool.and_false, Bool.false_and, Bool.not_not, Bool.not_eq_true', decide_eq_false_iff_not, Bool.and_eq_true, Bool.or_eq_true, true_or, or_true, false_or, or_false, true_and, and_true, false_and, and_false, Bool.false_eq_true, false_imp_iff, if_true, if_false, forall_const, implies_true, Option.some.injEq, Option.isSome_some, forall_eq', reduceCtorEq, List.cons_append, List.nil_append, List.length_cons, List.length_nil, List.length_map, List.length_append, List.length_range, zzeu, zzev, zzew, List.replicate, List.flatten_cons, List.flatten_nil, List.append_nil, Nat.reduceAdd, Nat.reduceSub, Nat.reduceLT, Nat.reduceLeDiff, List.set_cons_zero, List.set_cons_succ, decide_eq_true_eq, decide_true, decide_false, Int.reduceLT, Int.reduceLE, Int.reduceMul, Int.reducePow, Int.reduceToNat, Int.reduceAdd, Int.reduceSub, Int.reduceNeg, Int.reduceEq, Nat.reducePow, zzex, zzey, zzez, Nat.zero_add, big, zzfa, zzfb, String.reduceEq, wipeE, zzfc, zzfd, zzah, zzai, Option.getD_some, ↓zzfe, ↓zzff, ↓zzfg, ↓zzfh, ↓zzfi, ↓zzfj, ↓zzfk, ↓zzfl, ↓zzfm, ↓zzfn, ↓zzfo, ↓zzfp, ↓zzfq, ↓zzfr, ↓zzfs, ↓zzft, ↓zzfu, ↓zzfv, ↓zzfw, ↓zzfx, ↓zzfy, ↓zzfz, ↓zzga, ↓zzgb, ↓zzgc, ↓zzgd, ↓zzge, ↓zzgf, ↓zzgg, ↓zzgh, ↓zzgi, ↓zzgj, ↓zzgk, ↓zzgl, ↓zzgm, ↓zzgn, ↓zzgo, ↓zzgp, ↓zzgq, ↓zzgr, ↓zzgs, ↓zzgt, ↓zzgu, ↓zzgv, ↓zzgw, ↓zzgx, ↓zzgy, ↓zzgz, ↓zzha, ↓zzhb, ↓zzhc, ↓zzhd, ↓zzhe, ↓zzhf, ↓zzhg, ↓zzhh, ↓zzhi, ↓zzhj, ↓zzhk, ↓zzhl, ↓zzhm, ↓zzhn, ↓zzho, ↓zzhp, ↓zzhq, ↓zzhr, ↓zzhs, ↓zzht, ↓zzhl, zzhu, zzhv, zzhw, zzhx, zzhy, zzhz, zzia, zzib, zzic, zzid, zzie, zzif, zzig, zzih, zzii, zzij, zzik, zzil, zzim, zzin, zzio, zzip, zziq, zzir, zzis, zzit, zziu, zziv, zziw, zzix, zziy, zziz, zzja, zzjb, zzjc, zzjd, zzje, zzjf, zzjg, zzjh, zzji, zzjj, zzjk, zzjl, zzjm, zzjn, zzjo, zzjp, zzjq, zzjr, zzjs, zzjt, zzju, zzjv, zzjw, zzjx, zzjy, zzjz, zzka, zzkb, zzkc, zzkd, zzke, zzkf, zzkg, zzkh, zzki, zzkj, zzkk, zzkl, zzkm, zzkn, zzko, zzkp, zzkq, zzkr, zzks, zzkt, zzku, zzkv, zzkw, zzkx, zzky, zzkz, zzla, zzlb, zzlc, zzld, zzle, zzlf, zzlg, zzlh, zzli, zzlj, zzlk, zzll, zzlm, zzln, zzlo, ↓zzlp, ↓zzlq, ↓zzlr, ↓zzls, ↓zzlt, ↓zzlu, ↓zzlv, ↓zzlw, ↓zzlx, ↓zzly, ↓zzlz, ↓zzma, zzmb, zzmc, ↓zzmd, ↓zzme, ↓zzmf, ↓zzmg, ↓zzmh, zzmi, zzmj, zzmk, zzml, zzmm, zzmn, zzmo, zzmp, zzmq, zzmr, zzms, Option.bind_some, Option.map_some, ↓zzmt, ↓zzmu, ↓zzmv, ↓zzmw, ↓zzmx, ↓zzmy, ↓zzmz, ↓zzna, ↓zznb, ↓zznc, ↓zznd, ↓zzne, ↓zznf, ↓zzng, ↓zznh, ↓zzni, ↓zznj, ↓zznk, ↓zznl]
        refine pick (fun t => ∃ row : Row, t = row.t ∧ row.ok m) (al_cons ⟨.go tt, rfl, by omega, by omega⟩ (al_cons ⟨.stop, rfl, trivial⟩ al_nil)) (by omega) (by simp; omega) ?_
        rintro _ ⟨rw1, rfl, hrw⟩
        simp only [↓zzaa, ↓zzab, ↓zzac, ↓zzad, ↓zzae, ↓zzaf, ↓zzag, ↓zzah, ↓zzai, ↓zzaj, ↓zzak, ↓zzal, ↓zzam, ↓zzan, ↓zzao, ↓zzap, ↓zzaq, ↓zzar, ↓zzas, ↓zzat, ↓zzau, ↓zzav, ↓zzaw, ↓zzax, ↓zzay, ↓zzaz, ↓zzba, ↓zzbb, ↓zzbc, ↓zzbd, ↓zzbe, ↓zzbf, ↓zzbg, ↓zzbh, ↓zzbi, ↓zzbj, ↓zzbk, ↓zzbl, ↓zzbm, ↓zzbn, ↓zzbo, ↓zzbp, ↓zzbq, ↓zzbr, ↓zzbs, ↓zzbt, ↓zzbu, ↓zzbv, ↓zzbw, ↓zzbx, ↓zzby, ↓zzbz, ↓zzca, ↓zzcb, ↓zzcc, ↓zzcd, ↓zzce, ↓zzcf, ↓zzcg, ↓zzch, ↓zzci, ↓zzcj, ↓zzck, ↓zzcl, ↓zzcm, ↓zzcn, ↓zzco, ↓zzcp, ↓zzcq, ↓zzcr, ↓zzcs, ↓zzct, ↓zzcu, ↓zzcv, ↓zzcw, ↓zzcx, ↓zzcy, ↓zzcz, ↓zzda, ↓zzdb, ↓zzdc, ↓zzdd, zzde, ↓zzdf, ↓zzdg, ↓zzdh, ↓zzdi, ↓zzdj, ↓zzdk, ↓zzdl, ↓zzdm, ↓zzdn, ↓zzdo, ↓zzdp, ↓zzdq, zzdr, zzds, zzdt, zzdu, zzdv, zzdw, zzdx, zzdy, zzdz, zzea, zzeb, oEq, oNe, eqT, oAdd, oNeg, oAbs, oMax2, oMin2, oInt, oLen, oIsN, oNotN, oIn, oNin, inT, eqF, oIsi, oIsi2, oList, oTuple, seqT, zp, enm, two, three, ioFind, ioCount, brOk, Bop.still, Bop.isI, T.ow, T.owl, T.nob, T.nobl, T.nfz, T.nfzl, T.fz, T.fzl, Bop.fit, Bop.res, Bop.bo, zzec, zzed, zzee, zzef, zzeg, zzeh, zzei, zzej, zzef, zzeg, zzeh, zzei, zzek, zzel, List.all_cons, List.all_nil, List.any_cons, List.any_nil, zzem, zzen, zzeo, zzep, zzeq, zzer, zzes, zzet, Bool.not_false, Bool.not_true, Bool.or_false, Bool.false_or, Bool.and_true, Bool.true_and, Bool.or_true, Bool.true_or, Bool.and_false, Bool.false_and, Bool.not_not, Bool.not_eq_true', decide_eq_false_iff_not, Bool.and_eq_true, Bool.or_eq_true, true_or, or_true, false_or, or_false, true_and, and_true, false_and, and_false, Bool.false_eq_true, false_imp_iff, if_true, if_false, forall_const, implies_true, Option.some.injEq, Option.isSome_some, forall_eq', reduceCtorEq, List.cons_append, List.nil_append, List.length_cons, List.length_nil, List.length_map, List.length_append, List.length_range, zzeu, zzev, zzew, List.replicate, List.flatten_cons, List.flatten_nil, List.append_nil, Nat.reduceAdd, Nat.reduceSub, Nat.reduceLT, Nat.reduceLeDiff, List.set_cons_zero, List.set_cons_succ, decide_eq_true_eq, decide_true, decide_false, Int.reduceLT, Int.reduceLE, Int.reduceMul, Int.reducePow, Int.reduceToNat, Int.reduceAdd, Int.reduceSub, Int.reduceNeg, Int.reduceEq, Nat.reducePow, zzex, zzey, zzez, Nat.zero_add, big, zzfa, zzfb, String.reduceEq, wipeE, zzfc, zzfd, zzah, zzai, Option.getD_some, ↓zzfe, ↓zzff, ↓zzfg, ↓zzfh, ↓zzfi, ↓zzfj, ↓zzfk, ↓zzfl, ↓zzfm, ↓zzfn, ↓zzfo, ↓zzfp, ↓zzfq, ↓zzfr, ↓zzfs, ↓zzft, ↓zzfu, ↓zzfv, ↓zzfw, ↓zzfx, ↓zzfy, ↓zzfz, ↓zzga, ↓zzgb, ↓zzgc, ↓zzgd, ↓zzge, ↓zzgf, ↓zzgg, ↓zzgh, ↓zzgi, ↓zzgj, ↓zzgk, ↓zzgl, ↓zzgm, ↓zzgn, ↓zzgo, ↓zzgp, ↓zzgq, ↓zzgr, ↓zzgs, ↓zzgt, ↓zzgu, ↓zzgv, ↓zzgw, ↓zzgx, ↓zzgy, ↓zzgz, ↓zzha, ↓zzhb, ↓zzhc, ↓zzhd, ↓zzhe, ↓zzhf, ↓zzhg, ↓zzhh, ↓zzhi, ↓zzhj, ↓zzhk, ↓zzhl, ↓zzhm, ↓zzhn, ↓zzho, ↓zzhp, ↓zzhq, ↓zzhr, ↓zzhs, ↓zzht, ↓zzhl, zzhu, zzhv, zzhw, zzhx, zzhy, zzhz, zzia, zzib, zzic, zzid, zzie, zzif, zzig, zzih, zzii, zzij, zzik, zzil, zzim, zzin, zzio, zzip, zziq, zzir, zzis, zzit, zziu, zziv, zziw, zzix, zziy, zziz, zzja, zzjb, zzjc, zzjd, zzje, zzjf, zzjg, zzjh, zzji, zzjj, zzjk, zzjl, zzjm, zzjn, zzjo, zzjp, zzjq, zzjr, zzjs, zzjt, zzju, zzjv, zzjw, zzjx, zzjy, zzjz, zzka, zzkb, zzkc, zzkd, zzke, zzkf, zzkg, zzkh, zzki, zzkj, zzkk, zzkl, zzkm, zzkn, zzko, zzkp, zzkq, zzkr, zzks, zzkt, zzku, zzkv, zzkw, zzkx, zzky, zzkz, zzla, zzlb, zzlc, zzld, zzle, zzlf, zzlg, zzlh, zzli, zzlj, zzlk, zzll, zzlm, zzln, zzlo, ↓zzlp, ↓zzlq, ↓zzlr, ↓zzls, ↓zzlt, ↓zzlu, ↓zzlv, ↓zzlw, ↓zzlx, ↓zzly, ↓zzlz, ↓zzma, zzmb, zzmc, ↓zzmd, ↓zzme, ↓zzmf, ↓zzmg, ↓zzmh, zzmi, zzmj, zzmk, zzml, zzmm, zzmn, zzmo, zzmp, zzmq, zzmr, zzms, Option.bind_some, Option.map_some, ↓zzmt, ↓zzmu, ↓zzmv, ↓zzmw, ↓zzmx, ↓zzmy, ↓zzmz, ↓zzna, ↓zznb, ↓zznc, ↓zznd, ↓zzne, ↓zznf, ↓zzng, ↓zznh, ↓zzni, ↓zznj, ↓zznk, ↓zznl, Row.ow, Row.nob, Row.nfz, Row.fz]
        refine pick (fun t => ∃ row : Row, t = row.t ∧ row.ok m) (al_cons ⟨.set rr x100, rfl, ⟨hr1, hr2⟩, by omega, by omega⟩ (al_cons ⟨.sum rr s5, rfl, ⟨hr1, hr2⟩, hs1, hs2⟩ (al_cons ⟨.less rr s5, rfl, ⟨hr1, hr2⟩, hs1, hs2⟩ (al_cons ⟨.tell rr, rfl, hr1, hr2⟩
          (al_cons ⟨.go near, rfl, hnear⟩ (al_cons ⟨.nil rr near, rfl, ⟨hr1, hr2⟩, hnear⟩ (al_cons ⟨.nil rr tt, rfl, ⟨hr1, hr2⟩, by omega, by omega⟩ (al_cons ⟨.tell rr, rfl, hr1, hr2⟩ (al_cons ⟨rw1, rfl, hrw⟩ al_nil))))))))) (by omega) (by simp; omega) ?_
        rintro _ ⟨rw2, rfl, hrw2⟩
        simp only [↓zzaa, ↓zzab, ↓zzac, ↓zzad, ↓zzae, ↓zzaf, ↓zzag, ↓zzah, ↓zzai, ↓zzaj, ↓zzak, ↓zzal, ↓zzam, ↓zzan, ↓zzao, ↓zzap, ↓zzaq, ↓zzar, ↓zzas, ↓zzat, ↓zzau, ↓zzav, ↓zzaw, ↓zzax, ↓zzay, ↓zzaz, ↓zzba, ↓zzbb, ↓zzbc, ↓zzbd, ↓zzbe, ↓zzbf, ↓zzbg, ↓zzbh, ↓zzbi, ↓zzbj, ↓zzbk, ↓zzbl, ↓zzbm, ↓zzbn, ↓zzbo, ↓zzbp, ↓zzbq, ↓zzbr, ↓zzbs, ↓zzbt, ↓zzbu, ↓zzbv, ↓zzbw, ↓zzbx, ↓zzby, ↓zzbz, ↓zzca, ↓zzcb, ↓zzcc, ↓zzcd, ↓zzce, ↓zzcf, ↓zzcg, ↓zzch, ↓zzci, ↓zzcj, ↓zzck, ↓zzcl, ↓zzcm, ↓zzcn, ↓zzco, ↓zzcp, ↓zzcq, ↓zzcr, ↓zzcs, ↓zzct, ↓zzcu, ↓zzcv, ↓zzcw, ↓zzcx, ↓zzcy, ↓zzcz, ↓zzda, ↓zzdb, ↓zzdc, ↓zzdd, zzde, ↓zzdf, ↓zzdg, ↓zzdh, ↓zzdi, ↓zzdj, ↓zzdk, ↓zzdl, ↓zzdm, ↓zzdn, ↓zzdo, ↓zzdp, ↓zzdq, zzdr, zzds, zzdt, zzdu, zzdv, zzdw, zzdx, zzdy, zzdz, zzea, zzeb, oEq, oNe, eqT, oAdd, oNeg, oAbs, oMax2, oMin2, oInt, oLen, oIsN, oNotN, oIn, oNin, inT, eqF, oIsi, oIsi2, oList, oTuple, seqT, zp, enm, two, three, ioFind, ioCount, brOk, Bop.still, Bop.isI, T.ow, T.owl, T.nob, T.nobl, T.nfz, T.nfzl, T.fz, T.fzl, Bop.fit, Bop.res, Bop.bo, zzec, zzed, zzee, zzef, zzeg, zzeh, zzei, zzej, zzef, zzeg, zzeh, zzei, zzek, zzel, List.all_cons, List.all_nil, List.any_cons, List.any_nil, zzem, zzen, zzeo, zzep, zzeq, zzer, zzes, zzet, Bool.not_false, Bool.not_true, Bool.or_false, Bool.false_or, Bool.and_true, Bool.true_and, Bool.or_true, Bool.true_or, Bool.and_false, Bool.false_and, Bool.not_not, Bool.not_eq_true', decide_eq_false_iff_not, Bool.and_eq_true, Bool.or_eq_true, true_or, or_true, false_or, or_false, true_and, and_true, false_and, and_false, Bool.false_eq_true, false_imp_iff, if_true, if_false, forall_const, implies_true, Option.some.injEq, Option.isSome_some, forall_eq', reduceCtorEq, List.cons_append, List.nil_append, List.length_cons, List.length_nil, List.length_map, List.length_append, List.length_range, zzeu, zzev, zzew, List.replicate, List.flatten_cons, List.flatten_nil, List.append_nil, Nat.reduceAdd, Nat.reduceSub, Nat.reduceLT, Nat.reduceLeDiff, List.set_cons_zero, List.set_cons_succ, decide_eq_true_eq, decide_true, decide_false, Int.reduceLT, Int.reduceLE, Int.reduceMul, Int.reducePow, Int.reduceToNat, Int.reduceAdd, Int.reduceSub, Int.reduceNeg, Int.reduceEq, Nat.reducePow, zzex, zzey, zzez, Nat.zero_add, big, zzfa, zzfb, String.reduceEq, wipeE, zzfc, zzfd, zzah, zzai, Option.getD_some, ↓zzfe, ↓zzff, ↓zzfg, ↓zzfh, ↓zzfi, ↓zzfj, ↓zzfk, ↓zzfl, ↓zzfm, ↓zzfn, ↓zzfo, ↓zzfp, ↓zzfq, ↓zzfr, ↓zzfs, ↓zzft, ↓zzfu, ↓zzfv, ↓zzfw, ↓zzfx, ↓zzfy, ↓zzfz, ↓zzga, ↓zzgb, ↓zzgc, ↓zzgd, ↓zzge, ↓zzgf, ↓zzgg, ↓zzgh, ↓zzgi, ↓zzgj, ↓zzgk, ↓zzgl, ↓zzgm, ↓zzgn, ↓zzgo, ↓zzgp, ↓zzgq, ↓zzgr, ↓zzgs, ↓zzgt, ↓zzgu, ↓zzgv, ↓zzgw, ↓zzgx, ↓zzgy, ↓zzgz, ↓zzha, ↓zzhb, ↓zzhc, ↓zzhd, ↓zzhe, ↓zzhf, ↓zzhg, ↓zzhh, ↓zzhi, ↓zzhj, ↓zzhk, ↓zzhl, ↓zzhm, ↓zzhn, ↓zzho, ↓zzhp, ↓zzhq, ↓zzhr, ↓zzhs, ↓zzht, ↓zzhl, zzhu, zzhv, zzhw, zzhx, zzhy, zzhz, zzia, zzib, zzic, zzid, zzie, zzif, zzig, zzih, zzii, zzij, zzik, zzil, zzim, zzin, zzio, zzip, zziq, zzir, zzis, zzit, zziu, zziv, zziw, zzix, zziy, zziz, zzja, zzjb, zzjc, zzjd, zzje, zzjf, zzjg, zzjh, zzji, zzjj, zzjk, zzjl, zzjm, zzjn, zzjo, zzjp, zzjq, zzjr, zzjs, zzjt, zzju, zzjv, zzjw, zzjx, zzjy, zzjz, zzka, zzkb, zzkc, zzkd, zzke, zzkf, zzkg, zzkh, zzki, zzkj, zzkk, zzkl, zzkm, zzkn, zzko, zzkp, zzkq, zzkr, zzks, zzkt, zzku, zzkv, zzkw, zzkx, zzky, zzkz, zzla, zzlb, zzlc, zzld, zzle, zzlf, zzlg, zzlh, zzli, zzlj, zzlk, zzll, zzlm, zzln, zzlo, ↓zzlp, ↓zzlq, ↓zzlr, ↓zzls, ↓zzlt, ↓zzlu, ↓zzlv, ↓zzlw, ↓zzlx, ↓zzly, ↓zzlz, ↓zzma, zzmb, zzmc, ↓zzmd, ↓zzme, ↓zzmf, ↓zzmg, ↓zzmh, zzmi, zzmj, zzmk, zzml, zzmm, zzmn, zzmo, zzmp, zzmq, zzmr, zzms, Option.bind_some, Option.map_some, ↓zzmt, ↓zzmu, ↓zzmv, ↓zzmw, ↓zzmx, ↓zzmy, ↓zzmz, ↓zzna, ↓zznb, ↓zznc, ↓zznd, ↓zzne, ↓zznf, ↓zzng, ↓zznh, ↓zzni, ↓zznj, ↓zznk, ↓zznl, Row.ow, Row.nob, Row.nfz, Row.fz]
        refine ⟨by omega, ?_⟩
        exact fin rw2 _ _ _ _ _ _ _ _ hrw2 (Tp.mono (by assumption) (by omega))
    · rintro _ ⟨u, x4, x5, x6, x7, x8, x9, x10, made, hl, hok, hu, rfl⟩
      simp only [↓zzaa, ↓zzab, ↓zzac, ↓zzad, ↓zzae, ↓zzaf, ↓zzag, ↓zzah, ↓zzai, ↓zzaj, ↓zzak, ↓zzal, ↓zzam, ↓zzan, ↓zzao, ↓zzap, ↓zzaq, ↓zzar, ↓zzas, ↓zzat, ↓zzau, ↓zzav, ↓zzaw, ↓zzax, ↓zzay, ↓zzaz, ↓zzba, ↓zzbb, ↓zzbc, ↓zzbd, ↓zzbe, ↓zzbf, ↓zzbg, ↓zzbh, ↓zzbi, ↓zzbj, ↓zzbk, ↓zzbl, ↓zzbm, ↓zzbn, ↓zzbo, ↓zzbp, ↓zzbq, ↓zzbr, ↓zzbs, ↓zzbt, ↓zzbu, ↓zzbv, ↓zzbw, ↓zzbx, ↓zzby, ↓zzbz, ↓zzca, ↓zzcb, ↓zzcc, ↓zzcd, ↓zzce, ↓zzcf, ↓zzcg, ↓zzch, ↓zzci, ↓zzcj, ↓zzck, ↓zzcl, ↓zzcm, ↓zzcn, ↓zzco, ↓zzcp, ↓zzcq, ↓zzcr, ↓zzcs, ↓zzct, ↓zzcu, ↓zzcv, ↓zzcw, ↓zzcx, ↓zzcy, ↓zzcz, ↓zzda, ↓zzdb, ↓zzdc, ↓zzdd, zzde, ↓zzdf, ↓zzdg, ↓zzdh, ↓zzdi, ↓zzdj, ↓zzdk, ↓zzdl, ↓zzdm, ↓zzdn, ↓zzdo, ↓zzdp, ↓zzdq, zzdr, zzds, zzdt, zzdu, zzdv, zzdw, zzdx, zzdy, zzdz, zzea, zzeb, oEq, oNe, eqT, oAdd, oNeg, oAbs, oMax2, oMin2, oInt, oLen, oIsN, oNotN, oIn, oNin, inT, eqF, oIsi, oIsi2, oList, oTuple, seqT, zp, enm, two, three, ioFind, ioCount, brOk, Bop.still, Bop.isI, T.ow, T.owl, T.nob, T.nobl, T.nfz, T.nfzl, T.fz, T.fzl, Bop.fit, Bop.res, Bop.bo, zzec, zzed, zzee, zzef, zzeg, zzeh, zzei, zzej, zzef, zzeg, zzeh, zzei, zzek, zzel, List.all_cons, List.all_nil, List.any_cons, List.any_nil, zzem, zzen, zzeo, zzep, zzeq, zzer, zzes, zzet, Bool.not_false, Bool.not_true, Bool.or_false, Bool.false_or, Bool.and_true, Bool.true_and, Bool.or_true, Bool.true_or, Bool.and_false, Bool.false_and, Bool.not_not, Bool.not_eq_true', decide_eq_false_iff_not, Bool.and_eq_true, Bool.or_eq_true, true_or, or_true, false_or, or_false, true_and, and_true, false_and, and_false, Bool.false_eq_true, false_imp_iff, if_true, if_false, forall_const, implies_true, Option.some.injEq, Option.isSome_some, forall_eq', reduceCtorEq, List.cons_append, List.nil_append, List.length_cons, List.length_nil, List.length_map, List.length_append, List.length_range, zzeu, zzev, zzew, List.replicate, List.flatten_cons, List.flatten_nil, List.append_nil, Nat.reduceAdd, Nat.reduceSub, Nat.reduceLT, Nat.reduceLeDiff, List.set_cons_zero, List.set_cons_succ, decide_eq_true_eq, decide_true, decide_false, Int.reduceLT, Int.reduceLE, Int.reduceMul, Int.reducePow, Int.reduceToNat, Int.reduceAdd, Int.reduceSub, Int.reduceNeg, Int.reduceEq, Nat.reducePow, zzex, zzey, zzez, Nat.zero_add, big, zzfa, zzfb, String.reduceEq, wipeE, zzfc, zzfd, zzah, zzai, Option.getD_some, ↓zzfe, ↓zzff, ↓zzfg, ↓zzfh, ↓zzfi, ↓zzfj, ↓zzfk, ↓zzfl, ↓zzfm, ↓zzfn, ↓zzfo, ↓zzfp, ↓zzfq, ↓zzfr, ↓zzfs, ↓zzft, ↓zzfu, ↓zzfv, ↓zzfw, ↓zzfx, ↓zzfy, ↓zzfz, ↓zzga, ↓zzgb, ↓zzgc, ↓zzgd, ↓zzge, ↓zzgf, ↓zzgg, ↓zzgh, ↓zzgi, ↓zzgj, ↓zzgk, ↓zzgl, ↓zzgm, ↓zzgn, ↓zzgo, ↓zzgp, ↓zzgq, ↓zzgr, ↓zzgs, ↓zzgt, ↓zzgu, ↓zzgv, ↓zzgw, ↓zzgx, ↓zzgy, ↓zzgz, ↓zzha, ↓zzhb, ↓zzhc, ↓zzhd, ↓zzhe, ↓zzhf, ↓zzhg, ↓zzhh, ↓zzhi, ↓zzhj, ↓zzhk, ↓zzhl, ↓zzhm, ↓zzhn, ↓zzho, ↓zzhp, ↓zzhq, ↓zzhr, ↓zzhs, ↓zzht, ↓zzhl, zzhu, zzhv, zzhw, zzhx, zzhy, zzhz, zzia, zzib, zzic, zzid, zzie, zzif, zzig, zzih, zzii, zzij, zzik, zzil, zzim, zzin, zzio, zzip, zziq, zzir, zzis, zzit, zziu, zziv, zziw, zzix, zziy, zziz, zzja, zzjb, zzjc, zzjd, zzje, zzjf, zzjg, zzjh, zzji, zzjj, zzjk, zzjl, zzjm, zzjn, zzjo, zzjp, zzjq, zzjr, zzjs, zzjt, zzju, zzjv, zzjw, zzjx, zzjy, zzjz, zzka, zzkb, zzkc, zzkd, zzke, zzkf, zzkg, zzkh, zzki, zzkj, zzkk, zzkl, zzkm, zzkn, zzko, zzkp, zzkq, zzkr, zzks, zzkt, zzku, zzkv, zzkw, zzkx, zzky, zzkz, zzla, zzlb, zzlc, zzld, zzle, zzlf, zzlg, zzlh, zzli, zzlj, zzlk, zzll, zzlm, zzln, zzlo, ↓zzlp, ↓zzlq, ↓zzlr, ↓zzls, ↓zzlt, ↓zzlu, ↓zzlv, ↓zzlw, ↓zzlx, ↓zzly, ↓zzlz, ↓zzma, zzmb, zzmc, ↓zzmd, ↓zzme, ↓zzmf, ↓zzmg, ↓zzmh, zzmi, zzmj, zzmk, zzml, zzmm, zzmn, zzmo, zzmp, zzmq, zzmr, zzms, Option.bind_some, Option.map_some, ↓zzmt, ↓zzmu, ↓zzmv, ↓zzmw, ↓zzmx, ↓zzmy, ↓zzmz, ↓zzna, ↓zznb, ↓zznc, ↓zznd, ↓zzne, ↓zznf, ↓zzng, ↓zznh, ↓zzni, ↓zznj, ↓zznk, ↓zznl]
      have hlm : made.length = m.toNat := by simpa using hl
      refine q made u (fun r hr => by have := hok r hr; rw [hlm]; rwa [Int.toNat_of_nonneg h0]) (by omega) (hu.mono (by simp; omega))
  split
  · (refine take_ok (by assumption) (by omega) (by omega) ?_; intro _ _ _ _ _; simp only [↓zzaa, ↓zzab, ↓zzac, ↓zzad, ↓zzae, ↓zzaf, ↓zzag, ↓zzah, ↓zzai, ↓zzaj, ↓zzak, ↓zzal, ↓zzam, ↓zzan, ↓zzao, ↓zzap, ↓zzaq, ↓zzar, ↓zzas, ↓zzat, ↓zzau, ↓zzav, ↓zzaw, ↓zzax, ↓zzay, ↓zzaz, ↓zzba, ↓zzbb, ↓zzbc, ↓zzbd, ↓zzbe, ↓zzbf, ↓zzbg, ↓zzbh, ↓zzbi, ↓zzbj, ↓zzbk, ↓zzbl, ↓zzbm, ↓zzbn, ↓zzbo, ↓zzbp, ↓zzbq, ↓zzbr, ↓zzbs, ↓zzbt, ↓zzbu, ↓zzbv, ↓zzbw, ↓zzbx, ↓zzby, ↓zzbz, ↓zzca, ↓zzcb, ↓zzcc, ↓zzcd, ↓zzce, ↓zzcf, ↓zzcg, ↓zzch, ↓zzci, ↓zzcj, ↓zzck, ↓zzcl, ↓zzcm, ↓zzcn, ↓zzco, ↓zzcp, ↓zzcq, ↓zzcr, ↓zzcs, ↓zzct, ↓zzcu, ↓zzcv, ↓zzcw, ↓zzcx, ↓zzcy, ↓zzcz, ↓zzda, ↓zzdb, ↓zzdc, ↓zzdd, zzde, ↓zzdf, ↓zzdg, ↓zzdh, ↓zzdi, ↓zzdj, ↓zzdk, ↓zzdl, ↓zzdm, ↓zzdn, ↓zzdo, ↓zzdp, ↓zzdq, zzdr, zzds, zzdt, zzdu, zzdv, zzdw, zzdx, zzdy, zzdz, zzea, zzeb, oEq, oNe, eqT, oAdd, oNeg, oAbs, oMax2, oMin2, oInt, oLen, oIsN, oNotN, oIn, oNin, inT, eqF, oIsi, oIsi2, oList, oTuple, seqT, zp, enm, two, three, ioFind, ioCount, brOk, Bop.still, Bop.isI, T.ow, T.owl, T.nob, T.nobl, T.nfz, T.nfzl, T.fz, T.fzl, Bop.fit, Bop.res, Bop.bo, zzec, zzed, zzee, zzef, zzeg, zzeh, zzei, zzej, zzef, zzeg, zzeh, zzei, zzek, zzel, List.all_cons, List.all_nil, List.any_cons, List.any_nil, zzem, zzen, zzeo, zzep, zzeq, zzer, zzes, zzet, Bool.not_false, Bool.not_true, Bool.or_false, Bool.false_or, Bool.and_true, Bool.true_and, Bool.or_true, Bool.true_or, Bool.and_false, Bool.false_and, Bool.not_not, Bool.not_eq_true', decide_eq_false_iff_not, Bool.and_eq_true, Bool.or_eq_true, true_or, or_true, false_or, or_false, true_and, and_true, false_and, and_false, Bool.false_eq_true, false_imp_iff, if_true, if_false, forall_const, implies_true, Option.some.injEq, Option.isSome_some, forall_eq', reduceCtorEq, List.cons_append, List.nil_append, List.length_cons, List.length_nil, List.length_map, List.length_append, List.length_range, zzeu, zzev, zzew, List.replicate, List.flatten_cons, List.flatten_nil, List.append_nil, Nat.reduceAdd, Nat.reduceSub, Nat.reduceLT, Nat.reduceLeDiff, List.set_cons_zero, List.set_cons_succ, decide_eq_true_eq, decide_true, decide_false, Int.reduceLT, Int.reduceLE, Int.reduceMul, Int.reducePow, Int.reduceToNat, Int.reduceAdd, Int.reduceSub, Int.reduceNeg, Int.reduceEq, Nat.reducePow, zzex, zzey, zzez, Nat.zero_add, big, zzfa, zzfb, String.reduceEq, wipeE, zzfc, zzfd, zzah, zzai, Option.getD_some, ↓zzfe, ↓zzff, ↓zzfg, ↓zzfh, ↓zzfi, ↓zzfj, ↓zzfk, ↓zzfl, ↓zzfm, ↓zzfn, ↓zzfo, ↓zzfp, ↓zzfq, ↓zzfr, ↓zzfs, ↓zzft, ↓zzfu, ↓zzfv, ↓zzfw, ↓zzfx, ↓zzfy, ↓zzfz, ↓zzga, ↓zzgb, ↓zzgc, ↓zzgd, ↓zzge, ↓zzgf, ↓zzgg, ↓zzgh, ↓zzgi, ↓zzgj, ↓zzgk, ↓zzgl, ↓zzgm, ↓zzgn, ↓zzgo, ↓zzgp, ↓zzgq, ↓zzgr, ↓zzgs, ↓zzgt, ↓zzgu, ↓zzgv, ↓zzgw, ↓zzgx, ↓zzgy, ↓zzgz, ↓zzha, ↓zzhb, ↓zzhc, ↓zzhd, ↓zzhe, ↓zzhf, ↓zzhg, ↓zzhh, ↓zzhi, ↓zzhj, ↓zzhk, ↓zzhl, ↓zzhm, ↓zzhn, ↓zzho, ↓zzhp, ↓zzhq, ↓zzhr, ↓zzhs, ↓zzht, ↓zzhl, zzhu, zzhv, zzhw, zzhx, zzhy, zzhz, zzia, zzib, zzic, zzid, zzie, zzif, zzig, zzih, zzii, zzij, zzik, zzil, zzim, zzin, zzio, zzip, zziq, zzir, zzis, zzit, zziu, zziv, zziw, zzix, zziy, zziz, zzja, zzjb, zzjc, zzjd, zzje, zzjf, zzjg, zzjh, zzji, zzjj, zzjk, zzjl, zzjm, zzjn, zzjo, zzjp, zzjq, zzjr, zzjs, zzjt, zzju, zzjv, zzjw, zzjx, zzjy, zzjz, zzka, zzkb, zzkc, zzkd, zzke, zzkf, zzkg, zzkh, zzki, zzkj, zzkk, zzkl, zzkm, zzkn, zzko, zzkp, zzkq, zzkr, zzks, zzkt, zzku, zzkv, zzkw, zzkx, zzky, zzkz, zzla, zzlb, zzlc, zzld, zzle, zzlf, zzlg, zzlh, zzli, zzlj, zzlk, zzll, zzlm, zzln, zzlo, ↓zzlp, ↓zzlq, ↓zzlr, ↓zzls, ↓zzlt, ↓zzlu, ↓zzlv, ↓zzlw, ↓zzlx, ↓zzly, ↓zzlz, ↓zzma, zzmb, zzmc, ↓zzmd, ↓zzme, ↓zzmf, ↓zzmg, ↓zzmh, zzmi, zzmj, zzmk, zzml, zzmm, zzmn, zzmo, zzmp, zzmq, zzmr, zzms, Option.bind_some, Option.map_some, ↓zzmt, ↓zzmu, ↓zzmv, ↓zzmw, ↓zzmx, ↓zzmy, ↓zzmz, ↓zzna, ↓zznb, ↓zznc, ↓zznd, ↓zzne, ↓zznf, ↓zzng, ↓zznh, ↓zzni, ↓zznj, ↓zznk, ↓zznl])
    exact rest _ _ (by omega) (by omega) (Tp.mono (by assumption) (by omega))
  · (refine take_ok (by assumption) (by omega) (by omega) ?_; intro _ _ _ _ _; simp only [↓zzaa, ↓zzab, ↓zzac, ↓zzad, ↓zzae, ↓zzaf, ↓zzag, ↓zzah, ↓zzai, ↓zzaj, ↓zzak, ↓zzal, ↓zzam, ↓zzan, ↓zzao, ↓zzap, ↓zzaq, ↓zzar, ↓zzas, ↓zzat, ↓zzau, ↓zzav, ↓zzaw, ↓zzax, ↓zzay, ↓zzaz, ↓zzba, ↓zzbb, ↓zzbc, ↓zzbd, ↓zzbe, ↓zzbf, ↓zzbg, ↓zzbh, ↓zzbi, ↓zzbj, ↓zzbk, ↓zzbl, ↓zzbm, ↓zzbn, ↓zzbo, ↓zzbp, ↓zzbq, ↓zzbr, ↓zzbs, ↓zzbt, ↓zzbu, ↓zzbv, ↓zzbw, ↓zzbx, ↓zzby, ↓zzbz, ↓zzca, ↓zzcb, ↓zzcc, ↓zzcd, ↓zzce, ↓zzcf, ↓zzcg, ↓zzch, ↓zzci, ↓zzcj, ↓zzck, ↓zzcl, ↓zzcm, ↓zzcn, ↓zzco, ↓zzcp, ↓zzcq, ↓zzcr, ↓zzcs, ↓zzct, ↓zzcu, ↓zzcv, ↓zzcw, ↓zzcx, ↓zzcy, ↓zzcz, ↓zzda, ↓zzdb, ↓zzdc, ↓zzdd, zzde, ↓zzdf, ↓zzdg, ↓zzdh, ↓zzdi, ↓zzdj, ↓zzdk, ↓zzdl, ↓zzdm, ↓zzdn, ↓zzdo, ↓zzdp, ↓zzdq, zzdr, zzds, zzdt, zzdu, zzdv, zzdw, zzdx, zzdy, zzdz, zzea, zzeb, oEq, oNe, eqT, oAdd, oNeg, oAbs, oMax2, oMin2, oInt, oLen, oIsN, oNotN, oIn, oNin, inT, eqF, oIsi, oIsi2, oList, oTuple, seqT, zp, enm, two, three, ioFind, ioCount, brOk, Bop.still, Bop.isI, T.ow, T.owl, T.nob, T.nobl, T.nfz, T.nfzl, T.fz, T.fzl, Bop.fit, Bop.res, Bop.bo, zzec, zzed, zzee, zzef, zzeg, zzeh, zzei, zzej, zzef, zzeg, zzeh, zzei, zzek, zzel, List.all_cons, List.all_nil, List.any_cons, List.any_nil, zzem, zzen, zzeo, zzep, zzeq, zzer, zzes, zzet, Bool.not_false, Bool.not_true, Bool.or_false, Bool.false_or, Bool.and_true, Bool.true_and, Bool.or_true, Bool.true_or, Bool.and_false, Bool.false_and, Bool.not_not, Bool.not_eq_true', decide_eq_false_iff_not, Bool.and_eq_true, Bool.or_eq_true, true_or, or_true, false_or, or_false, true_and, and_true, false_and, and_false, Bool.false_eq_true, false_imp_iff, if_true, if_false, forall_const, implies_true, Option.some.injEq, Option.isSome_some, forall_eq', reduceCtorEq, List.cons_append, List.nil_append, List.length_cons, List.length_nil, List.length_map, List.length_append, List.length_range, zzeu, zzev, zzew, List.replicate, List.flatten_cons, List.flatten_nil, List.append_nil, Nat.reduceAdd, Nat.reduceSub, Nat.reduceLT, Nat.reduceLeDiff, List.set_cons_zero, List.set_cons_succ, decide_eq_true_eq, decide_true, decide_false, Int.reduceLT, Int.reduceLE, Int.reduceMul, Int.reducePow, Int.reduceToNat, Int.reduceAdd, Int.reduceSub, Int.reduceNeg, Int.reduceEq, Nat.reducePow, zzex, zzey, zzez, Nat.zero_add, big, zzfa, zzfb, String.reduceEq, wipeE, zzfc, zzfd, zzah, zzai, Option.getD_some, ↓zzfe, ↓zzff, ↓zzfg, ↓zzfh, ↓zzfi, ↓zzfj, ↓zzfk, ↓zzfl, ↓zzfm, ↓zzfn, ↓zzfo, ↓zzfp, ↓zzfq, ↓zzfr, ↓zzfs, ↓zzft, ↓zzfu, ↓zzfv, ↓zzfw, ↓zzfx, ↓zzfy, ↓zzfz, ↓zzga, ↓zzgb, ↓zzgc, ↓zzgd, ↓zzge, ↓zzgf, ↓zzgg, ↓zzgh, ↓zzgi, ↓zzgj, ↓zzgk, ↓zzgl, ↓zzgm, ↓zzgn, ↓zzgo, ↓zzgp, ↓zzgq, ↓zzgr, ↓zzgs, ↓zzgt, ↓zzgu, ↓zzgv, ↓zzgw, ↓zzgx, ↓zzgy, ↓zzgz, ↓zzha, ↓zzhb, ↓zzhc, ↓zzhd, ↓zzhe, ↓zzhf, ↓zzhg, ↓zzhh, ↓zzhi, ↓zzhj, ↓zzhk, ↓zzhl, ↓zzhm, ↓zzhn, ↓zzho, ↓zzhp, ↓zzhq, ↓zzhr, ↓zzhs, ↓zzht, ↓zzhl, zzhu, zzhv, zzhw, zzhx, zzhy, zzhz, zzia, zzib, zzic, zzid, zzie, zzif, zzig, zzih, zzii, zzij, zzik, zzil, zzim, zzin, zzio, zzip, zziq, zzir, zzis, zzit, zziu, zziv, zziw, zzix, zziy, zziz, zzja, zzjb, zzjc, zzjd, zzje, zzjf, zzjg, zzjh, zzji, zzjj, zzjk, zzjl, zzjm, zzjn, zzjo, zzjp, zzjq, zzjr, zzjs, zzjt, zzju, zzjv, zzjw, zzjx, zzjy, zzjz, zzka, zzkb, zzkc, zzkd, zzke, zzkf, zzkg, zzkh, zzki, zzkj, zzkk, zzkl, zzkm, zzkn, zzko, zzkp, zzkq, zzkr, zzks, zzkt, zzku, zzkv, zzkw, zzkx, zzky, zzkz, zzla, zzlb, zzlc, zzld, zzle, zzlf, zzlg, zzlh, zzli, zzlj, zzlk, zzll, zzlm, zzln, zzlo, ↓zzlp, ↓zzlq, ↓zzlr, ↓zzls, ↓zzlt, ↓zzlu, ↓zzlv, ↓zzlw, ↓zzlx, ↓zzly, ↓zzlz, ↓zzma, zzmb, zzmc, ↓zzmd, ↓zzme, ↓zzmf, ↓zzmg, ↓zzmh, zzmi, zzmj, zzmk, zzml, zzmm, zzmn, zzmo, zzmp, zzmq, zzmr, zzms, Option.bind_some, Option.map_some, ↓zzmt, ↓zzmu, ↓zzmv, ↓zzmw, ↓zzmx, ↓zzmy, ↓zzmz, ↓zzna, ↓zznb, ↓zznc, ↓zznd, ↓zzne, ↓zznf, ↓zzng, ↓zznh, ↓zzni, ↓zznj, ↓zznk, ↓zznl])
    exact rest _ _ (by omega) (by omega) (Tp.mono (by assumption) (by omega))
def greats (rows : List Row) : List Int := (rows.zipIdx.filter fun p => p.1.great).map fun p => (p.2 : Int)
def jumps (rows : List Row) : List Int := (rows.zipIdx.filter fun p => p.1.jump).map fun p => (p.2 : Int)
theorem great_eq {r : Row} {Q : T × Option T → Prop} : wp (f_is_great [r.t]) Q = Q (.bl r.great, none) := by
  unfold f_is_great b_is_great
  cases r <;> simp only [Row.t, Row.great] <;> simp only [↓zzaa, ↓zzab, ↓zzac, ↓zzad, ↓zzae, ↓zzaf, ↓zzag, ↓zzah, ↓zzai, ↓zzaj, ↓zzak, ↓zzal, ↓zzam, ↓zzan, ↓zzao, ↓zzap, ↓zzaq, ↓zzar, ↓zzas, ↓zzat, ↓zzau, ↓zzav, ↓zzaw, ↓zzax, ↓zzay, ↓zzaz, ↓zzba, ↓zzbb, ↓zzbc, ↓zzbd, ↓zzbe, ↓zzbf, ↓zzbg, ↓zzbh, ↓zzbi, ↓zzbj, ↓zzbk, ↓zzbl, ↓zzbm, ↓zzbn, ↓zzbo, ↓zzbp, ↓zzbq, ↓zzbr, ↓zzbs, ↓zzbt, ↓zzbu, ↓zzbv, ↓zzbw, ↓zzbx, ↓zzby, ↓zzbz, ↓zzca, ↓zzcb, ↓zzcc, ↓zzcd, ↓zzce, ↓zzcf, ↓zzcg, ↓zzch, ↓zzci, ↓zzcj, ↓zzck, ↓zzcl, ↓zzcm, ↓zzcn, ↓zzco, ↓zzcp, ↓zzcq, ↓zzcr, ↓zzcs, ↓zzct, ↓zzcu, ↓zzcv, ↓zzcw, ↓zzcx, ↓zzcy, ↓zzcz, ↓zzda, ↓zzdb, ↓zzdc, ↓zzdd, zzde, ↓zzdf, ↓zzdg, ↓zzdh, ↓zzdi, ↓zzdj, ↓zzdk, ↓zzdl, ↓zzdm, ↓zzdn, ↓zzdo, ↓zzdp, ↓zzdq, zzdr, zzds, zzdt, zzdu, zzdv, zzdw, zzdx, zzdy, zzdz, zzea, zzeb, oEq, oNe, eqT, oAdd, oNeg, oAbs, oMax2, oMin2, oInt, oLen, oIsN, oNotN, oIn, oNin, inT, eqF, oIsi, oIsi2, oList, oTuple, seqT, zp, enm, two, three, ioFind, ioCount, brOk, Bop.still, Bop.isI, T.ow, T.owl, T.nob, T.nobl, T.nfz, T.nfzl, T.fz, T.fzl, Bop.fit, Bop.res, Bop.bo, zzec, zzed, zzee, zzef, zzeg, zzeh, zzei, zzej, zzef, zzeg, zzeh, zzei, zzek, zzel, List.all_cons, List.all_nil, List.any_cons, List.any_nil, zzem, zzen, zzeo, zzep, zzeq, zzer, zzes, zzet, Bool.not_false, Bool.not_true, Bool.or_false, Bool.false_or, Bool.and_true, Bool.true_and, Bool.or_true, Bool.true_or, Bool.and_false, Bool.false_and, Bool.not_not, Bool.not_eq_true', decide_eq_false_iff_not, Bool.and_eq_true, Bool.or_eq_true, true_or, or_true, false_or, or_false, true_and, and_true, false_and, and_false, Bool.false_eq_true, false_imp_iff, if_true, if_false, forall_const, implies_true, Option.some.injEq, Option.isSome_some, forall_eq', reduceCtorEq, List.cons_append, List.nil_append, List.length_cons, List.length_nil, List.length_map, List.length_append, List.length_range, zzeu, zzev, zzew, List.replicate, List.flatten_cons, List.flatten_nil, List.append_nil, Nat.reduceAdd, Nat.reduceSub, Nat.reduceLT, Nat.reduceLeDiff, List.set_cons_zero, List.set_cons_succ, decide_eq_true_eq, decide_true, decide_false, Int.reduceLT, Int.reduceLE, Int.reduceMul, Int.reducePow, Int.reduceToNat, Int.reduceAdd, Int.reduceSub, Int.reduceNeg, Int.reduceEq, Nat.reducePow, zzex, zzey, zzez, Nat.zero_add, big, zzfa, zzfb, String.reduceEq, wipeE, zzfc, zzfd, zzah, zzai, Option.getD_some, ↓zzfe, ↓zzff, ↓zzfg, ↓zzfh, ↓zzfi, ↓zzfj, ↓zzfk, ↓zzfl, ↓zzfm, ↓zzfn, ↓zzfo, ↓zzfp, ↓zzfq, ↓zzfr, ↓zzfs, ↓zzft, ↓zzfu, ↓zzfv, ↓zzfw, ↓zzfx, ↓zzfy, ↓zzfz, ↓zzga, ↓zzgb, ↓zzgc, ↓zzgd, ↓zzge, ↓zzgf, ↓zzgg, ↓zzgh, ↓zzgi, ↓zzgj, ↓zzgk, ↓zzgl, ↓zzgm, ↓zzgn, ↓zzgo, ↓zzgp, ↓zzgq, ↓zzgr, ↓zzgs, ↓zzgt, ↓zzgu, ↓zzgv, ↓zzgw, ↓zzgx, ↓zzgy, ↓zzgz, ↓zzha, ↓zzhb, ↓zzhc, ↓zzhd, ↓zzhe, ↓zzhf, ↓zzhg, ↓zzhh, ↓zzhi, ↓zzhj, ↓zzhk, ↓zzhl, ↓zzhm, ↓zzhn, ↓zzho, ↓zzhp, ↓zzhq, ↓zzhr, ↓zzhs, ↓zzht, ↓zzhl, zzhu, zzhv, zzhw, zzhx, zzhy, zzhz, zzia, zzib, zzic, zzid, zzie, zzif, zzig, zzih, zzii, zzij, zzik, zzil, zzim, zzin, zzio, zzip, zziq, zzir, zzis, zzit, zziu, zziv, zziw, zzix, zziy, zziz, zzja, zzjb, zzjc, zzjd, zzje, zzjf, zzjg, zzjh, zzji, zzjj, zzjk, zzjl, zzjm, zzjn, zzjo, zzjp, zzjq, zzjr, zzjs, zzjt, zzju, zzjv, zzjw, zzjx, zzjy, zzjz, zzka, zzkb, zzkc, zzkd, zzke, zzkf, zzkg, zzkh, zzki, zzkj, zzkk, zzkl, zzkm, zzkn, zzko, zzkp, zzkq, zzkr, zzks, zzkt, zzku, zzkv, zzkw, zzkx, zzky, zzkz, zzla, zzlb, zzlc, zzld, zzle, zzlf, zzlg, zzlh, zzli, zzlj, zzlk, zzll, zzlm, zzln, zzlo, ↓zzlp, ↓zzlq, ↓zzlr, ↓zzls, ↓zzlt, ↓zzlu, ↓zzlv, ↓zzlw, ↓zzlx, ↓zzly, ↓zzlz, ↓zzma, zzmb, zzmc, ↓zzmd, ↓zzme, ↓zzmf, ↓zzmg, ↓zzmh, zzmi, zzmj, zzmk, zzml, zzmm, zzmn, zzmo, zzmp, zzmq, zzmr, zzms, Option.bind_some, Option.map_some, ↓zzmt, ↓zzmu, ↓zzmv, ↓zzmw, ↓zzmx, ↓zzmy, ↓zzmz, ↓zzna, ↓zznb, ↓zznc, ↓zznd, ↓zzne, ↓zznf, ↓zzng, ↓zznh, ↓zzni, ↓zznj, ↓zznk, ↓zznl]
theorem iteB {b : Bool} {α : Type} {x y : α} {env : En} {Q : α × En → Prop} (h : Q (if b = true then x else y, env)) : if b = true then Q (x, env) else Q (y, env) := by cases b <;> exact h
theorem greats_ok {rows : List Row} {Q : T × Option T → Prop} (hl : rows.length ≤ 100000) (q : Q (.lst true ((greats rows).map T.int), none)) : wp (f_greats_of [.lst false (rows.map Row.t)]) Q := by
  unfold f_greats_of b_greats_of
  simp only [↓zzaa, ↓zzab, ↓zzac, ↓zzad, ↓zzae, ↓zzaf, ↓zzag, ↓zzah, ↓zzai, ↓zzaj, ↓zzak, ↓zzal, ↓zzam, ↓zzan, ↓zzao, ↓zzap, ↓zzaq, ↓zzar, ↓zzas, ↓zzat, ↓zzau, ↓zzav, ↓zzaw, ↓zzax, ↓zzay, ↓zzaz, ↓zzba, ↓zzbb, ↓zzbc, ↓zzbd, ↓zzbe, ↓zzbf, ↓zzbg, ↓zzbh, ↓zzbi, ↓zzbj, ↓zzbk, ↓zzbl, ↓zzbm, ↓zzbn, ↓zzbo, ↓zzbp, ↓zzbq, ↓zzbr, ↓zzbs, ↓zzbt, ↓zzbu, ↓zzbv, ↓zzbw, ↓zzbx, ↓zzby, ↓zzbz, ↓zzca, ↓zzcb, ↓zzcc, ↓zzcd, ↓zzce, ↓zzcf, ↓zzcg, ↓zzch, ↓zzci, ↓zzcj, ↓zzck, ↓zzcl, ↓zzcm, ↓zzcn, ↓zzco, ↓zzcp, ↓zzcq, ↓zzcr, ↓zzcs, ↓zzct, ↓zzcu, ↓zzcv, ↓zzcw, ↓zzcx, ↓zzcy, ↓zzcz, ↓zzda, ↓zzdb, ↓zzdc, ↓zzdd, zzde, ↓zzdf, ↓zzdg, ↓zzdh, ↓zzdi, ↓zzdj, ↓zzdk, ↓zzdl, ↓zzdm, ↓zzdn, ↓zzdo, ↓zzdp, ↓zzdq, zzdr, zzds, zzdt, zzdu, zzdv, zzdw, zzdx, zzdy, zzdz, zzea, zzeb, oEq, oNe, eqT, oAdd, oNeg, oAbs, oMax2, oMin2, oInt, oLen, oIsN, oNotN, oIn, oNin, inT, eqF, oIsi, oIsi2, oList, oTuple, seqT, zp, enm, two, three, ioFind, ioCount, brOk, Bop.still, Bop.isI, T.ow, T.owl, T.nob, T.nobl, T.nfz, T.nfzl, T.fz, T.fzl, Bop.fit, Bop.res, Bop.bo, zzec, zzed, zzee, zzef, zzeg, zzeh, zzei, zzej, zzef, zzeg, zzeh, zzei, zzek, zzel, List.all_cons, List.all_nil, List.any_cons, List.any_nil, zzem, zzen, zzeo, zzep, zzeq, zzer, zzes, zzet, Bool.not_false, Bool.not_true, Bool.or_false, Bool.false_or, Bool.and_true, Bool.true_and, Bool.or_true, Bool.true_or, Bool.and_false, Bool.false_and, Bool.not_not, Bool.not_eq_true', decide_eq_false_iff_not, Bool.and_eq_true, Bool.or_eq_true, true_or, or_true, false_or, or_false, true_and, and_true, false_and, and_false, Bool.false_eq_true, false_imp_iff, if_true, if_false, forall_const, implies_true, Option.some.injEq, Option.isSome_some, forall_eq', reduceCtorEq, List.cons_append, List.nil_append, List.length_cons, List.length_nil, List.length_map, List.length_append, List.length_range, zzeu, zzev, zzew, List.replicate, List.flatten_cons, List.flatten_nil, List.append_nil, Nat.reduceAdd, Nat.reduceSub, Nat.reduceLT, Nat.reduceLeDiff, List.set_cons_zero, List.set_cons_succ, decide_eq_true_eq, decide_true, decide_false, Int.reduceLT, Int.reduceLE, Int.reduceMul, Int.reducePow, Int.reduceToNat, Int.reduceAdd, Int.reduceSub, Int.reduceNeg, Int.reduceEq, Nat.reducePow, zzex, zzey, zzez, Nat.zero_add, big, zzfa, zzfb, String.reduceEq, wipeE, zzfc, zzfd, zzah, zzai, Option.getD_some, ↓zzfe, ↓zzff, ↓zzfg, ↓zzfh, ↓zzfi, ↓zzfj, ↓zzfk, ↓zzfl, ↓zzfm, ↓zzfn, ↓zzfo, ↓zzfp, ↓zzfq, ↓zzfr, ↓zzfs, ↓zzft, ↓zzfu, ↓zzfv, ↓zzfw, ↓zzfx, ↓zzfy, ↓zzfz, ↓zzga, ↓zzgb, ↓zzgc, ↓zzgd, ↓zzge, ↓zzgf, ↓zzgg, ↓zzgh, ↓zzgi, ↓zzgj, ↓zzgk, ↓zzgl, ↓zzgm, ↓zzgn, ↓zzgo, ↓zzgp, ↓zzgq, ↓zzgr, ↓zzgs, ↓zzgt, ↓zzgu, ↓zzgv, ↓zzgw, ↓zzgx, ↓zzgy, ↓zzgz, ↓zzha, ↓zzhb, ↓zzhc, ↓zzhd, ↓zzhe, ↓zzhf, ↓zzhg, ↓zzhh, ↓zzhi, ↓zzhj, ↓zzhk, ↓zzhl, ↓zzhm, ↓zzhn, ↓zzho, ↓zzhp, ↓zzhq, ↓zzhr, ↓zzhs, ↓zzht, ↓zzhl, zzhu, zzhv, zzhw, zzhx, zzhy, zzhz, zzia, zzib, zzic, zzid, zzie, zzif, zzig, zzih, zzii, zzij, zzik, zzil, zzim, zzin, zzio, zzip, zziq, zzir, zzis, zzit, zziu, zziv, zziw, zzix, zziy, zziz, zzja, zzjb, zzjc, zzjd, zzje, zzjf, zzjg, zzjh, zzji, zzjj, zzjk, zzjl, zzjm, zzjn, zzjo, zzjp, zzjq, zzjr, zzjs, zzjt, zzju, zzjv, zzjw, zzjx, zzjy, zzjz, zzka, zzkb, zzkc, zzkd, zzke, zzkf, zzkg, zzkh, zzki, zzkj, zzkk, zzkl, zzkm, zzkn, zzko, zzkp, zzkq, zzkr, zzks, zzkt, zzku, zzkv, zzkw, zzkx, zzky, zzkz, zzla, zzlb, zzlc, zzld, zzle, zzlf, zzlg, zzlh, zzli, zzlj, zzlk, zzll, zzlm, zzln, zzlo, ↓zzlp, ↓zzlq, ↓zzlr, ↓zzls, ↓zzlt, ↓zzlu, ↓zzlv, ↓zzlw, ↓zzlx, ↓zzly, ↓zzlz, ↓zzma, zzmb, zzmc, ↓zzmd, ↓zzme, ↓zzmf, ↓zzmg, ↓zzmh, zzmi, zzmj, zzmk, zzml, zzmm, zzmn, zzmo, zzmp, zzmq, zzmr, zzms, Option.bind_some, Option.map_some, ↓zzmt, ↓zzmu, ↓zzmv, ↓zzmw, ↓zzmx, ↓zzmy, ↓zzmz, ↓zzna, ↓zznb, ↓zznc, ↓zznd, ↓zzne, ↓zznf, ↓zzng, ↓zznh, ↓zzni, ↓zznj, ↓zznk, ↓zznl, Row.ow, Row.nob, Row.nfz, Row.fz]
  refine ⟨by simpa using by omega, lc_filter (p := fun x => x.1.great) (h := fun x => T.int (x.2 : Nat)) (fun x hx Q' q' => ?_) ?_⟩
  · simp only [↓zzaa, ↓zzab, ↓zzac, ↓zzad, ↓zzae, ↓zzaf, ↓zzag, ↓zzah, ↓zzai, ↓zzaj, ↓zzak, ↓zzal, ↓zzam, ↓zzan, ↓zzao, ↓zzap, ↓zzaq, ↓zzar, ↓zzas, ↓zzat, ↓zzau, ↓zzav, ↓zzaw, ↓zzax, ↓zzay, ↓zzaz, ↓zzba, ↓zzbb, ↓zzbc, ↓zzbd, ↓zzbe, ↓zzbf, ↓zzbg, ↓zzbh, ↓zzbi, ↓zzbj, ↓zzbk, ↓zzbl, ↓zzbm, ↓zzbn, ↓zzbo, ↓zzbp, ↓zzbq, ↓zzbr, ↓zzbs, ↓zzbt, ↓zzbu, ↓zzbv, ↓zzbw, ↓zzbx, ↓zzby, ↓zzbz, ↓zzca, ↓zzcb, ↓zzcc, ↓zzcd, ↓zzce, ↓zzcf, ↓zzcg, ↓zzch, ↓zzci, ↓zzcj, ↓zzck, ↓zzcl, ↓zzcm, ↓zzcn, ↓zzco, ↓zzcp, ↓zzcq, ↓zzcr, ↓zzcs, ↓zzct, ↓zzcu, ↓zzcv, ↓zzcw, ↓zzcx, ↓zzcy, ↓zzcz, ↓zzda, ↓zzdb, ↓zzdc, ↓zzdd, zzde, ↓zzdf, ↓zzdg, ↓zzdh, ↓zzdi, ↓zzdj, ↓zzdk, ↓zzdl, ↓zzdm, ↓zzdn, ↓zzdo, ↓zzdp, ↓zzdq, zzdr, zzds, zzdt, zzdu, zzdv, zzdw, zzdx, zzdy, zzdz, zzea, zzeb, oEq, oNe, eqT, oAdd, oNeg, oAbs, oMax2, oMin2, oInt, oLen, oIsN, oNotN, oIn, oNin, inT, eqF, oIsi, oIsi2, oList, oTuple, seqT, zp, enm, two, three, ioFind, ioCount, brOk, Bop.still, Bop.isI, T.ow, T.owl, T.nob, T.nobl, T.nfz, T.nfzl, T.fz, T.fzl, Bop.fit, Bop.res, Bop.bo, zzec, zzed, zzee, zzef, zzeg, zzeh, zzei, zzej, zzef, zzeg, zzeh, zzei, zzek, zzel, List.all_cons, List.all_nil, List.any_cons, List.any_nil, zzem, zzen, zzeo, zzep, zzeq, zzer, zzes, zzet, Bool.not_false, Bool.not_true, Bool.or_false, Bool.false_or, Bool.and_true, Bool.true_and, Bool.or_true, Bool.true_or, Bool.and_false, Bool.false_and, Bool.not_not, Bool.not_eq_true', decide_eq_false_iff_not, Bool.and_eq_true, Bool.or_eq_true, true_or, or_true, false_or, or_false, true_and, and_true, false_and, and_false, Bool.false_eq_true, false_imp_iff, if_true, if_false, forall_const, implies_true, Option.some.injEq, Option.isSome_some, forall_eq', reduceCtorEq, List.cons_append, List.nil_append, List.length_cons, List.length_nil, List.length_map, List.length_append, List.length_range, zzeu, zzev, zzew, List.replicate, List.flatten_cons, List.flatten_nil, List.append_nil, Nat.reduceAdd, Nat.reduceSub, Nat.reduceLT, Nat.reduceLeDiff, List.set_cons_zero, List.set_cons_succ, decide_eq_true_eq, decide_true, decide_false, Int.reduceLT, Int.reduceLE, Int.reduceMul, Int.reducePow, Int.reduceToNat, Int.reduceAdd, Int.reduceSub, Int.reduceNeg, Int.reduceEq, Nat.reducePow, zzex, zzey, zzez, Nat.zero_add, big, zzfa, zzfb, String.reduceEq, wipeE, zzfc, zzfd, zzah, zzai, Option.getD_some, ↓zzfe, ↓zzff, ↓zzfg, ↓zzfh, ↓zzfi, ↓zzfj, ↓zzfk, ↓zzfl, ↓zzfm, ↓zzfn, ↓zzfo, ↓zzfp, ↓zzfq, ↓zzfr, ↓zzfs, ↓zzft, ↓zzfu, ↓zzfv, ↓zzfw, ↓zzfx, ↓zzfy, ↓zzfz, ↓zzga, ↓zzgb, ↓zzgc, ↓zzgd, ↓zzge, ↓zzgf, ↓zzgg, ↓zzgh, ↓zzgi, ↓zzgj, ↓zzgk, ↓zzgl, ↓zzgm, ↓zzgn, ↓zzgo, ↓zzgp, ↓zzgq, ↓zzgr, ↓zzgs, ↓zzgt, ↓zzgu, ↓zzgv, ↓zzgw, ↓zzgx, ↓zzgy, ↓zzgz, ↓zzha, ↓zzhb, ↓zzhc, ↓zzhd, ↓zzhe, ↓zzhf, ↓zzhg, ↓zzhh, ↓zzhi, ↓zzhj, ↓zzhk, ↓zzhl, ↓zzhm, ↓zzhn, ↓zzho, ↓zzhp, ↓zzhq, ↓zzhr, ↓zzhs, ↓zzht, ↓zzhl, zzhu, zzhv, zzhw, zzhx, zzhy, zzhz, zzia, zzib, zzic, zzid, zzie, zzif, zzig, zzih, zzii, zzij, zzik, zzil, zzim, zzin, zzio, zzip, zziq, zzir, zzis, zzit, zziu, zziv, zziw, zzix, zziy, zziz, zzja, zzjb, zzjc, zzjd, zzje, zzjf, zzjg, zzjh, zzji, zzjj, zzjk, zzjl, zzjm, zzjn, zzjo, zzjp, zzjq, zzjr, zzjs, zzjt, zzju, zzjv, zzjw, zzjx, zzjy, zzjz, zzka, zzkb, zzkc, zzkd, zzke, zzkf, zzkg, zzkh, zzki, zzkj, zzkk, zzkl, zzkm, zzkn, zzko, zzkp, zzkq, zzkr, zzks, zzkt, zzku, zzkv, zzkw, zzkx, zzky, zzkz, zzla, zzlb, zzlc, zzld, zzle, zzlf, zzlg, zzlh, zzli, zzlj, zzlk, zzll, zzlm, zzln, zzlo, ↓zzlp, ↓zzlq, ↓zzlr, ↓zzls, ↓zzlt, ↓zzlu, ↓zzlv, ↓zzlw, ↓zzlx, ↓zzly, ↓zzlz, ↓zzma, zzmb, zzmc, ↓zzmd, ↓zzme, ↓zzmf, ↓zzmg, ↓zzmh, zzmi, zzmj, zzmk, zzml, zzmm, zzmn, zzmo, zzmp, zzmq, zzmr, zzms, Option.bind_some, Option.map_some, ↓zzmt, ↓zzmu, ↓zzmv, ↓zzmw, ↓zzmx, ↓zzmy, ↓zzmz, ↓zzna, ↓zznb, ↓zznc, ↓zznd, ↓zzne, ↓zznf, ↓zzng, ↓zznh, ↓zzni, ↓zznj, ↓zznk, ↓zznl, great_eq, Row.ow, Row.nob, Row.nfz, Row.fz]
    exact iteB q'
  · simp only [↓zzaa, ↓zzab, ↓zzac, ↓zzad, ↓zzae, ↓zzaf, ↓zzag, ↓zzah, ↓zzai, ↓zzaj, ↓zzak, ↓zzal, ↓zzam, ↓zzan, ↓zzao, ↓zzap, ↓zzaq, ↓zzar, ↓zzas, ↓zzat, ↓zzau, ↓zzav, ↓zzaw, ↓zzax, ↓zzay, ↓zzaz, ↓zzba, ↓zzbb, ↓zzbc, ↓zzbd, ↓zzbe, ↓zzbf, ↓zzbg, ↓zzbh, ↓zzbi, ↓zzbj, ↓zzbk, ↓zzbl, ↓zzbm, ↓zzbn, ↓zzbo, ↓zzbp, ↓zzbq, ↓zzbr, ↓zzbs, ↓zzbt, ↓zzbu, ↓zzbv, ↓zzbw, ↓zzbx, ↓zzby, ↓zzbz, ↓zzca, ↓zzcb, ↓zzcc, ↓zzcd, ↓zzce, ↓zzcf, ↓zzcg, ↓zzch, ↓zzci, ↓zzcj, ↓zzck, ↓zzcl, ↓zzcm, ↓zzcn, ↓zzco, ↓zzcp, ↓zzcq, ↓zzcr, ↓zzcs, ↓zzct, ↓zzcu, ↓zzcv, ↓zzcw, ↓zzcx, ↓zzcy, ↓zzcz, ↓zzda, ↓zzdb, ↓zzdc, ↓zzdd, zzde, ↓zzdf, ↓zzdg, ↓zzdh, ↓zzdi, ↓zzdj, ↓zzdk, ↓zzdl, ↓zzdm, ↓zzdn, ↓zzdo, ↓zzdp, ↓zzdq, zzdr, zzds, zzdt, zzdu, zzdv, zzdw, zzdx, zzdy, zzdz, zzea, zzeb, oEq, oNe, eqT, oAdd, oNeg, oAbs, oMax2, oMin2, oInt, oLen, oIsN, oNotN, oIn, oNin, inT, eqF, oIsi, oIsi2, oList, oTuple, seqT, zp, enm, two, three, ioFind, ioCount, brOk, Bop.still, Bop.isI, T.ow, T.owl, T.nob, T.nobl, T.nfz, T.nfzl, T.fz, T.fzl, Bop.fit, Bop.res, Bop.bo, zzec, zzed, zzee, zzef, zzeg, zzeh, zzei, zzej, zzef, zzeg, zzeh, zzei, zzek, zzel, List.all_cons, List.all_nil, List.any_cons, List.any_nil, zzem, zzen, zzeo, zzep, zzeq, zzer, zzes, zzet, Bool.not_false, Bool.not_true, Bool.or_false, Bool.false_or, Bool.and_true, Bool.true_and, Bool.or_true, Bool.true_or, Bool.and_false, Bool.false_and, Bool.not_not, Bool.not_eq_true', decide_eq_false_iff_not, Bool.and_eq_true, Bool.or_eq_true, true_or, or_true, false_or, or_false, true_and, and_true, false_and, and_false, Bool.false_eq_true, false_imp_iff, if_true, if_false, forall_const, implies_true, Option.some.injEq, Option.isSome_some, forall_eq', reduceCtorEq, List.cons_append, List.nil_append, List.length_cons, List.length_nil, List.length_map, List.length_append, List.length_range, zzeu, zzev, zzew, List.replicate, List.flatten_cons, List.flatten_nil, List.append_nil, Nat.reduceAdd, Nat.reduceSub, Nat.reduceLT, Nat.reduceLeDiff, List.set_cons_zero, List.set_cons_succ, decide_eq_true_eq, decide_true, decide_false, Int.reduceLT, Int.reduceLE, Int.reduceMul, Int.reducePow, Int.reduceToNat, Int.reduceAdd, Int.reduceSub, Int.reduceNeg, Int.reduceEq, Nat.reducePow, zzex, zzey, zzez, Nat.zero_add, big, zzfa, zzfb, String.reduceEq, wipeE, zzfc, zzfd, zzah, zzai, Option.getD_some, ↓zzfe, ↓zzff, ↓zzfg, ↓zzfh, ↓zzfi, ↓zzfj, ↓zzfk, ↓zzfl, ↓zzfm, ↓zzfn, ↓zzfo, ↓zzfp, ↓zzfq, ↓zzfr, ↓zzfs, ↓zzft, ↓zzfu, ↓zzfv, ↓zzfw, ↓zzfx, ↓zzfy, ↓zzfz, ↓zzga, ↓zzgb, ↓zzgc, ↓zzgd, ↓zzge, ↓zzgf, ↓zzgg, ↓zzgh, ↓zzgi, ↓zzgj, ↓zzgk, ↓zzgl, ↓zzgm, ↓zzgn, ↓zzgo, ↓zzgp, ↓zzgq, ↓zzgr, ↓zzgs, ↓zzgt, ↓zzgu, ↓zzgv, ↓zzgw, ↓zzgx, ↓zzgy, ↓zzgz, ↓zzha, ↓zzhb, ↓zzhc, ↓zzhd, ↓zzhe, ↓zzhf, ↓zzhg, ↓zzhh, ↓zzhi, ↓zzhj, ↓zzhk, ↓zzhl, ↓zzhm, ↓zzhn, ↓zzho, ↓zzhp, ↓zzhq, ↓zzhr, ↓zzhs, ↓zzht, ↓zzhl, zzhu, zzhv, zzhw, zzhx, zzhy, zzhz, zzia, zzib, zzic, zzid, zzie, zzif, zzig, zzih, zzii, zzij, zzik, zzil, zzim, zzin, zzio, zzip, zziq, zzir, zzis, zzit, zziu, zziv, zziw, zzix, zziy, zziz, zzja, zzjb, zzjc, zzjd, zzje, zzjf, zzjg, zzjh, zzji, zzjj, zzjk, zzjl, zzjm, zzjn, zzjo, zzjp, zzjq, zzjr, zzjs, zzjt, zzju, zzjv, zzjw, zzjx, zzjy, zzjz, zzka, zzkb, zzkc, zzkd, zzke, zzkf, zzkg, zzkh, zzki, zzkj, zzkk, zzkl, zzkm, zzkn, zzko, zzkp, zzkq, zzkr, zzks, zzkt, zzku, zzkv, zzkw, zzkx, zzky, zzkz, zzla, zzlb, zzlc, zzld, zzle, zzlf, zzlg, zzlh, zzli, zzlj, zzlk, zzll, zzlm, zzln, zzlo, ↓zzlp, ↓zzlq, ↓zzlr, ↓zzls, ↓zzlt, ↓zzlu, ↓zzlv, ↓zzlw, ↓zzlx, ↓zzly, ↓zzlz, ↓zzma, zzmb, zzmc, ↓zzmd, ↓zzme, ↓zzmf, ↓zzmg, ↓zzmh, zzmi, zzmj, zzmk, zzml, zzmm, zzmn, zzmo, zzmp, zzmq, zzmr, zzms, Option.bind_some, Option.map_some, ↓zzmt, ↓zzmu, ↓zzmv, ↓zzmw, ↓zzmx, ↓zzmy, ↓zzmz, ↓zzna, ↓zznb, ↓zznc, ↓zznd, ↓zzne, ↓zznf, ↓zzng, ↓zznh, ↓zzni, ↓zznj, ↓zznk, ↓zznl]
    unfold greats at q
    rw [List.map_map] at q
    exact q
theorem jumps_ok {rows : List Row} {Q : T × Option T → Prop} (hl : rows.length ≤ 100000) (q : Q (.lst true ((jumps rows).map T.int), none)) : wp (f_jumps_of [.lst false (rows.map Row.t)]) Q := by
  unfold f_jumps_of b_jumps_of
  simp only [↓zzaa, ↓zzab, ↓zzac, ↓zzad, ↓zzae, ↓zzaf, ↓zzag, ↓zzah, ↓zzai, ↓zzaj, ↓zzak, ↓zzal, ↓zzam, ↓zzan, ↓zzao, ↓zzap, ↓zzaq, ↓zzar, ↓zzas, ↓zzat, ↓zzau, ↓zzav, ↓zzaw, ↓zzax, ↓zzay, ↓zzaz, ↓zzba, ↓zzbb, ↓zzbc, ↓zzbd, ↓zzbe, ↓zzbf, ↓zzbg, ↓zzbh, ↓zzbi, ↓zzbj, ↓zzbk, ↓zzbl, ↓zzbm, ↓zzbn, ↓zzbo, ↓zzbp, ↓zzbq, ↓zzbr, ↓zzbs, ↓zzbt, ↓zzbu, ↓zzbv, ↓zzbw, ↓zzbx, ↓zzby, ↓zzbz, ↓zzca, ↓zzcb, ↓zzcc, ↓zzcd, ↓zzce, ↓zzcf, ↓zzcg, ↓zzch, ↓zzci, ↓zzcj, ↓zzck, ↓zzcl, ↓zzcm, ↓zzcn, ↓zzco, ↓zzcp, ↓zzcq, ↓zzcr, ↓zzcs, ↓zzct, ↓zzcu, ↓zzcv, ↓zzcw, ↓zzcx, ↓zzcy, ↓zzcz, ↓zzda, ↓zzdb, ↓zzdc, ↓zzdd, zzde, ↓zzdf, ↓zzdg, ↓zzdh, ↓zzdi, ↓zzdj, ↓zzdk, ↓zzdl, ↓zzdm, ↓zzdn, ↓zzdo, ↓zzdp, ↓zzdq, zzdr, zzds, zzdt, zzdu, zzdv, zzdw, zzdx, zzdy, zzdz, zzea, zzeb, oEq, oNe, eqT, oAdd, oNeg, oAbs, oMax2, oMin2, oInt, oLen, oIsN, oNotN, oIn, oNin, inT, eqF, oIsi, oIsi2, oList, oTuple, seqT, zp, enm, two, three, ioFind, ioCount, brOk, Bop.still, Bop.isI, T.ow, T.owl, T.nob, T.nobl, T.nfz, T.nfzl, T.fz, T.fzl, Bop.fit, Bop.res, Bop.bo, zzec, zzed, zzee, zzef, zzeg, zzeh, zzei, zzej, zzef, zzeg, zzeh, zzei, zzek, zzel, List.all_cons, List.all_nil, List.any_cons, List.any_nil, zzem, zzen, zzeo, zzep, zzeq, zzer, zzes, zzet, Bool.not_false, Bool.not_true, Bool.or_false, Bool.false_or, Bool.and_true, Bool.true_and, Bool.or_true, Bool.true_or, Bool.and_false, Bool.false_and, Bool.not_not, Bool.not_eq_true', decide_eq_false_iff_not, Bool.and_eq_true, Bool.or_eq_true, true_or, or_true, false_or, or_false, true_and, and_true, false_and, and_false, Bool.false_eq_true, false_imp_iff, if_true, if_false, forall_const, implies_true, Option.some.injEq, Option.isSome_some, forall_eq', reduceCtorEq, List.cons_append, List.nil_append, List.length_cons, List.length_nil, List.length_map, List.length_append, List.length_range, zzeu, zzev, zzew, List.replicate, List.flatten_cons, List.flatten_nil, List.append_nil, Nat.reduceAdd, Nat.reduceSub, Nat.reduceLT, Nat.reduceLeDiff, List.set_cons_zero, List.set_cons_succ, decide_eq_true_eq, decide_true, decide_false, Int.reduceLT, Int.reduceLE, Int.reduceMul, Int.reducePow, Int.reduceToNat, Int.reduceAdd, Int.reduceSub, Int.reduceNeg, Int.reduceEq, Nat.reducePow, zzex, zzey, zzez, Nat.zero_add, big, zzfa, zzfb, String.reduceEq, wipeE, zzfc, zzfd, zzah, zzai, Option.getD_some, ↓zzfe, ↓zzff, ↓zzfg, ↓zzfh, ↓zzfi, ↓zzfj, ↓zzfk, ↓zzfl, ↓zzfm, ↓zzfn, ↓zzfo, ↓zzfp, ↓zzfq, ↓zzfr, ↓zzfs, ↓zzft, ↓zzfu, ↓zzfv, ↓zzfw, ↓zzfx, ↓zzfy, ↓zzfz, ↓zzga, ↓zzgb, ↓zzgc, ↓zzgd, ↓zzge, ↓zzgf, ↓zzgg, ↓zzgh, ↓zzgi, ↓zzgj, ↓zzgk, ↓zzgl, ↓zzgm, ↓zzgn, ↓zzgo, ↓zzgp, ↓zzgq, ↓zzgr, ↓zzgs, ↓zzgt, ↓zzgu, ↓zzgv, ↓zzgw, ↓zzgx, ↓zzgy, ↓zzgz, ↓zzha, ↓zzhb, ↓zzhc, ↓zzhd, ↓zzhe, ↓zzhf, ↓zzhg, ↓zzhh, ↓zzhi, ↓zzhj, ↓zzhk, ↓zzhl, ↓zzhm, ↓zzhn, ↓zzho, ↓zzhp, ↓zzhq, ↓zzhr, ↓zzhs, ↓zzht, ↓zzhl, zzhu, zzhv, zzhw, zzhx, zzhy, zzhz, zzia, zzib, zzic, zzid, zzie, zzif, zzig, zzih, zzii, zzij, zzik, zzil, zzim, zzin, zzio, zzip, zziq, zzir, zzis, zzit, zziu, zziv, zziw, zzix, zziy, zziz, zzja, zzjb, zzjc, zzjd, zzje, zzjf, zzjg, zzjh, zzji, zzjj, zzjk, zzjl, zzjm, zzjn, zzjo, zzjp, zzjq, zzjr, zzjs, zzjt, zzju, zzjv, zzjw, zzjx, zzjy, zzjz, zzka, zzkb, zzkc, zzkd, zzke, zzkf, zzkg, zzkh, zzki, zzkj, zzkk, zzkl, zzkm, zzkn, zzko, zzkp, zzkq, zzkr, zzks, zzkt, zzku, zzkv, zzkw, zzkx, zzky, zzkz, zzla, zzlb, zzlc, zzld, zzle, zzlf, zzlg, zzlh, zzli, zzlj, zzlk, zzll, zzlm, zzln, zzlo, ↓zzlp, ↓zzlq, ↓zzlr, ↓zzls, ↓zzlt, ↓zzlu, ↓zzlv, ↓zzlw, ↓zzlx, ↓zzly, ↓zzlz, ↓zzma, zzmb, zzmc, ↓zzmd, ↓zzme, ↓zzmf, ↓zzmg, ↓zzmh, zzmi, zzmj, zzmk, zzml, zzmm, zzmn, zzmo, zzmp, zzmq, zzmr, zzms, Option.bind_some, Option.map_some, ↓zzmt, ↓zzmu, ↓zzmv, ↓zzmw, ↓zzmx, ↓zzmy, ↓zzmz, ↓zzna, ↓zznb, ↓zznc, ↓zznd, ↓zzne, ↓zznf, ↓zzng, ↓zznh, ↓zzni, ↓zznj, ↓zznk, ↓zznl, Row.ow, Row.nob, Row.nfz, Row.fz]
  refine ⟨by simpa using by omega, lc_filter (p := fun x => x.1.jump) (h := fun x => T.int (x.2 : Nat)) (fun x hx Q' q' => ?_) ?_⟩
  · obtain ⟨r, k⟩ := x
    cases r <;> simp only [Row.t] <;> simp only [↓zzaa, ↓zzab, ↓zzac, ↓zzad, ↓zzae, ↓zzaf, ↓zzag, ↓zzah, ↓zzai, ↓zzaj, ↓zzak, ↓zzal, ↓zzam, ↓zzan, ↓zzao, ↓zzap, ↓zzaq, ↓zzar, ↓zzas, ↓zzat, ↓zzau, ↓zzav, ↓zzaw, ↓zzax, ↓zzay, ↓zzaz, ↓zzba, ↓zzbb, ↓zzbc, ↓zzbd, ↓zzbe, ↓zzbf, ↓zzbg, ↓zzbh, ↓zzbi, ↓zzbj, ↓zzbk, ↓zzbl, ↓zzbm, ↓zzbn, ↓zzbo, ↓zzbp, ↓zzbq, ↓zzbr, ↓zzbs, ↓zzbt, ↓zzbu, ↓zzbv, ↓zzbw, ↓zzbx, ↓zzby, ↓zzbz, ↓zzca, ↓zzcb, ↓zzcc, ↓zzcd, ↓zzce, ↓zzcf, ↓zzcg, ↓zzch, ↓zzci, ↓zzcj, ↓zzck, ↓zzcl, ↓zzcm, ↓zzcn, ↓zzco, ↓zzcp, ↓zzcq, ↓zzcr, ↓zzcs, ↓zzct, ↓zzcu, ↓zzcv, ↓zzcw, ↓zzcx, ↓zzcy, ↓zzcz, ↓zzda, ↓zzdb, ↓zzdc, ↓zzdd, zzde, ↓zzdf, ↓zzdg, ↓zzdh, ↓zzdi, ↓zzdj, ↓zzdk, ↓zzdl, ↓zzdm, ↓zzdn, ↓zzdo, ↓zzdp, ↓zzdq, zzdr, zzds, zzdt, zzdu, zzdv, zzdw, zzdx, zzdy, zzdz, zzea, zzeb, oEq, oNe, eqT, oAdd, oNeg, oAbs, oMax2, oMin2, oInt, oLen, oIsN, oNotN, oIn, oNin, inT, eqF, oIsi, oIsi2, oList, oTuple, seqT, zp, enm, two, three, ioFind, ioCount, brOk, Bop.still, Bop.isI, T.ow, T.owl, T.nob, T.nobl, T.nfz, T.nfzl, T.fz, T.fzl, Bop.fit, Bop.res, Bop.bo, zzec, zzed, zzee, zzef, zzeg, zzeh, zzei, zzej, zzef, zzeg, zzeh, zzei, zzek, zzel, List.all_cons, List.all_nil, List.any_cons, List.any_nil, zzem, zzen, zzeo, zzep, zzeq, zzer, zzes, zzet, Bool.not_false, Bool.not_true, Bool.or_false, Bool.false_or, Bool.and_true, Bool.true_and, Bool.or_true, Bool.true_or, Bool.and_false, Bool.false_and, Bool.not_not, Bool.not_eq_true', decide_eq_false_iff_not, Bool.and_eq_true, Bool.or_eq_true, true_or, or_true, false_or, or_false, true_and, and_true, false_and, and_false, Bool.false_eq_true, false_imp_iff, if_true, if_false, forall_const, implies_true, Option.some.injEq, Option.isSome_some, forall_eq', reduceCtorEq, List.cons_append, List.nil_append, List.length_cons, List.length_nil, List.length_map, List.length_append, List.length_range, zzeu, zzev, zzew, List.replicate, List.flatten_cons, List.flatten_nil, List.append_nil, Nat.reduceAdd, Nat.reduceSub, Nat.reduceLT, Nat.reduceLeDiff, List.set_cons_zero, List.set_cons_succ, decide_eq_true_eq, decide_true, decide_false, Int.reduceLT, Int.reduceLE, Int.reduceMul, Int.reducePow, Int.reduceToNat, Int.reduceAdd, Int.reduceSub, Int.reduceNeg, Int.reduceEq, Nat.reducePow, zzex, zzey, zzez, Nat.zero_add, big, zzfa, zzfb, String.reduceEq, wipeE, zzfc, zzfd, zzah, zzai, Option.getD_some, ↓zzfe, ↓zzff, ↓zzfg, ↓zzfh, ↓zzfi, ↓zzfj, ↓zzfk, ↓zzfl, ↓zzfm, ↓zzfn, ↓zzfo, ↓zzfp, ↓zzfq, ↓zzfr, ↓zzfs, ↓zzft, ↓zzfu, ↓zzfv, ↓zzfw, ↓zzfx, ↓zzfy, ↓zzfz, ↓zzga, ↓zzgb, ↓zzgc, ↓zzgd, ↓zzge, ↓zzgf, ↓zzgg, ↓zzgh, ↓zzgi, ↓zzgj, ↓zzgk, ↓zzgl, ↓zzgm, ↓zzgn, ↓zzgo, ↓zzgp, ↓zzgq, ↓zzgr, ↓zzgs, ↓zzgt, ↓zzgu, ↓zzgv, ↓zzgw, ↓zzgx, ↓zzgy, ↓zzgz, ↓zzha, ↓zzhb, ↓zzhc, ↓zzhd, ↓zzhe, ↓zzhf, ↓zzhg, ↓zzhh, ↓zzhi, ↓zzhj, ↓zzhk, ↓zzhl, ↓zzhm, ↓zzhn, ↓zzho, ↓zzhp, ↓zzhq, ↓zzhr, ↓zzhs, ↓zzht, ↓zzhl, zzhu, zzhv, zzhw, zzhx, zzhy, zzhz, zzia, zzib, zzic, zzid, zzie, zzif, zzig, zzih, zzii, zzij, zzik, zzil, zzim, zzin, zzio, zzip, zziq, zzir, zzis, zzit, zziu, zziv, zziw, zzix, zziy, zziz, zzja, zzjb, zzjc, zzjd, zzje, zzjf, zzjg, zzjh, zzji, zzjj, zzjk, zzjl, zzjm, zzjn, zzjo, zzjp, zzjq, zzjr, zzjs, zzjt, zzju, zzjv, zzjw, zzjx, zzjy, zzjz, zzka, zzkb, zzkc, zzkd, zzke, zzkf, zzkg, zzkh, zzki, zzkj, zzkk, zzkl, zzkm, zzkn, zzko, zzkp, zzkq, zzkr, zzks, zzkt, zzku, zzkv, zzkw, zzkx, zzky, zzkz, zzla, zzlb, zzlc, zzld, zzle, zzlf, zzlg, zzlh, zzli, zzlj, zzlk, zzll, zzlm, zzln, zzlo, ↓zzlp, ↓zzlq, ↓zzlr, ↓zzls, ↓zzlt, ↓zzlu, ↓zzlv, ↓zzlw, ↓zzlx, ↓zzly, ↓zzlz, ↓zzma, zzmb, zzmc, ↓zzmd, ↓zzme, ↓zzmf, ↓zzmg, ↓zzmh, zzmi, zzmj, zzmk, zzml, zzmm, zzmn, zzmo, zzmp, zzmq, zzmr, zzms, Option.bind_some, Option.map_some, ↓zzmt, ↓zzmu, ↓zzmv, ↓zzmw, ↓zzmx, ↓zzmy, ↓zzmz, ↓zzna, ↓zznb, ↓zznc, ↓zznd, ↓zzne, ↓zznf, ↓zzng, ↓zznh, ↓zzni, ↓zznj, ↓zznk, ↓zznl] <;> exact q'
  · simp only [↓zzaa, ↓zzab, ↓zzac, ↓zzad, ↓zzae, ↓zzaf, ↓zzag, ↓zzah, ↓zzai, ↓zzaj, ↓zzak, ↓zzal, ↓zzam, ↓zzan, ↓zzao, ↓zzap, ↓zzaq, ↓zzar, ↓zzas, ↓zzat, ↓zzau, ↓zzav, ↓zzaw, ↓zzax, ↓zzay, ↓zzaz, ↓zzba, ↓zzbb, ↓zzbc, ↓zzbd, ↓zzbe, ↓zzbf, ↓zzbg, ↓zzbh, ↓zzbi, ↓zzbj, ↓zzbk, ↓zzbl, ↓zzbm, ↓zzbn, ↓zzbo, ↓zzbp, ↓zzbq, ↓zzbr, ↓zzbs, ↓zzbt, ↓zzbu, ↓zzbv, ↓zzbw, ↓zzbx, ↓zzby, ↓zzbz, ↓zzca, ↓zzcb, ↓zzcc, ↓zzcd, ↓zzce, ↓zzcf, ↓zzcg, ↓zzch, ↓zzci, ↓zzcj, ↓zzck, ↓zzcl, ↓zzcm, ↓zzcn, ↓zzco, ↓zzcp, ↓zzcq, ↓zzcr, ↓zzcs, ↓zzct, ↓zzcu, ↓zzcv, ↓zzcw, ↓zzcx, ↓zzcy, ↓zzcz, ↓zzda, ↓zzdb, ↓zzdc, ↓zzdd, zzde, ↓zzdf, ↓zzdg, ↓zzdh, ↓zzdi, ↓zzdj, ↓zzdk, ↓zzdl, ↓zzdm, ↓zzdn, ↓zzdo, ↓zzdp, ↓zzdq, zzdr, zzds, zzdt, zzdu, zzdv, zzdw, zzdx, zzdy, zzdz, zzea, zzeb, oEq, oNe, eqT, oAdd, oNeg, oAbs, oMax2, oMin2, oInt, oLen, oIsN, oNotN, oIn, oNin, inT, eqF, oIsi, oIsi2, oList, oTuple, seqT, zp, enm, two, three, ioFind, ioCount, brOk, Bop.still, Bop.isI, T.ow, T.owl, T.nob, T.nobl, T.nfz, T.nfzl, T.fz, T.fzl, Bop.fit, Bop.res, Bop.bo, zzec, zzed, zzee, zzef, zzeg, zzeh, zzei, zzej, zzef, zzeg, zzeh, zzei, zzek, zzel, List.all_cons, List.all_nil, List.any_cons, List.any_nil, zzem, zzen, zzeo, zzep, zzeq, zzer, zzes, zzet, Bool.not_false, Bool.not_true, Bool.or_false, Bool.false_or, Bool.and_true, Bool.true_and, Bool.or_true, Bool.true_or, Bool.and_false, Bool.false_and, Bool.not_not, Bool.not_eq_true', decide_eq_false_iff_not, Bool.and_eq_true, Bool.or_eq_true, true_or, or_true, false_or, or_false, true_and, and_true, false_and, and_false, Bool.false_eq_true, false_imp_iff, if_true, if_false, forall_const, implies_true, Option.some.injEq, Option.isSome_some, forall_eq', reduceCtorEq, List.cons_append, List.nil_append, List.length_cons, List.length_nil, List.length_map, List.length_append, List.length_range, zzeu, zzev, zzew, List.replicate, List.flatten_cons, List.flatten_nil, List.append_nil, Nat.reduceAdd, Nat.reduceSub, Nat.reduceLT, Nat.reduceLeDiff, List.set_cons_zero, List.set_cons_succ, decide_eq_true_eq, decide_true, decide_false, Int.reduceLT, Int.reduceLE, Int.reduceMul, Int.reducePow, Int.reduceToNat, Int.reduceAdd, Int.reduceSub, Int.reduceNeg, Int.reduceEq, Nat.reducePow, zzex, zzey, zzez, Nat.zero_add, big, zzfa, zzfb, String.reduceEq, wipeE, zzfc, zzfd, zzah, zzai, Option.getD_some, ↓zzfe, ↓zzff, ↓zzfg, ↓zzfh, ↓zzfi, ↓zzfj, ↓zzfk, ↓zzfl, ↓zzfm, ↓zzfn, ↓zzfo, ↓zzfp, ↓zzfq, ↓zzfr, ↓zzfs, ↓zzft, ↓zzfu, ↓zzfv, ↓zzfw, ↓zzfx, ↓zzfy, ↓zzfz, ↓zzga, ↓zzgb, ↓zzgc, ↓zzgd, ↓zzge, ↓zzgf, ↓zzgg, ↓zzgh, ↓zzgi, ↓zzgj, ↓zzgk, ↓zzgl, ↓zzgm, ↓zzgn, ↓zzgo, ↓zzgp, ↓zzgq, ↓zzgr, ↓zzgs, ↓zzgt, ↓zzgu, ↓zzgv, ↓zzgw, ↓zzgx, ↓zzgy, ↓zzgz, ↓zzha, ↓zzhb, ↓zzhc, ↓zzhd, ↓zzhe, ↓zzhf, ↓zzhg, ↓zzhh, ↓zzhi, ↓zzhj, ↓zzhk, ↓zzhl, ↓zzhm, ↓zzhn, ↓zzho, ↓zzhp, ↓zzhq, ↓zzhr, ↓zzhs, ↓zzht, ↓zzhl, zzhu, zzhv, zzhw, zzhx, zzhy, zzhz, zzia, zzib, zzic, zzid, zzie, zzif, zzig, zzih, zzii, zzij, zzik, zzil, zzim, zzin, zzio, zzip, zziq, zzir, zzis, zzit, zziu, zziv, zziw, zzix, zziy, zziz, zzja, zzjb, zzjc, zzjd, zzje, zzjf, zzjg, zzjh, zzji, zzjj, zzjk, zzjl, zzjm, zzjn, zzjo, zzjp, zzjq, zzjr, zzjs, zzjt, zzju, zzjv, zzjw, zzjx, zzjy, zzjz, zzka, zzkb, zzkc, zzkd, zzke, zzkf, zzkg, zzkh, zzki, zzkj, zzkk, zzkl, zzkm, zzkn, zzko, zzkp, zzkq, zzkr, zzks, zzkt, zzku, zzkv, zzkw, zzkx, zzky, zzkz, zzla, zzlb, zzlc, zzld, zzle, zzlf, zzlg, zzlh, zzli, zzlj, zzlk, zzll, zzlm, zzln, zzlo, ↓zzlp, ↓zzlq, ↓zzlr, ↓zzls, ↓zzlt, ↓zzlu, ↓zzlv, ↓zzlw, ↓zzlx, ↓zzly, ↓zzlz, ↓zzma, zzmb, zzmc, ↓zzmd, ↓zzme, ↓zzmf, ↓zzmg, ↓zzmh, zzmi, zzmj, zzmk, zzml, zzmm, zzmn, zzmo, zzmp, zzmq, zzmr, zzms, Option.bind_some, Option.map_some, ↓zzmt, ↓zzmu, ↓zzmv, ↓zzmw, ↓zzmx, ↓zzmy, ↓zzmz, ↓zzna, ↓zznb, ↓zznc, ↓zznd, ↓zzne, ↓zznf, ↓zzng, ↓zznh, ↓zzni, ↓zznj, ↓zznk, ↓zznl]
    unfold jumps at q
    rw [List.map_map] at q
    exact q
theorem falls_eq {r : Row} {Q : T × Option T → Prop} : wp (f_falls [r.t]) Q = Q (.bl r.falls, none) := by
  unfold f_falls b_falls
  cases r <;> simp only [Row.t, Row.falls] <;> simp only [↓zzaa, ↓zzab, ↓zzac, ↓zzad, ↓zzae, ↓zzaf, ↓zzag, ↓zzah, ↓zzai, ↓zzaj, ↓zzak, ↓zzal, ↓zzam, ↓zzan, ↓zzao, ↓zzap, ↓zzaq, ↓zzar, ↓zzas, ↓zzat, ↓zzau, ↓zzav, ↓zzaw, ↓zzax, ↓zzay, ↓zzaz, ↓zzba, ↓zzbb, ↓zzbc, ↓zzbd, ↓zzbe, ↓zzbf, ↓zzbg, ↓zzbh, ↓zzbi, ↓zzbj, ↓zzbk, ↓zzbl, ↓zzbm, ↓zzbn, ↓zzbo, ↓zzbp, ↓zzbq, ↓zzbr, ↓zzbs, ↓zzbt, ↓zzbu, ↓zzbv, ↓zzbw, ↓zzbx, ↓zzby, ↓zzbz, ↓zzca, ↓zzcb, ↓zzcc, ↓zzcd, ↓zzce, ↓zzcf, ↓zzcg, ↓zzch, ↓zzci, ↓zzcj, ↓zzck, ↓zzcl, ↓zzcm, ↓zzcn, ↓zzco, ↓zzcp, ↓zzcq, ↓zzcr, ↓zzcs, ↓zzct, ↓zzcu, ↓zzcv, ↓zzcw, ↓zzcx, ↓zzcy, ↓zzcz, ↓zzda, ↓zzdb, ↓zzdc, ↓zzdd, zzde, ↓zzdf, ↓zzdg, ↓zzdh, ↓zzdi, ↓zzdj, ↓zzdk, ↓zzdl, ↓zzdm, ↓zzdn, ↓zzdo, ↓zzdp, ↓zzdq, zzdr, zzds, zzdt, zzdu, zzdv, zzdw, zzdx, zzdy, zzdz, zzea, zzeb, oEq, oNe, eqT, oAdd, oNeg, oAbs, oMax2, oMin2, oInt, oLen, oIsN, oNotN, oIn, oNin, inT, eqF, oIsi, oIsi2, oList, oTuple, seqT, zp, enm, two, three, ioFind, ioCount, brOk, Bop.still, Bop.isI, T.ow, T.owl, T.nob, T.nobl, T.nfz, T.nfzl, T.fz, T.fzl, Bop.fit, Bop.res, Bop.bo, zzec, zzed, zzee, zzef, zzeg, zzeh, zzei, zzej, zzef, zzeg, zzeh, zzei, zzek, zzel, List.all_cons, List.all_nil, List.any_cons, List.any_nil, zzem, zzen, zzeo, zzep, zzeq, zzer, zzes, zzet, Bool.not_false, Bool.not_true, Bool.or_false, Bool.false_or, Bool.and_true, Bool.true_and, Bool.or_true, Bool.true_or, Bool.and_false, Bool.false_and, Bool.not_not, Bool.not_eq_true', decide_eq_false_iff_not, Bool.and_eq_true, Bool.or_eq_true, true_or, or_true, false_or, or_false, true_and, and_true, false_and, and_false, Bool.false_eq_true, false_imp_iff, if_true, if_false, forall_const, implies_true, Option.some.injEq, Option.isSome_some, forall_eq', reduceCtorEq, List.cons_append, List.nil_append, List.length_cons, List.length_nil, List.length_map, List.length_append, List.length_range, zzeu, zzev, zzew, List.replicate, List.flatten_cons, List.flatten_nil, List.append_nil, Nat.reduceAdd, Nat.reduceSub, Nat.reduceLT, Nat.reduceLeDiff, List.set_cons_zero, List.set_cons_succ, decide_eq_true_eq, decide_true, decide_false, Int.reduceLT, Int.reduceLE, Int.reduceMul, Int.reducePow, Int.reduceToNat, Int.reduceAdd, Int.reduceSub, Int.reduceNeg, Int.reduceEq, Nat.reducePow, zzex, zzey, zzez, Nat.zero_add, big, zzfa, zzfb, String.reduceEq, wipeE, zzfc, zzfd, zzah, zzai, Option.getD_some, ↓zzfe, ↓zzff, ↓zzfg, ↓zzfh, ↓zzfi, ↓zzfj, ↓zzfk, ↓zzfl, ↓zzfm, ↓zzfn, ↓zzfo, ↓zzfp, ↓zzfq, ↓zzfr, ↓zzfs, ↓zzft, ↓zzfu, ↓zzfv, ↓zzfw, ↓zzfx, ↓zzfy, ↓zzfz, ↓zzga, ↓zzgb, ↓zzgc, ↓zzgd, ↓zzge, ↓zzgf, ↓zzgg, ↓zzgh, ↓zzgi, ↓zzgj, ↓zzgk, ↓zzgl, ↓zzgm, ↓zzgn, ↓zzgo, ↓zzgp, ↓zzgq, ↓zzgr, ↓zzgs, ↓zzgt, ↓zzgu, ↓zzgv, ↓zzgw, ↓zzgx, ↓zzgy, ↓zzgz, ↓zzha, ↓zzhb, ↓zzhc, ↓zzhd, ↓zzhe, ↓zzhf, ↓zzhg, ↓zzhh, ↓zzhi, ↓zzhj, ↓zzhk, ↓zzhl, ↓zzhm, ↓zzhn, ↓zzho, ↓zzhp, ↓zzhq, ↓zzhr, ↓zzhs, ↓zzht, ↓zzhl, zzhu, zzhv, zzhw, zzhx, zzhy, zzhz, zzia, zzib, zzic, zzid, zzie, zzif, zzig, zzih, zzii, zzij, zzik, zzil, zzim, zzin, zzio, zzip, zziq, zzir, zzis, zzit, zziu, zziv, zziw, zzix, zziy, zziz, zzja, zzjb, zzjc, zzjd, zzje, zzjf, zzjg, zzjh, zzji, zzjj, zzjk, zzjl, zzjm, zzjn, zzjo, zzjp, zzjq, zzjr, zzjs, zzjt, zzju, zzjv, zzjw, zzjx, zzjy, zzjz, zzka, zzkb, zzkc, zzkd, zzke, zzkf, zzkg, zzkh, zzki, zzkj, zzkk, zzkl, zzkm, zzkn, zzko, zzkp, zzkq, zzkr, zzks, zzkt, zzku, zzkv, zzkw, zzkx, zzky, zzkz, zzla, zzlb, zzlc, zzld, zzle, zzlf, zzlg, zzlh, zzli, zzlj, zzlk, zzll, zzlm, zzln, zzlo, ↓zzlp, ↓zzlq, ↓zzlr, ↓zzls, ↓zzlt, ↓zzlu, ↓zzlv, ↓zzlw, ↓zzlx, ↓zzly, ↓zzlz, ↓zzma, zzmb, zzmc, ↓zzmd, ↓zzme, ↓zzmf, ↓zzmg, ↓zzmh, zzmi, zzmj, zzmk, zzml, zzmm, zzmn, zzmo, zzmp, zzmq, zzmr, zzms, Option.bind_some, Option.map_some, ↓zzmt, ↓zzmu, ↓zzmv, ↓zzmw, ↓zzmx, ↓zzmy, ↓zzmz, ↓zzna, ↓zznb, ↓zznc, ↓zznd, ↓zzne, ↓zznf, ↓zzng, ↓zznh, ↓zzni, ↓zznj, ↓zznk, ↓zznl]
theorem rt_set {r n : Int} : (Row.set r n).t = .tup [.str "set", .int r, .int n] := rfl
theorem rt_sum {r n : Int} : (Row.sum r n).t = .tup [.str "sum", .int r, .int n] := rfl
theorem rt_less {r n : Int} : (Row.less r n).t = .tup [.str "less", .int r, .int n] := rfl
theorem rt_tell {r : Int} : (Row.tell r).t = .tup [.str "tell", .int r] := rfl
theorem rt_go {n : Int} : (Row.go n).t = .tup [.str "go", .int n] := rfl
theorem rt_nil {r n : Int} : (Row.nil r n).t = .tup [.str "nil", .int r, .int n] := rfl
theorem rt_stop : Row.stop.t = .tup [.str "stop"] := rfl
theorem iteP {c : Prop} [Decidable c] {α : Type} {x y : α} {env : En} {Q : α × En → Prop} (h : Q (if decide c = true then x else y, env)) : if c then Q (x, env) else Q (y, env) := by by_cases w : c <;> simp_all
theorem range_zip {g : Row → Bool} : ∀ (rows : List Row) (s : Nat), ((rows.zipIdx s).filter fun p => g p.1).map (fun p => p.2) = ((List.range rows.length).filter fun k => (rows[k]?.map g).getD false).map (fun k => k + s)
  | [], s => rfl
  | r :: rows, s => by
    have ih := range_zip (g := g) rows (s + 1)
    rw [List.zipIdx_cons, List.length_cons, List.range_succ_eq_map, List.filter_cons, List.filter_cons, List.filter_map]
    have e : (fun k => (((r :: rows)[k]?).map g).getD false) ∘ Nat.succ = fun k => (rows[k]?.map g).getD false := rfl
    rw [e]
    have e2 : ∀ L : List Nat, (L.map Nat.succ).map (fun k => k + s) = L.map (fun k => k + (s + 1)) := fun L => by
      rw [List.map_map]
      refine List.map_congr_left fun k _ => ?_
      show k + 1 + s = k + (s + 1)
      omega
    cases hg : g r <;> simp only [hg, List.getElem?_cons_zero, Option.map_some, Option.getD_some, if_true, Bool.false_eq_true, if_false, List.map_cons, e2, ih, Nat.zero_add]
theorem greats_range {rows : List Row} : (((List.range rows.length).filter fun k => (rows[k]?.map Row.great).getD false).map fun k : Nat => T.int k) = (greats rows).map T.int := by
  have e := range_zip (g := Row.great) rows 0
  unfold greats
  rw [List.map_map, show (T.int ∘ fun p : Row × Nat => (p.2 : Int)) = (fun k : Nat => T.int k) ∘ (fun p : Row × Nat => p.2) from rfl, ← List.map_map, e, List.map_map]
  rfl
theorem jumps_range {rows : List Row} : (((List.range rows.length).filter fun k => (rows[k]?.map Row.jump).getD false).map fun k : Nat => T.int k) = (jumps rows).map T.int := by
  have e := range_zip (g := Row.jump) rows 0
  unfold jumps
  rw [List.map_map, show (T.int ∘ fun p : Row × Nat => (p.2 : Int)) = (fun k : Nat => T.int k) ∘ (fun p : Row × Nat => p.2) from rfl, ← List.map_map, e, List.map_map]
  rfl
theorem greats_len {rows : List Row} : (greats rows).length ≤ rows.length := by
  unfold greats
  rw [List.length_map]
  exact Nat.le_trans (List.length_filter_le _ _) (by simp)
theorem jumps_len {rows : List Row} : (jumps rows).length ≤ rows.length := by
  unfold jumps
  rw [List.length_map]
  exact Nat.le_trans (List.length_filter_le _ _) (by simp)
theorem Row.dat {r : Row} : Dat 1 r.t := by
  cases r <;> simp only [Row.t] <;> refine Dat.tup (n := 0) ?_ <;> repeat (first | exact al_nil | refine al_cons (by first | exact .int | exact .str (by decide +kernel)) ?_)
theorem rows_dat {rows : List Row} : ∀ x, x ∈ rows.map Row.t → Dat 1 x := fun x h => by
  obtain ⟨r, _, rfl⟩ := List.mem_map.mp h
  exact Row.dat
theorem dat_pd {n : Nat} {xs : List T} (h : ∀ x, x ∈ xs → Dat n x) (hn : n ≤ 63) : ∃ d, (∀ o, T.pd (.lst o xs) = some d) ∧ SeqAt.shaped d = true ∧ PyData.eqv d d = true := by
  obtain ⟨ds, h1, h2, h3⟩ := dat_all h
  have hc : PyData.canLay0 (.list ds) = true := by simpa only [PyData.canLay0] using h2
  refine ⟨.list ds, fun o => by simp only [T.pd, h1, Option.map_some], ?_, SeqAt.eqv_refl _ hc⟩
  unfold SeqAt.shaped
  have hd : PyData.depth (.list ds) ≤ 64 := by simp only [PyData.depth]; omega
  rw [hc, Bool.true_and]
  exact decide_eq_true hd
end NP
end
section
namespace NP
open PySem L2 QL
def b_law_k03 : SM :=
  sSeq (sFor (iRng rng1 (aCons (bE (eOp oAdd (aCons (bE (eC (.int 1))) (aCons (bE (eOp oMin2 (aCons (bE (eC (.int 10))) (aCons (bE (eOp oLen (aCons (bV 0) (aNil)))) (aNil))))) aNil)))) (aNil))) (gN 1)
    (sSeq (sAsg (eCall none none f__law_tape (aCons (bV 0) (aCons (bV 1) (aNil)))) (gN 2))
    (sSeq (sAsg (eCall (some 0) (some 2) f__law_rows (aCons (bIo 2) (aNil))) (gN 3))
    (sSeq (sAsg (eLd 3 (eOp oLen (aCons (bE (eLc (iSeq (bV 3)) (gN 13) (tAndS (tV (eOp oEq (aCons (bE (eOp oIx (aCons (bV 13) (aCons (bE (eC (.int 0))) aNil)))) (aCons (bE (eC (.str "set"))) aNil)))) (tV (eOp oGt (aCons (bE (eOp oIx (aCons (bV 13) (aCons (bE (eC (.int 2))) aNil)))) (aCons (bE (eC (.int 99))) aNil))))) (eVar 13) [13])) (aNil)))) (gN 4))
    (sSeq (sFor (iSeq (bE (eOp oAdd (aCons (bE (eLst (aCons (bE (eC (.int 99))) (aCons (bE (eC (.int 0))) (aNil))))) (aCons (bE (eOp oMul (aCons (bE (eLst (aCons (bE (eC (.int 100))) (aCons (bE (eC (.int 101))) (aNil))))) (aCons (bE (eOp oInt (aCons (bE (eOp oLt (aCons (bV 4) (aCons (bE (eC (.int 59))) aNil)))) (aNil)))) aNil)))) aNil))))) (gN 5)
    (sDrop (eMut 3 T.isLst mInsert (aCons (bE (eCall (some 0) (some 2) f__law_take (aCons (bIo 2) (aCons (bE (eOp oAdd (aCons (bE (eOp oLen (aCons (bV 3) (aNil)))) (aCons (bE (eC (.int 1))) aNil)))) (aNil))))) (aCons (bE (eTup (aCons (bE (eC (.str "set"))) (aCons (bE (eCall (some 0) (some 2) f__law_take (aCons (bIo 2) (aCons (bE (eC (.int 5))) (aNil))))) (aCons (bE (eVar 5)) (aNil)))))) (aNil))))))
    (sSeq (sAsg (eOp oList (aCons (bV 3) (aNil))) (gN 6))
    (sSeq (sAsg (eLc (iRng rng1 (aCons (bE (eOp oLen (aCons (bV 3) (aNil)))) (aNil))) (gN 12) (tAndS (tV (eOp oEq (aCons (bE (eOp oIx (aCons (bE (eOp oIx (aCons (bV 3) (aCons (bV 12) aNil)))) (aCons (bE (eC (.int 0))) aNil)))) (aCons (bE (eC (.str "set"))) aNil)))) (tV (eOp oGe (aCons (bE (eOp oIx (aCons (bE (eOp oIx (aCons (bV 3) (aCons (bV 12) aNil)))) (aCons (bE (eC (.int 2))) aNil)))) (aCons (bE (eC (.int 100))) aNil))))) (eVar 12) [12]) (gN 7))
    (sSeq (sAsg (eLc (iRng rng1 (aCons (bE (eOp oLen (aCons (bV 3) (aNil)))) (aNil))) (gN 12) (tOrS (tV (eOp oEq (aCons (bE (eOp oIx (aCons (bE (eOp oIx (aCons (bV 3) (aCons (bV 12) aNil)))) (aCons (bE (eC (.int 0))) aNil)))) (aCons (bE (eC (.str "go"))) aNil)))) (tV (eOp oEq (aCons (bE (eOp oIx (aCons (bE (eOp oIx (aCons (bV 3) (aCons (bV 12) aNil)))) (aCons (bE (eC (.int 0))) aNil)))) (aCons (bE (eC (.str "nil"))) aNil))))) (eVar 12) [12]) (gN 8))
    (sSeq (sFor (iRng rng1 (aCons (bE (eC (.int 2))) (aNil))) (gN 9)
    (sSeq (sAsg (eLst (aCons (bE (eCall none none f_greats_of (aCons (bE (eAl 3)) (aNil)))) (aCons (bE (eCall none none f_jumps_of (aCons (bE (eAl 3)) (aNil)))) (aNil)))) (gN 11))
    (sSeq (sIf (tOrS (tNotS (tV (eCall none none (f__law_same 12) (aCons (bV 11) (aCons (bE (eLst (aCons (bE (eAl 7)) (aCons (bE (eAl 8)) (aNil))))) (aNil)))))) (tV (eOp oNe (aCons (bV 3) (aCons (bV 6) aNil))))) (sRet (eC (.bl false))) (sNil))
    (sSeq (sDrop (eMutP 11 [.ix 0] T.isLst mAppend (aCons (bE (eOp oNeg (aCons (bE (eC (.int 1))) aNil))) (aNil))))
    (sSeq (sDrop (eMutP 11 [.ix 1] T.isLst mReverse aNil))
    (sDrop (eMutP 11 [.ix 1] T.isLst mAppend (aCons (bE (eC (.int 99))) (aNil)))))))))
    (sSeq (sAsg (eLc (iSeq (bE (eAl 3))) (gN 13) (cYes) (eOp oIn (aCons (bE (eOp oIx (aCons (bV 13) (aCons (bE (eC (.int 0))) aNil)))) (aCons (bE (eTup (aCons (bE (eC (.str "set"))) (aCons (bE (eC (.str "sum"))) (aCons (bE (eC (.str "less"))) (aCons (bE (eC (.str "tell"))) (aCons (bE (eC (.str "nil"))) (aNil)))))))) aNil))) [13]) (gN 10))
    (sIf (tNotS (tV (eCall none none (f__law_same 12) (aCons (bE (eLc (iSeq (bE (eAl 3))) (gN 13) (cYes) (eCall none none f_falls (aCons (bV 13) (aNil))) [13])) (aCons (bE (eAl 10)) (aNil)))))) (sRet (eC (.bl false))) (sNil))))))))))))
    (sRet (eC (.bl true)))
def f_law_k03 : Fn := fnN 1 14 none b_law_k03
theorem law_true (ns : List Int) (h : ns.length ≤ 63) : f_law_k03 [.lk (ns.map T.int)] = .ok (.bl true, none) := by
  suffices wp (f_law_k03 [.lk (ns.map T.int)]) fun r => r = (.bl true, none) by
    obtain ⟨r, e, rfl⟩ := this
    exact e
  have hs := scr h
  unfold f_law_k03 b_law_k03
  simp only [↓zzaa, ↓zzab, ↓zzac, ↓zzad, ↓zzae, ↓zzaf, ↓zzag, ↓zzah, ↓zzai, ↓zzaj, ↓zzak, ↓zzal, ↓zzam, ↓zzan, ↓zzao, ↓zzap, ↓zzaq, ↓zzar, ↓zzas, ↓zzat, ↓zzau, ↓zzav, ↓zzaw, ↓zzax, ↓zzay, ↓zzaz, ↓zzba, ↓zzbb, ↓zzbc, ↓zzbd, ↓zzbe, ↓zzbf, ↓zzbg, ↓zzbh, ↓zzbi, ↓zzbj, ↓zzbk, ↓zzbl, ↓zzbm, ↓zzbn, ↓zzbo, ↓zzbp, ↓zzbq, ↓zzbr, ↓zzbs, ↓zzbt, ↓zzbu, ↓zzbv, ↓zzbw, ↓zzbx, ↓zzby, ↓zzbz, ↓zzca, ↓zzcb, ↓zzcc, ↓zzcd, ↓zzce, ↓zzcf, ↓zzcg, ↓zzch, ↓zzci, ↓zzcj, ↓zzck, ↓zzcl, ↓zzcm, ↓zzcn, ↓zzco, ↓zzcp, ↓zzcq, ↓zzcr, ↓zzcs, ↓zzct, ↓zzcu, ↓zzcv, ↓zzcw, ↓zzcx, ↓zzcy, ↓zzcz, ↓zzda, ↓zzdb, ↓zzdc, ↓zzdd, zzde, ↓zzdf, ↓zzdg, ↓zzdh, ↓zzdi, ↓zzdj, ↓zzdk, ↓zzdl, ↓zzdm, ↓zzdn, ↓zzdo, ↓zzdp, ↓zzdq, zzdr, zzds, zzdt, zzdu, zzdv, zzdw, zzdx, zzdy, zzdz, zzea, zzeb, oEq, oNe, eqT, oAdd, oNeg, oAbs, oMax2, oMin2, oInt, oLen, oIsN, oNotN, oIn, oNin, inT, eqF, oIsi, oIsi2, oList, oTuple, seqT, zp, enm, two, three, ioFind, ioCount, brOk, Bop.still, Bop.isI, T.ow, T.owl, T.nob, T.nobl, T.nfz, T.nfzl, T.fz, T.fzl, Bop.fit, Bop.res, Bop.bo, zzec, zzed, zzee, zzef, zzeg, zzeh, zzei, zzej, zzef, zzeg, zzeh, zzei, zzek, zzel, List.all_cons, List.all_nil, List.any_cons, List.any_nil, zzem, zzen, zzeo, zzep, zzeq, zzer, zzes, zzet, Bool.not_false, Bool.not_true, Bool.or_false, Bool.false_or, Bool.and_true, Bool.true_and, Bool.or_true, Bool.true_or, Bool.and_false, Bool.false_and, Bool.not_not, Bool.not_eq_true', decide_eq_false_iff_not, Bool.and_eq_true, Bool.or_eq_true, true_or, or_true, false_or, or_false, true_and, and_true, false_and, and_false, Bool.false_eq_true, false_imp_iff, if_true, if_false, forall_const, implies_true, Option.some.injEq, Option.isSome_some, forall_eq', reduceCtorEq, List.cons_append, List.nil_append, List.length_cons, List.length_nil, List.length_map, List.length_append, List.length_range, zzeu, zzev, zzew, List.replicate, List.flatten_cons, List.flatten_nil, List.append_nil, Nat.reduceAdd, Nat.reduceSub, Nat.reduceLT, Nat.reduceLeDiff, List.set_cons_zero, List.set_cons_succ, decide_eq_true_eq, decide_true, decide_false, Int.reduceLT, Int.reduceLE, Int.reduceMul, Int.reducePow, Int.reduceToNat, Int.reduceAdd, Int.reduceSub, Int.reduceNeg, Int.reduceEq, Nat.reducePow, zzex, zzey, zzez, Nat.zero_add, big, zzfa, zzfb, String.reduceEq, wipeE, zzfc, zzfd, zzah, zzai, Option.getD_some, ↓zzfe, ↓zzff, ↓zzfg, ↓zzfh, ↓zzfi, ↓zzfj, ↓zzfk, ↓zzfl, ↓zzfm, ↓zzfn, ↓zzfo, ↓zzfp, ↓zzfq, ↓zzfr, ↓zzfs, ↓zzft, ↓zzfu, ↓zzfv, ↓zzfw, ↓zzfx, ↓zzfy, ↓zzfz, ↓zzga, ↓zzgb, ↓zzgc, ↓zzgd, ↓zzge, ↓zzgf, ↓zzgg, ↓zzgh, ↓zzgi, ↓zzgj, ↓zzgk, ↓zzgl, ↓zzgm, ↓zzgn, ↓zzgo, ↓zzgp, ↓zzgq, ↓zzgr, ↓zzgs, ↓zzgt, ↓zzgu, ↓zzgv, ↓zzgw, ↓zzgx, ↓zzgy, ↓zzgz, ↓zzha, ↓zzhb, ↓zzhc, ↓zzhd, ↓zzhe, ↓zzhf, ↓zzhg, ↓zzhh, ↓zzhi, ↓zzhj, ↓zzhk, ↓zzhl, ↓zzhm, ↓zzhn, ↓zzho, ↓zzhp, ↓zzhq, ↓zzhr, ↓zzhs, ↓zzht, ↓zzhl, zzhu, zzhv, zzhw, zzhx, zzhy, zzhz, zzia, zzib, zzic, zzid, zzie, zzif, zzig, zzih, zzii, zzij, zzik, zzil, zzim, zzin, zzio, zzip, zziq, zzir, zzis, zzit, zziu, zziv, zziw, zzix, zziy, zziz, zzja, zzjb, zzjc, zzjd, zzje, zzjf, zzjg, zzjh, zzji, zzjj, zzjk, zzjl, zzjm, zzjn, zzjo, zzjp, zzjq, zzjr, zzjs, zzjt, zzju, zzjv, zzjw, zzjx, zzjy, zzjz, zzka, zzkb, zzkc, zzkd, zzke, zzkf, zzkg, zzkh, zzki, zzkj, zzkk, zzkl, zzkm, zzkn, zzko, zzkp, zzkq, zzkr, zzks, zzkt, zzku, zzkv, zzkw, zzkx, zzky, zzkz, zzla, zzlb, zzlc, zzld, zzle, zzlf, zzlg, zzlh, zzli, zzlj, zzlk, zzll, zzlm, zzln, zzlo, ↓zzlp, ↓zzlq, ↓zzlr, ↓zzls, ↓zzlt, ↓zzlu, ↓zzlv, ↓zzlw, ↓zzlx, ↓zzly, ↓zzlz, ↓zzma, zzmb, zzmc, ↓zzmd, ↓zzme, ↓zzmf, ↓zzmg, ↓zzmh, zzmi, zzmj, zzmk, zzml, zzmm, zzmn, zzmo, zzmp, zzmq, zzmr, zzms, Option.bind_some, Option.map_some, ↓zzmt, ↓zzmu, ↓zzmv, ↓zzmw, ↓zzmx, ↓zzmy, ↓zzmz, ↓zzna, ↓zznb, ↓zznc, ↓zznd, ↓zzne, ↓zznf, ↓zzng, ↓zznh, ↓zzni, ↓zznj, ↓zznk, ↓zznl]
  refine ⟨by split <;> omega, ?_⟩
  refine for_inv (fun d r e => ∃ x1 x2 x3 x4 x5 x6 x7 x8 x9 x10 x11, e = [some (.lk (ns.map T.int)), x1, x2, x3, x4, x5, x6, x7, x8, x9, x10, x11, none, none]) ⟨_, _, _, _, _, _, _, _, _, _, _, rfl⟩ ?_ ?_
  · rintro d k r _ hd ⟨x1, x2, x3, x4, x5, x6, x7, x8, x9, x10, x11, rfl⟩
    have hk : k < 11 := by
      have : k ∈ List.range (1 + if (ns.length : Int) < 10 then (ns.length : Int) else 10).toNat := by rw [hd]; simp
      have := List.mem_range.mp this
      split at this <;> omega
    simp only [↓zzaa, ↓zzab, ↓zzac, ↓zzad, ↓zzae, ↓zzaf, ↓zzag, ↓zzah, ↓zzai, ↓zzaj, ↓zzak, ↓zzal, ↓zzam, ↓zzan, ↓zzao, ↓zzap, ↓zzaq, ↓zzar, ↓zzas, ↓zzat, ↓zzau, ↓zzav, ↓zzaw, ↓zzax, ↓zzay, ↓zzaz, ↓zzba, ↓zzbb, ↓zzbc, ↓zzbd, ↓zzbe, ↓zzbf, ↓zzbg, ↓zzbh, ↓zzbi, ↓zzbj, ↓zzbk, ↓zzbl, ↓zzbm, ↓zzbn, ↓zzbo, ↓zzbp, ↓zzbq, ↓zzbr, ↓zzbs, ↓zzbt, ↓zzbu, ↓zzbv, ↓zzbw, ↓zzbx, ↓zzby, ↓zzbz, ↓zzca, ↓zzcb, ↓zzcc, ↓zzcd, ↓zzce, ↓zzcf, ↓zzcg, ↓zzch, ↓zzci, ↓zzcj, ↓zzck, ↓zzcl, ↓zzcm, ↓zzcn, ↓zzco, ↓zzcp, ↓zzcq, ↓zzcr, ↓zzcs, ↓zzct, ↓zzcu, ↓zzcv, ↓zzcw, ↓zzcx, ↓zzcy, ↓zzcz, ↓zzda, ↓zzdb, ↓zzdc, ↓zzdd, zzde, ↓zzdf, ↓zzdg, ↓zzdh, ↓zzdi, ↓zzdj, ↓zzdk, ↓zzdl, ↓zzdm, ↓zzdn, ↓zzdo, ↓zzdp, ↓zzdq, zzdr, zzds, zzdt, zzdu, zzdv, zzdw, zzdx, zzdy, zzdz, zzea, zzeb, oEq, oNe, eqT, oAdd, oNeg, oAbs, oMax2, oMin2, oInt, oLen, oIsN, oNotN, oIn, oNin, inT, eqF, oIsi, oIsi2, oList, oTuple, seqT, zp, enm, two, three, ioFind, ioCount, brOk, Bop.still, Bop.isI, T.ow, T.owl, T.nob, T.nobl, T.nfz, T.nfzl, T.fz, T.fzl, Bop.fit, Bop.res, Bop.bo, zzec, zzed, zzee, zzef, zzeg, zzeh, zzei, zzej, zzef, zzeg, zzeh, zzei, zzek, zzel, List.all_cons, List.all_nil, List.any_cons, List.any_nil, zzem, zzen, zzeo, zzep, zzeq, zzer, zzes, zzet, Bool.not_false, Bool.not_true, Bool.or_false, Bool.false_or, Bool.and_true, Bool.true_and, Bool.or_true, Bool.true_or, Bool.and_false, Bool.false_and, Bool.not_not, Bool.not_eq_true', decide_eq_false_iff_not, Bool.and_eq_true, Bool.or_eq_true, true_or, or_true, false_or, or_false, true_and, and_true, false_and, and_false, Bool.false_eq_true, false_imp_iff, if_true, if_false, forall_const, implies_true, Option.some.injEq, Option.isSome_some, forall_eq', reduceCtorEq, List.cons_append, List.nil_append, List.length_cons, List.length_nil, List.length_map, List.length_append, List.length_range, zzeu, zzev, zzew, List.replicate, List.flatten_cons, List.flatten_nil, List.append_nil, Nat.reduceAdd, Nat.reduceSub, Nat.reduceLT, Nat.reduceLeDiff, List.set_cons_zero, List.set_cons_succ, decide_eq_true_eq, decide_true, decide_false, Int.reduceLT, Int.reduceLE, Int.reduceMul, Int.reducePow, Int.reduceToNat, Int.reduceAdd, Int.reduceSub, Int.reduceNeg, Int.reduceEq, Nat.reducePow, zzex, zzey, zzez, Nat.zero_add, big, zzfa, zzfb, String.reduceEq, wipeE, zzfc, zzfd, zzah, zzai, Option.getD_some, ↓zzfe, ↓zzff, ↓zzfg, ↓zzfh, ↓zzfi, ↓zzfj, ↓zzfk, ↓zzfl, ↓zzfm, ↓zzfn, ↓zzfo, ↓zzfp, ↓zzfq, ↓zzfr, ↓zzfs, ↓zzft, ↓zzfu, ↓zzfv, ↓zzfw, ↓zzfx, ↓zzfy, ↓zzfz, ↓zzga, ↓zzgb, ↓zzgc, ↓zzgd, ↓zzge, ↓zzgf, ↓zzgg, ↓zzgh, ↓zzgi, ↓zzgj, ↓zzgk, ↓zzgl, ↓zzgm, ↓zzgn, ↓zzgo, ↓zzgp, ↓zzgq, ↓zzgr, ↓zzgs, ↓zzgt, ↓zzgu, ↓zzgv, ↓zzgw, ↓zzgx, ↓zzgy, ↓zzgz, ↓zzha, ↓zzhb, ↓zzhc, ↓zzhd, ↓zzhe, ↓zzhf, ↓zzhg, ↓zzhh, ↓zzhi, ↓zzhj, ↓zzhk, ↓zzhl, ↓zzhm, ↓zzhn, ↓zzho, ↓zzhp, ↓zzhq, ↓zzhr, ↓zzhs, ↓zzht, ↓zzhl, zzhu, zzhv, zzhw, zzhx, zzhy, zzhz, zzia, zzib, zzic, zzid, zzie, zzif, zzig, zzih, zzii, zzij, zzik, zzil, zzim, zzin, zzio, zzip, zziq, zzir, zzis, zzit, zziu, zziv, zziw, zzix, zziy, zziz, zzja, zzjb, zzjc, zzjd, zzje, zzjf, zzjg, zzjh, zzji, zzjj, zzjk, zzjl, zzjm, zzjn, zzjo, zzjp, zzjq, zzjr, zzjs, zzjt, zzju, zzjv, zzjw, zzjx, zzjy, zzjz, zzka, zzkb, zzkc, zzkd, zzke, zzkf, zzkg, zzkh, zzki, zzkj, zzkk, zzkl, zzkm, zzkn, zzko, zzkp, zzkq, zzkr, zzks, zzkt, zzku, zzkv, zzkw, zzkx, zzky, zzkz, zzla, zzlb, zzlc, zzld, zzle, zzlf, zzlg, zzlh, zzli, zzlj, zzlk, zzll, zzlm, zzln, zzlo, ↓zzlp, ↓zzlq, ↓zzlr, ↓zzls, ↓zzlt, ↓zzlu, ↓zzlv, ↓zzlw, ↓zzlx, ↓zzly, ↓zzlz, ↓zzma, zzmb, zzmc, ↓zzmd, ↓zzme, ↓zzmf, ↓zzmg, ↓zzmh, zzmi, zzmj, zzmk, zzml, zzmm, zzmn, zzmo, zzmp, zzmq, zzmr, zzms, Option.bind_some, Option.map_some, ↓zzmt, ↓zzmu, ↓zzmv, ↓zzmw, ↓zzmx, ↓zzmy, ↓zzmz, ↓zzna, ↓zznb, ↓zznc, ↓zznd, ↓zzne, ↓zznf, ↓zzng, ↓zznh, ↓zzni, ↓zznj, ↓zznk, ↓zznl]
    refine tape_ok hs (by omega) fun tp htp => ?_
    simp only [↓zzaa, ↓zzab, ↓zzac, ↓zzad, ↓zzae, ↓zzaf, ↓zzag, ↓zzah, ↓zzai, ↓zzaj, ↓zzak, ↓zzal, ↓zzam, ↓zzan, ↓zzao, ↓zzap, ↓zzaq, ↓zzar, ↓zzas, ↓zzat, ↓zzau, ↓zzav, ↓zzaw, ↓zzax, ↓zzay, ↓zzaz, ↓zzba, ↓zzbb, ↓zzbc, ↓zzbd, ↓zzbe, ↓zzbf, ↓zzbg, ↓zzbh, ↓zzbi, ↓zzbj, ↓zzbk, ↓zzbl, ↓zzbm, ↓zzbn, ↓zzbo, ↓zzbp, ↓zzbq, ↓zzbr, ↓zzbs, ↓zzbt, ↓zzbu, ↓zzbv, ↓zzbw, ↓zzbx, ↓zzby, ↓zzbz, ↓zzca, ↓zzcb, ↓zzcc, ↓zzcd, ↓zzce, ↓zzcf, ↓zzcg, ↓zzch, ↓zzci, ↓zzcj, ↓zzck, ↓zzcl, ↓zzcm, ↓zzcn, ↓zzco, ↓zzcp, ↓zzcq, ↓zzcr, ↓zzcs, ↓zzct, ↓zzcu, ↓zzcv, ↓zzcw, ↓zzcx, ↓zzcy, ↓zzcz, ↓zzda, ↓zzdb, ↓zzdc, ↓zzdd, zzde, ↓zzdf, ↓zzdg, ↓zzdh, ↓zzdi, ↓zzdj, ↓zzdk, ↓zzdl, ↓zzdm, ↓zzdn, ↓zzdo, ↓zzdp, ↓zzdq, zzdr, zzds, zzdt, zzdu, zzdv, zzdw, zzdx, zzdy, zzdz, zzea, zzeb, oEq, oNe, eqT, oAdd, oNeg, oAbs, oMax2, oMin2, oInt, oLen, oIsN, oNotN, oIn, oNin, inT, eqF, oIsi, oIsi2, oList, oTuple, seqT, zp, enm, two, three, ioFind, ioCount, brOk, Bop.still, Bop.isI, T.ow, T.owl, T.nob, T.nobl, T.nfz, T.nfzl, T.fz, T.fzl, Bop.fit, Bop.res, Bop.bo, zzec, zzed, zzee, zzef, zzeg, zzeh, zzei, zzej, zzef, zzeg, zzeh, zzei, zzek, zzel, List.all_cons, List.all_nil, List.any_cons, List.any_nil, zzem, zzen, zzeo, zzep, zzeq, zzer, zzes, zzet, Bool.not_false, Bool.not_true, Bool.or_false, Bool.false_or, Bool.and_true, Bool.true_and, Bool.or_true, Bool.true_or, Bool.and_false, Bool.false_and, Bool.not_not, Bool.not_eq_true', decide_eq_false_iff_not, Bool.and_eq_true, Bool.or_eq_true, true_or, or_true, false_or, or_false, true_and, and_true, false_and, and_false, Bool.false_eq_true, false_imp_iff, if_true, if_false, forall_const, implies_true, Option.some.injEq, Option.isSome_some, forall_eq', reduceCtorEq, List.cons_append, List.nil_append, List.length_cons, List.length_nil, List.length_map, List.length_append, List.length_range, zzeu, zzev, zzew, List.replicate, List.flatten_cons, List.flatten_nil, List.append_nil, Nat.reduceAdd, Nat.reduceSub, Nat.reduceLT, Nat.reduceLeDiff, List.set_cons_zero, List.set_cons_succ, decide_eq_true_eq, decide_true, decide_false, Int.reduceLT, Int.reduceLE, Int.reduceMul, Int.reducePow, Int.reduceToNat, Int.reduceAdd, Int.reduceSub, Int.reduceNeg, Int.reduceEq, Nat.reducePow, zzex, zzey, zzez, Nat.zero_add, big, zzfa, zzfb, String.reduceEq, wipeE, zzfc, zzfd, zzah, zzai, Option.getD_some, ↓zzfe, ↓zzff, ↓zzfg, ↓zzfh, ↓zzfi, ↓zzfj, ↓zzfk, ↓zzfl, ↓zzfm, ↓zzfn, ↓zzfo, ↓zzfp, ↓zzfq, ↓zzfr, ↓zzfs, ↓zzft, ↓zzfu, ↓zzfv, ↓zzfw, ↓zzfx, ↓zzfy, ↓zzfz, ↓zzga, ↓zzgb, ↓zzgc, ↓zzgd, ↓zzge, ↓zzgf, ↓zzgg, ↓zzgh, ↓zzgi, ↓zzgj, ↓zzgk, ↓zzgl, ↓zzgm, ↓zzgn, ↓zzgo, ↓zzgp, ↓zzgq, ↓zzgr, ↓zzgs, ↓zzgt, ↓zzgu, ↓zzgv, ↓zzgw, ↓zzgx, ↓zzgy, ↓zzgz, ↓zzha, ↓zzhb, ↓zzhc, ↓zzhd, ↓zzhe, ↓zzhf, ↓zzhg, ↓zzhh, ↓zzhi, ↓zzhj, ↓zzhk, ↓zzhl, ↓zzhm, ↓zzhn, ↓zzho, ↓zzhp, ↓zzhq, ↓zzhr, ↓zzhs, ↓zzht, ↓zzhl, zzhu, zzhv, zzhw, zzhx, zzhy, zzhz, zzia, zzib, zzic, zzid, zzie, zzif, zzig, zzih, zzii, zzij, zzik, zzil, zzim, zzin, zzio, zzip, zziq, zzir, zzis, zzit, zziu, zziv, zziw, zzix, zziy, zziz, zzja, zzjb, zzjc, zzjd, zzje, zzjf, zzjg, zzjh, zzji, zzjj, zzjk, zzjl, zzjm, zzjn, zzjo, zzjp, zzjq, zzjr, zzjs, zzjt, zzju, zzjv, zzjw, zzjx, zzjy, zzjz, zzka, zzkb, zzkc, zzkd, zzke, zzkf, zzkg, zzkh, zzki, zzkj, zzkk, zzkl, zzkm, zzkn, zzko, zzkp, zzkq, zzkr, zzks, zzkt, zzku, zzkv, zzkw, zzkx, zzky, zzkz, zzla, zzlb, zzlc, zzld, zzle, zzlf, zzlg, zzlh, zzli, zzlj, zzlk, zzll, zzlm, zzln, zzlo, ↓zzlp, ↓zzlq, ↓zzlr, ↓zzls, ↓zzlt, ↓zzlu, ↓zzlv, ↓zzlw, ↓zzlx, ↓zzly, ↓zzlz, ↓zzma, zzmb, zzmc, ↓zzmd, ↓zzme, ↓zzmf, ↓zzmg, ↓zzmh, zzmi, zzmj, zzmk, zzml, zzmm, zzmn, zzmo, zzmp, zzmq, zzmr, zzms, Option.bind_some, Option.map_some, ↓zzmt, ↓zzmu, ↓zzmv, ↓zzmw, ↓zzmx, ↓zzmy, ↓zzmz, ↓zzna, ↓zznb, ↓zznc, ↓zznd, ↓zzne, ↓zznf, ↓zzng, ↓zznh, ↓zzni, ↓zznj, ↓zznk, ↓zznl]
    refine rows_ok htp (by omega) fun rows tp hrows hlen htp => ?_
    simp only [↓zzaa, ↓zzab, ↓zzac, ↓zzad, ↓zzae, ↓zzaf, ↓zzag, ↓zzah, ↓zzai, ↓zzaj, ↓zzak, ↓zzal, ↓zzam, ↓zzan, ↓zzao, ↓zzap, ↓zzaq, ↓zzar, ↓zzas, ↓zzat, ↓zzau, ↓zzav, ↓zzaw, ↓zzax, ↓zzay, ↓zzaz, ↓zzba, ↓zzbb, ↓zzbc, ↓zzbd, ↓zzbe, ↓zzbf, ↓zzbg, ↓zzbh, ↓zzbi, ↓zzbj, ↓zzbk, ↓zzbl, ↓zzbm, ↓zzbn, ↓zzbo, ↓zzbp, ↓zzbq, ↓zzbr, ↓zzbs, ↓zzbt, ↓zzbu, ↓zzbv, ↓zzbw, ↓zzbx, ↓zzby, ↓zzbz, ↓zzca, ↓zzcb, ↓zzcc, ↓zzcd, ↓zzce, ↓zzcf, ↓zzcg, ↓zzch, ↓zzci, ↓zzcj, ↓zzck, ↓zzcl, ↓zzcm, ↓zzcn, ↓zzco, ↓zzcp, ↓zzcq, ↓zzcr, ↓zzcs, ↓zzct, ↓zzcu, ↓zzcv, ↓zzcw, ↓zzcx, ↓zzcy, ↓zzcz, ↓zzda, ↓zzdb, ↓zzdc, ↓zzdd, zzde, ↓zzdf, ↓zzdg, ↓zzdh, ↓zzdi, ↓zzdj, ↓zzdk, ↓zzdl, ↓zzdm, ↓zzdn, ↓zzdo, ↓zzdp, ↓zzdq, zzdr, zzds, zzdt, zzdu, zzdv, zzdw, zzdx, zzdy, zzdz, zzea, zzeb, oEq, oNe, eqT, oAdd, oNeg, oAbs, oMax2, oMin2, oInt, oLen, oIsN, oNotN, oIn, oNin, inT, eqF, oIsi, oIsi2, oList, oTuple, seqT, zp, enm, two, three, ioFind, ioCount, brOk, Bop.still, Bop.isI, T.ow, T.owl, T.nob, T.nobl, T.nfz, T.nfzl, T.fz, T.fzl, Bop.fit, Bop.res, Bop.bo, zzec, zzed, zzee, zzef, zzeg, zzeh, zzei, zzej, zzef, zzeg, zzeh, zzei, zzek, zzel, List.all_cons, List.all_nil, List.any_cons, List.any_nil, zzem, zzen, zzeo, zzep, zzeq, zzer, zzes, zzet, Bool.not_false, Bool.not_true, Bool.or_false, Bool.false_or, Bool.and_true, Bool.true_and, Bool.or_true, Bool.true_or, Bool.and_false, Bool.false_and, Bool.not_not, Bool.not_eq_true', decide_eq_false_iff_not, Bool.and_eq_true, Bool.or_eq_true, true_or, or_true, false_or, or_false, true_and, and_true, false_and, and_false, Bool.false_eq_true, false_imp_iff, if_true, if_false, forall_const, implies_true, Option.some.injEq, Option.isSome_some, forall_eq', reduceCtorEq, List.cons_append, List.nil_append, List.length_cons, List.length_nil, List.length_map, List.length_append, List.length_range, zzeu, zzev, zzew, List.replicate, List.flatten_cons, List.flatten_nil, List.append_nil, Nat.reduceAdd, Nat.reduceSub, Nat.reduceLT, Nat.reduceLeDiff, List.set_cons_zero, List.set_cons_succ, decide_eq_true_eq, decide_true, decide_false, Int.reduceLT, Int.reduceLE, Int.reduceMul, Int.reducePow, Int.reduceToNat, Int.reduceAdd, Int.reduceSub, Int.reduceNeg, Int.reduceEq, Nat.reducePow, zzex, zzey, zzez, Nat.zero_add, big, zzfa, zzfb, String.reduceEq, wipeE, zzfc, zzfd, zzah, zzai, Option.getD_some, ↓zzfe, ↓zzff, ↓zzfg, ↓zzfh, ↓zzfi, ↓zzfj, ↓zzfk, ↓zzfl, ↓zzfm, ↓zzfn, ↓zzfo, ↓zzfp, ↓zzfq, ↓zzfr, ↓zzfs, ↓zzft, ↓zzfu, ↓zzfv, ↓zzfw, ↓zzfx, ↓zzfy, ↓zzfz, ↓zzga, ↓zzgb, ↓zzgc, ↓zzgd, ↓zzge, ↓zzgf, ↓zzgg, ↓zzgh, ↓zzgi, ↓zzgj, ↓zzgk, ↓zzgl, ↓zzgm, ↓zzgn, ↓zzgo, ↓zzgp, ↓zzgq, ↓zzgr, ↓zzgs, ↓zzgt, ↓zzgu, ↓zzgv, ↓zzgw, ↓zzgx, ↓zzgy, ↓zzgz, ↓zzha, ↓zzhb, ↓zzhc, ↓zzhd, ↓zzhe, ↓zzhf, ↓zzhg, ↓zzhh, ↓zzhi, ↓zzhj, ↓zzhk, ↓zzhl, ↓zzhm, ↓zzhn, ↓zzho, ↓zzhp, ↓zzhq, ↓zzhr, ↓zzhs, ↓zzht, ↓zzhl, zzhu, zzhv, zzhw, zzhx, zzhy, zzhz, zzia, zzib, zzic, zzid, zzie, zzif, zzig, zzih, zzii, zzij, zzik, zzil, zzim, zzin, zzio, zzip, zziq, zzir, zzis, zzit, zziu, zziv, zziw, zzix, zziy, zziz, zzja, zzjb, zzjc, zzjd, zzje, zzjf, zzjg, zzjh, zzji, zzjj, zzjk, zzjl, zzjm, zzjn, zzjo, zzjp, zzjq, zzjr, zzjs, zzjt, zzju, zzjv, zzjw, zzjx, zzjy, zzjz, zzka, zzkb, zzkc, zzkd, zzke, zzkf, zzkg, zzkh, zzki, zzkj, zzkk, zzkl, zzkm, zzkn, zzko, zzkp, zzkq, zzkr, zzks, zzkt, zzku, zzkv, zzkw, zzkx, zzky, zzkz, zzla, zzlb, zzlc, zzld, zzle, zzlf, zzlg, zzlh, zzli, zzlj, zzlk, zzll, zzlm, zzln, zzlo, ↓zzlp, ↓zzlq, ↓zzlr, ↓zzls, ↓zzlt, ↓zzlu, ↓zzlv, ↓zzlw, ↓zzlx, ↓zzly, ↓zzlz, ↓zzma, zzmb, zzmc, ↓zzmd, ↓zzme, ↓zzmf, ↓zzmg, ↓zzmh, zzmi, zzmj, zzmk, zzml, zzmm, zzmn, zzmo, zzmp, zzmq, zzmr, zzms, Option.bind_some, Option.map_some, ↓zzmt, ↓zzmu, ↓zzmv, ↓zzmw, ↓zzmx, ↓zzmy, ↓zzmz, ↓zzna, ↓zznb, ↓zznc, ↓zznd, ↓zzne, ↓zznf, ↓zzng, ↓zznh, ↓zzni, ↓zznj, ↓zznk, ↓zznl, Row.ow, Row.nob, Row.nfz, Row.fz]
    refine ⟨by omega, lc_filter (p := fun x => x.great) (h := fun x => Row.t x) (fun x hx Q' q' => ?_) ?_⟩
    · cases x <;> simp only [rt_set, rt_sum, rt_less, rt_tell, rt_go, rt_nil, rt_stop] at q' ⊢ <;> simp only [↓zzaa, ↓zzab, ↓zzac, ↓zzad, ↓zzae, ↓zzaf, ↓zzag, ↓zzah, ↓zzai, ↓zzaj, ↓zzak, ↓zzal, ↓zzam, ↓zzan, ↓zzao, ↓zzap, ↓zzaq, ↓zzar, ↓zzas, ↓zzat, ↓zzau, ↓zzav, ↓zzaw, ↓zzax, ↓zzay, ↓zzaz, ↓zzba, ↓zzbb, ↓zzbc, ↓zzbd, ↓zzbe, ↓zzbf, ↓zzbg, ↓zzbh, ↓zzbi, ↓zzbj, ↓zzbk, ↓zzbl, ↓zzbm, ↓zzbn, ↓zzbo, ↓zzbp, ↓zzbq, ↓zzbr, ↓zzbs, ↓zzbt, ↓zzbu, ↓zzbv, ↓zzbw, ↓zzbx, ↓zzby, ↓zzbz, ↓zzca, ↓zzcb, ↓zzcc, ↓zzcd, ↓zzce, ↓zzcf, ↓zzcg, ↓zzch, ↓zzci, ↓zzcj, ↓zzck, ↓zzcl, ↓zzcm, ↓zzcn, ↓zzco, ↓zzcp, ↓zzcq, ↓zzcr, ↓zzcs, ↓zzct, ↓zzcu, ↓zzcv, ↓zzcw, ↓zzcx, ↓zzcy, ↓zzcz, ↓zzda, ↓zzdb, ↓zzdc, ↓zzdd, zzde, ↓zzdf, ↓zzdg, ↓zzdh, ↓zzdi, ↓zzdj, ↓zzdk, ↓zzdl, ↓zzdm, ↓zzdn, ↓zzdo, ↓zzdp, ↓zzdq, zzdr, zzds, zzdt, zzdu, zzdv, zzdw, zzdx, zzdy, zzdz, zzea, zzeb, oEq, oNe, eqT, oAdd, oNeg, oAbs, oMax2, oMin2, oInt, oLen, oIsN, oNotN, oIn, oNin, inT, eqF, oIsi, oIsi2, oList, oTuple, seqT, zp, enm, two, three, ioFind, ioCount, brOk, Bop.still, Bop.isI, T.ow, T.owl, T.nob, T.nobl, T.nfz, T.nfzl, T.fz, T.fzl, Bop.fit, Bop.res, Bop.bo, zzec, zzed, zzee, zzef, zzeg, zzeh, zzei, zzej, zzef, zzeg, zzeh, zzei, zzek, zzel, List.all_cons, List.all_nil, List.any_cons, List.any_nil, zzem, zzen, zzeo, zzep, zzeq, zzer, zzes, zzet, Bool.not_false, Bool.not_true, Bool.or_false, Bool.false_or, Bool.and_true, Bool.true_and, Bool.or_true, Bool.true_or, Bool.and_false, Bool.false_and, Bool.not_not, Bool.not_eq_true', decide_eq_false_iff_not, Bool.and_eq_true, Bool.or_eq_true, true_or, or_true, false_or, or_false, true_and, and_true, false_and, and_false, Bool.false_eq_true, false_imp_iff, if_true, if_false, forall_const, implies_true, Option.some.injEq, Option.isSome_some, forall_eq', reduceCtorEq, List.cons_append, List.nil_append, List.length_cons, List.length_nil, List.length_map, List.length_append, List.length_range, zzeu, zzev, zzew, List.replicate, List.flatten_cons, List.flatten_nil, List.append_nil, Nat.reduceAdd, Nat.reduceSub, Nat.reduceLT, Nat.reduceLeDiff, List.set_cons_zero, List.set_cons_succ, decide_eq_true_eq, decide_true, decide_false, Int.reduceLT, Int.reduceLE, Int.reduceMul, Int.reducePow, Int.reduceToNat, Int.reduceAdd, Int.reduceSub, Int.reduceNeg, Int.reduceEq, Nat.reducePow, zzex, zzey, zzez, Nat.zero_add, big, zzfa, zzfb, String.reduceEq, wipeE, zzfc, zzfd, zzah, zzai, Option.getD_some, ↓zzfe, ↓zzff, ↓zzfg, ↓zzfh, ↓zzfi, ↓zzfj, ↓zzfk, ↓zzfl, ↓zzfm, ↓zzfn, ↓zzfo, ↓zzfp, ↓zzfq, ↓zzfr, ↓zzfs, ↓zzft, ↓zzfu, ↓zzfv, ↓zzfw, ↓zzfx, ↓zzfy, ↓zzfz, ↓zzga, ↓zzgb, ↓zzgc, ↓zzgd, ↓zzge, ↓zzgf, ↓zzgg, ↓zzgh, ↓zzgi, ↓zzgj, ↓zzgk, ↓zzgl, ↓zzgm, ↓zzgn, ↓zzgo, ↓zzgp, ↓zzgq, ↓zzgr, ↓zzgs, ↓zzgt, ↓zzgu, ↓zzgv, ↓zzgw, ↓zzgx, ↓zzgy, ↓zzgz, ↓zzha, ↓zzhb, ↓zzhc, ↓zzhd, ↓zzhe, ↓zzhf, ↓zzhg, ↓zzhh, ↓zzhi, ↓zzhj, ↓zzhk, ↓zzhl, ↓zzhm, ↓zzhn, ↓zzho, ↓zzhp, ↓zzhq, ↓zzhr, ↓zzhs, ↓zzht, ↓zzhl, zzhu, zzhv, zzhw, zzhx, zzhy, zzhz, zzia, zzib, zzic, zzid, zzie, zzif, zzig, zzih, zzii, zzij, zzik, zzil, zzim, zzin, zzio, zzip, zziq, zzir, zzis, zzit, zziu, zziv, zziw, zzix, zziy, zziz, zzja, zzjb, zzjc, zzjd, zzje, zzjf, zzjg, zzjh, zzji, zzjj, zzjk, zzjl, zzjm, zzjn, zzjo, zzjp, zzjq, zzjr, zzjs, zzjt, zzju, zzjv, zzjw, zzjx, zzjy, zzjz, zzka, zzkb, zzkc, zzkd, zzke, zzkf, zzkg, zzkh, zzki, zzkj, zzkk, zzkl, zzkm, zzkn, zzko, zzkp, zzkq, zzkr, zzks, zzkt, zzku, zzkv, zzkw, zzkx, zzky, zzkz, zzla, zzlb, zzlc, zzld, zzle, zzlf, zzlg, zzlh, zzli, zzlj, zzlk, zzll, zzlm, zzln, zzlo, ↓zzlp, ↓zzlq, ↓zzlr, ↓zzls, ↓zzlt, ↓zzlu, ↓zzlv, ↓zzlw, ↓zzlx, ↓zzly, ↓zzlz, ↓zzma, zzmb, zzmc, ↓zzmd, ↓zzme, ↓zzmf, ↓zzmg, ↓zzmh, zzmi, zzmj, zzmk, zzml, zzmm, zzmn, zzmo, zzmp, zzmq, zzmr, zzms, Option.bind_some, Option.map_some, ↓zzmt, ↓zzmu, ↓zzmv, ↓zzmw, ↓zzmx, ↓zzmy, ↓zzmz, ↓zzna, ↓zznb, ↓zznc, ↓zznd, ↓zzne, ↓zznf, ↓zzng, ↓zznh, ↓zzni, ↓zznj, ↓zznk, ↓zznl]
      · exact iteP q'
      all_goals exact q'
    simp only [↓zzaa, ↓zzab, ↓zzac, ↓zzad, ↓zzae, ↓zzaf, ↓zzag, ↓zzah, ↓zzai, ↓zzaj, ↓zzak, ↓zzal, ↓zzam, ↓zzan, ↓zzao, ↓zzap, ↓zzaq, ↓zzar, ↓zzas, ↓zzat, ↓zzau, ↓zzav, ↓zzaw, ↓zzax, ↓zzay, ↓zzaz, ↓zzba, ↓zzbb, ↓zzbc, ↓zzbd, ↓zzbe, ↓zzbf, ↓zzbg, ↓zzbh, ↓zzbi, ↓zzbj, ↓zzbk, ↓zzbl, ↓zzbm, ↓zzbn, ↓zzbo, ↓zzbp, ↓zzbq, ↓zzbr, ↓zzbs, ↓zzbt, ↓zzbu, ↓zzbv, ↓zzbw, ↓zzbx, ↓zzby, ↓zzbz, ↓zzca, ↓zzcb, ↓zzcc, ↓zzcd, ↓zzce, ↓zzcf, ↓zzcg, ↓zzch, ↓zzci, ↓zzcj, ↓zzck, ↓zzcl, ↓zzcm, ↓zzcn, ↓zzco, ↓zzcp, ↓zzcq, ↓zzcr, ↓zzcs, ↓zzct, ↓zzcu, ↓zzcv, ↓zzcw, ↓zzcx, ↓zzcy, ↓zzcz, ↓zzda, ↓zzdb, ↓zzdc, ↓zzdd, zzde, ↓zzdf, ↓zzdg, ↓zzdh, ↓zzdi, ↓zzdj, ↓zzdk, ↓zzdl, ↓zzdm, ↓zzdn, ↓zzdo, ↓zzdp, ↓zzdq, zzdr, zzds, zzdt, zzdu, zzdv, zzdw, zzdx, zzdy, zzdz, zzea, zzeb, oEq, oNe, eqT, oAdd, oNeg, oAbs, oMax2, oMin2, oInt, oLen, oIsN, oNotN, oIn, oNin, inT, eqF, oIsi, oIsi2, oList, oTuple, seqT, zp, enm, two, three, ioFind, ioCount, brOk, Bop.still, Bop.isI, T.ow, T.owl, T.nob, T.nobl, T.nfz, T.nfzl, T.fz, T.fzl, Bop.fit, Bop.res, Bop.bo, zzec, zzed, zzee, zzef, zzeg, zzeh, zzei, zzej, zzef, zzeg, zzeh, zzei, zzek, zzel, List.all_cons, List.all_nil, List.any_cons, List.any_nil, zzem, zzen, zzeo, zzep, zzeq, zzer, zzes, zzet, Bool.not_false, Bool.not_true, Bool.or_false, Bool.false_or, Bool.and_true, Bool.true_and, Bool.or_true, Bool.true_or, Bool.and_false, Bool.false_and, Bool.not_not, Bool.not_eq_true', decide_eq_false_iff_not, Bool.and_eq_true, Bool.or_eq_true, true_or, or_true, false_or, or_false, true_and, and_true, false_and, and_false, Bool.false_eq_true, false_imp_iff, if_true, if_false, forall_const, implies_true, Option.some.injEq, Option.isSome_some, forall_eq', reduceCtorEq, List.cons_append, List.nil_append, List.length_cons, List.length_nil, List.length_map, List.length_append, List.length_range, zzeu, zzev, zzew, List.replicate, List.flatten_cons, List.flatten_nil, List.append_nil, Nat.reduceAdd, Nat.reduceSub, Nat.reduceLT, Nat.reduceLeDiff, List.set_cons_zero, List.set_cons_succ, decide_eq_true_eq, decide_true, decide_false, Int.reduceLT, Int.reduceLE, Int.reduceMul, Int.reducePow, Int.reduceToNat, Int.reduceAdd, Int.reduceSub, Int.reduceNeg, Int.reduceEq, Nat.reducePow, zzex, zzey, zzez, Nat.zero_add, big, zzfa, zzfb, String.reduceEq, wipeE, zzfc, zzfd, zzah, zzai, Option.getD_some, ↓zzfe, ↓zzff, ↓zzfg, ↓zzfh, ↓zzfi, ↓zzfj, ↓zzfk, ↓zzfl, ↓zzfm, ↓zzfn, ↓zzfo, ↓zzfp, ↓zzfq, ↓zzfr, ↓zzfs, ↓zzft, ↓zzfu, ↓zzfv, ↓zzfw, ↓zzfx, ↓zzfy, ↓zzfz, ↓zzga, ↓zzgb, ↓zzgc, ↓zzgd, ↓zzge, ↓zzgf, ↓zzgg, ↓zzgh, ↓zzgi, ↓zzgj, ↓zzgk, ↓zzgl, ↓zzgm, ↓zzgn, ↓zzgo, ↓zzgp, ↓zzgq, ↓zzgr, ↓zzgs, ↓zzgt, ↓zzgu, ↓zzgv, ↓zzgw, ↓zzgx, ↓zzgy, ↓zzgz, ↓zzha, ↓zzhb, ↓zzhc, ↓zzhd, ↓zzhe, ↓zzhf, ↓zzhg, ↓zzhh, ↓zzhi, ↓zzhj, ↓zzhk, ↓zzhl, ↓zzhm, ↓zzhn, ↓zzho, ↓zzhp, ↓zzhq, ↓zzhr, ↓zzhs, ↓zzht, ↓zzhl, zzhu, zzhv, zzhw, zzhx, zzhy, zzhz, zzia, zzib, zzic, zzid, zzie, zzif, zzig, zzih, zzii, zzij, zzik, zzil, zzim, zzin, zzio, zzip, zziq, zzir, zzis, zzit, zziu, zziv, zziw, zzix, zziy, zziz, zzja, zzjb, zzjc, zzjd, zzje, zzjf, zzjg, zzjh, zzji, zzjj, zzjk, zzjl, zzjm, zzjn, zzjo, zzjp, zzjq, zzjr, zzjs, zzjt, zzju, zzjv, zzjw, zzjx, zzjy, zzjz, zzka, zzkb, zzkc, zzkd, zzke, zzkf, zzkg, zzkh, zzki, zzkj, zzkk, zzkl, zzkm, zzkn, zzko, zzkp, zzkq, zzkr, zzks, zzkt, zzku, zzkv, zzkw, zzkx, zzky, zzkz, zzla, zzlb, zzlc, zzld, zzle, zzlf, zzlg, zzlh, zzli, zzlj, zzlk, zzll, zzlm, zzln, zzlo, ↓zzlp, ↓zzlq, ↓zzlr, ↓zzls, ↓zzlt, ↓zzlu, ↓zzlv, ↓zzlw, ↓zzlx, ↓zzly, ↓zzlz, ↓zzma, zzmb, zzmc, ↓zzmd, ↓zzme, ↓zzmf, ↓zzmg, ↓zzmh, zzmi, zzmj, zzmk, zzml, zzmm, zzmn, zzmo, zzmp, zzmq, zzmr, zzms, Option.bind_some, Option.map_some, ↓zzmt, ↓zzmu, ↓zzmv, ↓zzmw, ↓zzmx, ↓zzmy, ↓zzmz, ↓zzna, ↓zznb, ↓zznc, ↓zznd, ↓zzne, ↓zznf, ↓zzng, ↓zznh, ↓zzni, ↓zznj, ↓zznk, ↓zznl, Row.ow, Row.nob, Row.nfz, Row.fz]
    generalize hb : (if ((List.filter (fun x => Row.great x) rows).length : Int) < 59 then (1:Int) else 0) = b
    have hb2 : b = 0 ∨ b = 1 := by subst hb; split <;> simp
    refine ⟨by omega, by rcases hb2 with rfl | rfl <;> decide, by rcases hb2 with rfl | rfl <;> rfl, ?_⟩
    generalize hL : T.int 99 :: T.int 0 :: T.fzl _ = L
    have hv : ∃ vs : List Int, (∀ v, v ∈ vs → 0 ≤ v ∧ v ≤ 101) ∧ vs.length ≤ 4 ∧ L = vs.map T.int := by
      subst hL
      rcases hb2 with rfl | rfl
      · exact ⟨[99, 0], al_cons (by omega) (al_cons (by omega) al_nil), by decide, rfl⟩
      · exact ⟨[99, 0, 100, 101], al_cons (by omega) (al_cons (by omega) (al_cons (by omega) (al_cons (by omega) al_nil))), by decide, rfl⟩
    clear hL hb hb2
    obtain ⟨vs, hv, hvl, rfl⟩ := hv
    refine for_inv (fun d r e => ∃ x4 x5 tp, ∃ rows : List Row, rows.length ≤ 60 + d.length ∧ Tp (2000 + 2 * d.length) tp ∧ e = [some (.lk (ns.map T.int)), some (T.int k), some tp, some (.lst true (rows.map Row.t)), x4, x5, x6, x7, x8, x9, x10, x11, none, none]) ?_ ?_ ?_
    · exact ⟨_, _, _, rows, by simp; omega, htp.mono (by simp), rfl⟩
    · clear htp hrows hlen tp rows
      rintro d v r _ hd' ⟨x4, x5, tp, rows, hlen, htp, rfl⟩
      have hdl : d.length < 4 := by
        have := congrArg List.length hd'
        simp at this
        omega
      have hv' := hv v (by rw [hd']; simp)
      simp only [↓zzaa, ↓zzab, ↓zzac, ↓zzad, ↓zzae, ↓zzaf, ↓zzag, ↓zzah, ↓zzai, ↓zzaj, ↓zzak, ↓zzal, ↓zzam, ↓zzan, ↓zzao, ↓zzap, ↓zzaq, ↓zzar, ↓zzas, ↓zzat, ↓zzau, ↓zzav, ↓zzaw, ↓zzax, ↓zzay, ↓zzaz, ↓zzba, ↓zzbb, ↓zzbc, ↓zzbd, ↓zzbe, ↓zzbf, ↓zzbg, ↓zzbh, ↓zzbi, ↓zzbj, ↓zzbk, ↓zzbl, ↓zzbm, ↓zzbn, ↓zzbo, ↓zzbp, ↓zzbq, ↓zzbr, ↓zzbs, ↓zzbt, ↓zzbu, ↓zzbv, ↓zzbw, ↓zzbx, ↓zzby, ↓zzbz, ↓zzca, ↓zzcb, ↓zzcc, ↓zzcd, ↓zzce, ↓zzcf, ↓zzcg, ↓zzch, ↓zzci, ↓zzcj, ↓zzck, ↓zzcl, ↓zzcm, ↓zzcn, ↓zzco, ↓zzcp, ↓zzcq, ↓zzcr, ↓zzcs, ↓zzct, ↓zzcu, ↓zzcv, ↓zzcw, ↓zzcx, ↓zzcy, ↓zzcz, ↓zzda, ↓zzdb, ↓zzdc, ↓zzdd, zzde, ↓zzdf, ↓zzdg, ↓zzdh, ↓zzdi, ↓zzdj, ↓zzdk, ↓zzdl, ↓zzdm, ↓zzdn, ↓zzdo, ↓zzdp, ↓zzdq, zzdr, zzds, zzdt, zzdu, zzdv, zzdw, zzdx, zzdy, zzdz, zzea, zzeb, oEq, oNe, eqT, oAdd, oNeg, oAbs, oMax2, oMin2, oInt, oLen, oIsN, oNotN, oIn, oNin, inT, eqF, oIsi, oIsi2, oList, oTuple, seqT, zp, enm, two, three, ioFind, ioCount, brOk, Bop.still, Bop.isI, T.ow, T.owl, T.nob, T.nobl, T.nfz, T.nfzl, T.fz, T.fzl, Bop.fit, Bop.res, Bop.bo, zzec, zzed, zzee, zzef, zzeg, zzeh, zzei, zzej, zzef, zzeg, zzeh, zzei, zzek, zzel, List.all_cons, List.all_nil, List.any_cons, List.any_nil, zzem, zzen, zzeo, zzep, zzeq, zzer, zzes, zzet, Bool.not_false, Bool.not_true, Bool.or_false, Bool.false_or, Bool.and_true, Bool.true_and, Bool.or_true, Bool.true_or, Bool.and_false, Bool.false_and, Bool.not_not, Bool.not_eq_true', decide_eq_false_iff_not, Bool.and_eq_true, Bool.or_eq_true, true_or, or_true, false_or, or_false, true_and, and_true, false_and, and_false, Bool.false_eq_true, false_imp_iff, if_true, if_false, forall_const, implies_true, Option.some.injEq, Option.isSome_some, forall_eq', reduceCtorEq, List.cons_append, List.nil_append, List.length_cons, List.length_nil, List.length_map, List.length_append, List.length_range, zzeu, zzev, zzew, List.replicate, List.flatten_cons, List.flatten_nil, List.append_nil, Nat.reduceAdd, Nat.reduceSub, Nat.reduceLT, Nat.reduceLeDiff, List.set_cons_zero, List.set_cons_succ, decide_eq_true_eq, decide_true, decide_false, Int.reduceLT, Int.reduceLE, Int.reduceMul, Int.reducePow, Int.reduceToNat, Int.reduceAdd, Int.reduceSub, Int.reduceNeg, Int.reduceEq, Nat.reducePow, zzex, zzey, zzez, Nat.zero_add, big, zzfa, zzfb, String.reduceEq, wipeE, zzfc, zzfd, zzah, zzai, Option.getD_some, ↓zzfe, ↓zzff, ↓zzfg, ↓zzfh, ↓zzfi, ↓zzfj, ↓zzfk, ↓zzfl, ↓zzfm, ↓zzfn, ↓zzfo, ↓zzfp, ↓zzfq, ↓zzfr, ↓zzfs, ↓zzft, ↓zzfu, ↓zzfv, ↓zzfw, ↓zzfx, ↓zzfy, ↓zzfz, ↓zzga, ↓zzgb, ↓zzgc, ↓zzgd, ↓zzge, ↓zzgf, ↓zzgg, ↓zzgh, ↓zzgi, ↓zzgj, ↓zzgk, ↓zzgl, ↓zzgm, ↓zzgn, ↓zzgo, ↓zzgp, ↓zzgq, ↓zzgr, ↓zzgs, ↓zzgt, ↓zzgu, ↓zzgv, ↓zzgw, ↓zzgx, ↓zzgy, ↓zzgz, ↓zzha, ↓zzhb, ↓zzhc, ↓zzhd, ↓zzhe, ↓zzhf, ↓zzhg, ↓zzhh, ↓zzhi, ↓zzhj, ↓zzhk, ↓zzhl, ↓zzhm, ↓zzhn, ↓zzho, ↓zzhp, ↓zzhq, ↓zzhr, ↓zzhs, ↓zzht, ↓zzhl, zzhu, zzhv, zzhw, zzhx, zzhy, zzhz, zzia, zzib, zzic, zzid, zzie, zzif, zzig, zzih, zzii, zzij, zzik, zzil, zzim, zzin, zzio, zzip, zziq, zzir, zzis, zzit, zziu, zziv, zziw, zzix, zziy, zziz, zzja, zzjb, zzjc, zzjd, zzje, zzjf, zzjg, zzjh, zzji, zzjj, zzjk, zzjl, zzjm, zzjn, zzjo, zzjp, zzjq, zzjr, zzjs, zzjt, zzju, zzjv, zzjw, zzjx, zzjy, zzjz, zzka, zzkb, zzkc, zzkd, zzke, zzkf, zzkg, zzkh, zzki, zzkj, zzkk, zzkl, zzkm, zzkn, zzko, zzkp, zzkq, zzkr, zzks, zzkt, zzku, zzkv, zzkw, zzkx, zzky, zzkz, zzla, zzlb, zzlc, zzld, zzle, zzlf, zzlg, zzlh, zzli, zzlj, zzlk, zzll, zzlm, zzln, zzlo, ↓zzlp, ↓zzlq, ↓zzlr, ↓zzls, ↓zzlt, ↓zzlu, ↓zzlv, ↓zzlw, ↓zzlx, ↓zzly, ↓zzlz, ↓zzma, zzmb, zzmc, ↓zzmd, ↓zzme, ↓zzmf, ↓zzmg, ↓zzmh, zzmi, zzmj, zzmk, zzml, zzmm, zzmn, zzmo, zzmp, zzmq, zzmr, zzms, Option.bind_some, Option.map_some, ↓zzmt, ↓zzmu, ↓zzmv, ↓zzmw, ↓zzmx, ↓zzmy, ↓zzmz, ↓zzna, ↓zznb, ↓zznc, ↓zznd, ↓zzne, ↓zznf, ↓zzng, ↓zznh, ↓zzni, ↓zznj, ↓zznk, ↓zznl, Row.ow, Row.nob, Row.nfz, Row.fz]
      refine take_ok (by assumption) (by omega) (by omega) ?_; intro at' _ hi1 hi2 _; simp only [↓zzaa, ↓zzab, ↓zzac, ↓zzad, ↓zzae, ↓zzaf, ↓zzag, ↓zzah, ↓zzai, ↓zzaj, ↓zzak, ↓zzal, ↓zzam, ↓zzan, ↓zzao, ↓zzap, ↓zzaq, ↓zzar, ↓zzas, ↓zzat, ↓zzau, ↓zzav, ↓zzaw, ↓zzax, ↓zzay, ↓zzaz, ↓zzba, ↓zzbb, ↓zzbc, ↓zzbd, ↓zzbe, ↓zzbf, ↓zzbg, ↓zzbh, ↓zzbi, ↓zzbj, ↓zzbk, ↓zzbl, ↓zzbm, ↓zzbn, ↓zzbo, ↓zzbp, ↓zzbq, ↓zzbr, ↓zzbs, ↓zzbt, ↓zzbu, ↓zzbv, ↓zzbw, ↓zzbx, ↓zzby, ↓zzbz, ↓zzca, ↓zzcb, ↓zzcc, ↓zzcd, ↓zzce, ↓zzcf, ↓zzcg, ↓zzch, ↓zzci, ↓zzcj, ↓zzck, ↓zzcl, ↓zzcm, ↓zzcn, ↓zzco, ↓zzcp, ↓zzcq, ↓zzcr, ↓zzcs, ↓zzct, ↓zzcu, ↓zzcv, ↓zzcw, ↓zzcx, ↓zzcy, ↓zzcz, ↓zzda, ↓zzdb, ↓zzdc, ↓zzdd, zzde, ↓zzdf, ↓zzdg, ↓zzdh, ↓zzdi, ↓zzdj, ↓zzdk, ↓zzdl, ↓zzdm, ↓zzdn, ↓zzdo, ↓zzdp, ↓zzdq, zzdr, zzds, zzdt, zzdu, zzdv, zzdw, zzdx, zzdy, zzdz, zzea, zzeb, oEq, oNe, eqT, oAdd, oNeg, oAbs, oMax2, oMin2, oInt, oLen, oIsN, oNotN, oIn, oNin, inT, eqF, oIsi, oIsi2, oList, oTuple, seqT, zp, enm, two, three, ioFind, ioCount, brOk, Bop.still, Bop.isI, T.ow, T.owl, T.nob, T.nobl, T.nfz, T.nfzl, T.fz, T.fzl, Bop.fit, Bop.res, Bop.bo, zzec, zzed, zzee, zzef, zzeg, zzeh, zzei, zzej, zzef, zzeg, zzeh, zzei, zzek, zzel, List.all_cons, List.all_nil, List.any_cons, List.any_nil, zzem, zzen, zzeo, zzep, zzeq, zzer, zzes, zzet, Bool.not_false, Bool.not_true, Bool.or_false, Bool.false_or, Bool.and_true, Bool.true_and, Bool.or_true, Bool.true_or, Bool.and_false, Bool.false_and, Bool.not_not, Bool.not_eq_true', decide_eq_false_iff_not, Bool.and_eq_true, Bool.or_eq_true, true_or, or_true, false_or, or_false, true_and, and_true, false_and, and_false, Bool.false_eq_true, false_imp_iff, if_true, if_false, forall_const, implies_true, Option.some.injEq, Option.isSome_some, forall_eq', reduceCtorEq, List.cons_append, List.nil_append, List.length_cons, List.length_nil, List.length_map, List.length_append, List.length_range, zzeu, zzev, zzew, List.replicate, List.flatten_cons, List.flatten_nil, List.append_nil, Nat.reduceAdd, Nat.reduceSub, Nat.reduceLT, Nat.reduceLeDiff, List.set_cons_zero, List.set_cons_succ, decide_eq_true_eq, decide_true, decide_false, Int.reduceLT, Int.reduceLE, Int.reduceMul, Int.reducePow, Int.reduceToNat, Int.reduceAdd, Int.reduceSub, Int.reduceNeg, Int.reduceEq, Nat.reducePow, zzex, zzey, zzez, Nat.zero_add, big, zzfa, zzfb, String.reduceEq, wipeE, zzfc, zzfd, zzah, zzai, Option.getD_some, ↓zzfe, ↓zzff, ↓zzfg, ↓zzfh, ↓zzfi, ↓zzfj, ↓zzfk, ↓zzfl, ↓zzfm, ↓zzfn, ↓zzfo, ↓zzfp, ↓zzfq, ↓zzfr, ↓zzfs, ↓zzft, ↓zzfu, ↓zzfv, ↓zzfw, ↓zzfx, ↓zzfy, ↓zzfz, ↓zzga, ↓zzgb, ↓zzgc, ↓zzgd, ↓zzge, ↓zzgf, ↓zzgg, ↓zzgh, ↓zzgi, ↓zzgj, ↓zzgk, ↓zzgl, ↓zzgm, ↓zzgn, ↓zzgo, ↓zzgp, ↓zzgq, ↓zzgr, ↓zzgs, ↓zzgt, ↓zzgu, ↓zzgv, ↓zzgw, ↓zzgx, ↓zzgy, ↓zzgz, ↓zzha, ↓zzhb, ↓zzhc, ↓zzhd, ↓zzhe, ↓zzhf, ↓zzhg, ↓zzhh, ↓zzhi, ↓zzhj, ↓zzhk, ↓zzhl, ↓zzhm, ↓zzhn, ↓zzho, ↓zzhp, ↓zzhq, ↓zzhr, ↓zzhs, ↓zzht, ↓zzhl, zzhu, zzhv, zzhw, zzhx, zzhy, zzhz, zzia, zzib, zzic, zzid, zzie, zzif, zzig, zzih, zzii, zzij, zzik, zzil, zzim, zzin, zzio, zzip, zziq, zzir, zzis, zzit, zziu, zziv, zziw, zzix, zziy, zziz, zzja, zzjb, zzjc, zzjd, zzje, zzjf, zzjg, zzjh, zzji, zzjj, zzjk, zzjl, zzjm, zzjn, zzjo, zzjp, zzjq, zzjr, zzjs, zzjt, zzju, zzjv, zzjw, zzjx, zzjy, zzjz, zzka, zzkb, zzkc, zzkd, zzke, zzkf, zzkg, zzkh, zzki, zzkj, zzkk, zzkl, zzkm, zzkn, zzko, zzkp, zzkq, zzkr, zzks, zzkt, zzku, zzkv, zzkw, zzkx, zzky, zzkz, zzla, zzlb, zzlc, zzld, zzle, zzlf, zzlg, zzlh, zzli, zzlj, zzlk, zzll, zzlm, zzln, zzlo, ↓zzlp, ↓zzlq, ↓zzlr, ↓zzls, ↓zzlt, ↓zzlu, ↓zzlv, ↓zzlw, ↓zzlx, ↓zzly, ↓zzlz, ↓zzma, zzmb, zzmc, ↓zzmd, ↓zzme, ↓zzmf, ↓zzmg, ↓zzmh, zzmi, zzmj, zzmk, zzml, zzmm, zzmn, zzmo, zzmp, zzmq, zzmr, zzms, Option.bind_some, Option.map_some, ↓zzmt, ↓zzmu, ↓zzmv, ↓zzmw, ↓zzmx, ↓zzmy, ↓zzmz, ↓zzna, ↓zznb, ↓zznc, ↓zznd, ↓zzne, ↓zznf, ↓zzng, ↓zznh, ↓zzni, ↓zznj, ↓zznk, ↓zznl]
      refine take_ok (by assumption) (by omega) (by omega) ?_; intro rr u _ _ hu; simp only [↓zzaa, ↓zzab, ↓zzac, ↓zzad, ↓zzae, ↓zzaf, ↓zzag, ↓zzah, ↓zzai, ↓zzaj, ↓zzak, ↓zzal, ↓zzam, ↓zzan, ↓zzao, ↓zzap, ↓zzaq, ↓zzar, ↓zzas, ↓zzat, ↓zzau, ↓zzav, ↓zzaw, ↓zzax, ↓zzay, ↓zzaz, ↓zzba, ↓zzbb, ↓zzbc, ↓zzbd, ↓zzbe, ↓zzbf, ↓zzbg, ↓zzbh, ↓zzbi, ↓zzbj, ↓zzbk, ↓zzbl, ↓zzbm, ↓zzbn, ↓zzbo, ↓zzbp, ↓zzbq, ↓zzbr, ↓zzbs, ↓zzbt, ↓zzbu, ↓zzbv, ↓zzbw, ↓zzbx, ↓zzby, ↓zzbz, ↓zzca, ↓zzcb, ↓zzcc, ↓zzcd, ↓zzce, ↓zzcf, ↓zzcg, ↓zzch, ↓zzci, ↓zzcj, ↓zzck, ↓zzcl, ↓zzcm, ↓zzcn, ↓zzco, ↓zzcp, ↓zzcq, ↓zzcr, ↓zzcs, ↓zzct, ↓zzcu, ↓zzcv, ↓zzcw, ↓zzcx, ↓zzcy, ↓zzcz, ↓zzda, ↓zzdb, ↓zzdc, ↓zzdd, zzde, ↓zzdf, ↓zzdg, ↓zzdh, ↓zzdi, ↓zzdj, ↓zzdk, ↓zzdl, ↓zzdm, ↓zzdn, ↓zzdo, ↓zzdp, ↓zzdq, zzdr, zzds, zzdt, zzdu, zzdv, zzdw, zzdx, zzdy, zzdz, zzea, zzeb, oEq, oNe, eqT, oAdd, oNeg, oAbs, oMax2, oMin2, oInt, oLen, oIsN, oNotN, oIn, oNin, inT, eqF, oIsi, oIsi2, oList, oTuple, seqT, zp, enm, two, three, ioFind, ioCount, brOk, Bop.still, Bop.isI, T.ow, T.owl, T.nob, T.nobl, T.nfz, T.nfzl, T.fz, T.fzl, Bop.fit, Bop.res, Bop.bo, zzec, zzed, zzee, zzef, zzeg, zzeh, zzei, zzej, zzef, zzeg, zzeh, zzei, zzek, zzel, List.all_cons, List.all_nil, List.any_cons, List.any_nil, zzem, zzen, zzeo, zzep, zzeq, zzer, zzes, zzet, Bool.not_false, Bool.not_true, Bool.or_false, Bool.false_or, Bool.and_true, Bool.true_and, Bool.or_true, Bool.true_or, Bool.and_false, Bool.false_and, Bool.not_not, Bool.not_eq_true', decide_eq_false_iff_not, Bool.and_eq_true, Bool.or_eq_true, true_or, or_true, false_or, or_false, true_and, and_true, false_and, and_false, Bool.false_eq_true, false_imp_iff, if_true, if_false, forall_const, implies_true, Option.some.injEq, Option.isSome_some, forall_eq', reduceCtorEq, List.cons_append, List.nil_append, List.length_cons, List.length_nil, List.length_map, List.length_append, List.length_range, zzeu, zzev, zzew, List.replicate, List.flatten_cons, List.flatten_nil, List.append_nil, Nat.reduceAdd, Nat.reduceSub, Nat.reduceLT, Nat.reduceLeDiff, List.set_cons_zero, List.set_cons_succ, decide_eq_true_eq, decide_true, decide_false, Int.reduceLT, Int.reduceLE, Int.reduceMul, Int.reducePow, Int.reduceToNat, Int.reduceAdd, Int.reduceSub, Int.reduceNeg, Int.reduceEq, Nat.reducePow, zzex, zzey, zzez, Nat.zero_add, big, zzfa, zzfb, String.reduceEq, wipeE, zzfc, zzfd, zzah, zzai, Option.getD_some, ↓zzfe, ↓zzff, ↓zzfg, ↓zzfh, ↓zzfi, ↓zzfj, ↓zzfk, ↓zzfl, ↓zzfm, ↓zzfn, ↓zzfo, ↓zzfp, ↓zzfq, ↓zzfr, ↓zzfs, ↓zzft, ↓zzfu, ↓zzfv, ↓zzfw, ↓zzfx, ↓zzfy, ↓zzfz, ↓zzga, ↓zzgb, ↓zzgc, ↓zzgd, ↓zzge, ↓zzgf, ↓zzgg, ↓zzgh, ↓zzgi, ↓zzgj, ↓zzgk, ↓zzgl, ↓zzgm, ↓zzgn, ↓zzgo, ↓zzgp, ↓zzgq, ↓zzgr, ↓zzgs, ↓zzgt, ↓zzgu, ↓zzgv, ↓zzgw, ↓zzgx, ↓zzgy, ↓zzgz, ↓zzha, ↓zzhb, ↓zzhc, ↓zzhd, ↓zzhe, ↓zzhf, ↓zzhg, ↓zzhh, ↓zzhi, ↓zzhj, ↓zzhk, ↓zzhl, ↓zzhm, ↓zzhn, ↓zzho, ↓zzhp, ↓zzhq, ↓zzhr, ↓zzhs, ↓zzht, ↓zzhl, zzhu, zzhv, zzhw, zzhx, zzhy, zzhz, zzia, zzib, zzic, zzid, zzie, zzif, zzig, zzih, zzii, zzij, zzik, zzil, zzim, zzin, zzio, zzip, zziq, zzir, zzis, zzit, zziu, zziv, zziw, zzix, zziy, zziz, zzja, zzjb, zzjc, zzjd, zzje, zzjf, zzjg, zzjh, zzji, zzjj, zzjk, zzjl, zzjm, zzjn, zzjo, zzjp, zzjq, zzjr, zzjs, zzjt, zzju, zzjv, zzjw, zzjx, zzjy, zzjz, zzka, zzkb, zzkc, zzkd, zzke, zzkf, zzkg, zzkh, zzki, zzkj, zzkk, zzkl, zzkm, zzkn, zzko, zzkp, zzkq, zzkr, zzks, zzkt, zzku, zzkv, zzkw, zzkx, zzky, zzkz, zzla, zzlb, zzlc, zzld, zzle, zzlf, zzlg, zzlh, zzli, zzlj, zzlk, zzll, zzlm, zzln, zzlo, ↓zzlp, ↓zzlq, ↓zzlr, ↓zzls, ↓zzlt, ↓zzlu, ↓zzlv, ↓zzlw, ↓zzlx, ↓zzly, ↓zzlz, ↓zzma, zzmb, zzmc, ↓zzmd, ↓zzme, ↓zzmf, ↓zzmg, ↓zzmh, zzmi, zzmj, zzmk, zzml, zzmm, zzmn, zzmo, zzmp, zzmq, zzmr, zzms, Option.bind_some, Option.map_some, ↓zzmt, ↓zzmu, ↓zzmv, ↓zzmw, ↓zzmx, ↓zzmy, ↓zzmz, ↓zzna, ↓zznb, ↓zznc, ↓zznd, ↓zzne, ↓zznf, ↓zzng, ↓zznh, ↓zzni, ↓zznj, ↓zznk, ↓zznl]
      have e : (rows.map Row.t).take at'.toNat ++ [.tup [.str "set", .int rr, .int v]] ++ (rows.map Row.t).drop at'.toNat = (rows.take at'.toNat ++ .set rr v :: rows.drop at'.toNat).map Row.t := by
        simp only [List.map_append, List.map_cons, List.map_take, List.map_drop, rt_set, List.append_assoc, List.singleton_append]
      rw [e]
      refine ⟨by simp [Row.ow], by omega, by omega, ?_⟩
      exact ⟨_, _, _, rows.take at'.toNat ++ .set rr v :: rows.drop at'.toNat, by simp; omega, hu.mono (by omega), rfl⟩
    · clear htp hrows hlen tp rows
      rintro _ ⟨x4, x5, tp, rows, hlen, htp, rfl⟩
      simp only [↓zzaa, ↓zzab, ↓zzac, ↓zzad, ↓zzae, ↓zzaf, ↓zzag, ↓zzah, ↓zzai, ↓zzaj, ↓zzak, ↓zzal, ↓zzam, ↓zzan, ↓zzao, ↓zzap, ↓zzaq, ↓zzar, ↓zzas, ↓zzat, ↓zzau, ↓zzav, ↓zzaw, ↓zzax, ↓zzay, ↓zzaz, ↓zzba, ↓zzbb, ↓zzbc, ↓zzbd, ↓zzbe, ↓zzbf, ↓zzbg, ↓zzbh, ↓zzbi, ↓zzbj, ↓zzbk, ↓zzbl, ↓zzbm, ↓zzbn, ↓zzbo, ↓zzbp, ↓zzbq, ↓zzbr, ↓zzbs, ↓zzbt, ↓zzbu, ↓zzbv, ↓zzbw, ↓zzbx, ↓zzby, ↓zzbz, ↓zzca, ↓zzcb, ↓zzcc, ↓zzcd, ↓zzce, ↓zzcf, ↓zzcg, ↓zzch, ↓zzci, ↓zzcj, ↓zzck, ↓zzcl, ↓zzcm, ↓zzcn, ↓zzco, ↓zzcp, ↓zzcq, ↓zzcr, ↓zzcs, ↓zzct, ↓zzcu, ↓zzcv, ↓zzcw, ↓zzcx, ↓zzcy, ↓zzcz, ↓zzda, ↓zzdb, ↓zzdc, ↓zzdd, zzde, ↓zzdf, ↓zzdg, ↓zzdh, ↓zzdi, ↓zzdj, ↓zzdk, ↓zzdl, ↓zzdm, ↓zzdn, ↓zzdo, ↓zzdp, ↓zzdq, zzdr, zzds, zzdt, zzdu, zzdv, zzdw, zzdx, zzdy, zzdz, zzea, zzeb, oEq, oNe, eqT, oAdd, oNeg, oAbs, oMax2, oMin2, oInt, oLen, oIsN, oNotN, oIn, oNin, inT, eqF, oIsi, oIsi2, oList, oTuple, seqT, zp, enm, two, three, ioFind, ioCount, brOk, Bop.still, Bop.isI, T.ow, T.owl, T.nob, T.nobl, T.nfz, T.nfzl, T.fz, T.fzl, Bop.fit, Bop.res, Bop.bo, zzec, zzed, zzee, zzef, zzeg, zzeh, zzei, zzej, zzef, zzeg, zzeh, zzei, zzek, zzel, List.all_cons, List.all_nil, List.any_cons, List.any_nil, zzem, zzen, zzeo, zzep, zzeq, zzer, zzes, zzet, Bool.not_false, Bool.not_true, Bool.or_false, Bool.false_or, Bool.and_true, Bool.true_and, Bool.or_true, Bool.true_or, Bool.and_false, Bool.false_and, Bool.not_not, Bool.not_eq_true', decide_eq_false_iff_not, Bool.and_eq_true, Bool.or_eq_true, true_or, or_true, false_or, or_false, true_and, and_true, false_and, and_false, Bool.false_eq_true, false_imp_iff, if_true, if_false, forall_const, implies_true, Option.some.injEq, Option.isSome_some, forall_eq', reduceCtorEq, List.cons_append, List.nil_append, List.length_cons, List.length_nil, List.length_map, List.length_append, List.length_range, zzeu, zzev, zzew, List.replicate, List.flatten_cons, List.flatten_nil, List.append_nil, Nat.reduceAdd, Nat.reduceSub, Nat.reduceLT, Nat.reduceLeDiff, List.set_cons_zero, List.set_cons_succ, decide_eq_true_eq, decide_true, decide_false, Int.reduceLT, Int.reduceLE, Int.reduceMul, Int.reducePow, Int.reduceToNat, Int.reduceAdd, Int.reduceSub, Int.reduceNeg, Int.reduceEq, Nat.reducePow, zzex, zzey, zzez, Nat.zero_add, big, zzfa, zzfb, String.reduceEq, wipeE, zzfc, zzfd, zzah, zzai, Option.getD_some, ↓zzfe, ↓zzff, ↓zzfg, ↓zzfh, ↓zzfi, ↓zzfj, ↓zzfk, ↓zzfl, ↓zzfm, ↓zzfn, ↓zzfo, ↓zzfp, ↓zzfq, ↓zzfr, ↓zzfs, ↓zzft, ↓zzfu, ↓zzfv, ↓zzfw, ↓zzfx, ↓zzfy, ↓zzfz, ↓zzga, ↓zzgb, ↓zzgc, ↓zzgd, ↓zzge, ↓zzgf, ↓zzgg, ↓zzgh, ↓zzgi, ↓zzgj, ↓zzgk, ↓zzgl, ↓zzgm, ↓zzgn, ↓zzgo, ↓zzgp, ↓zzgq, ↓zzgr, ↓zzgs, ↓zzgt, ↓zzgu, ↓zzgv, ↓zzgw, ↓zzgx, ↓zzgy, ↓zzgz, ↓zzha, ↓zzhb, ↓zzhc, ↓zzhd, ↓zzhe, ↓zzhf, ↓zzhg, ↓zzhh, ↓zzhi, ↓zzhj, ↓zzhk, ↓zzhl, ↓zzhm, ↓zzhn, ↓zzho, ↓zzhp, ↓zzhq, ↓zzhr, ↓zzhs, ↓zzht, ↓zzhl, zzhu, zzhv, zzhw, zzhx, zzhy, zzhz, zzia, zzib, zzic, zzid, zzie, zzif, zzig, zzih, zzii, zzij, zzik, zzil, zzim, zzin, zzio, zzip, zziq, zzir, zzis, zzit, zziu, zziv, zziw, zzix, zziy, zziz, zzja, zzjb, zzjc, zzjd, zzje, zzjf, zzjg, zzjh, zzji, zzjj, zzjk, zzjl, zzjm, zzjn, zzjo, zzjp, zzjq, zzjr, zzjs, zzjt, zzju, zzjv, zzjw, zzjx, zzjy, zzjz, zzka, zzkb, zzkc, zzkd, zzke, zzkf, zzkg, zzkh, zzki, zzkj, zzkk, zzkl, zzkm, zzkn, zzko, zzkp, zzkq, zzkr, zzks, zzkt, zzku, zzkv, zzkw, zzkx, zzky, zzkz, zzla, zzlb, zzlc, zzld, zzle, zzlf, zzlg, zzlh, zzli, zzlj, zzlk, zzll, zzlm, zzln, zzlo, ↓zzlp, ↓zzlq, ↓zzlr, ↓zzls, ↓zzlt, ↓zzlu, ↓zzlv, ↓zzlw, ↓zzlx, ↓zzly, ↓zzlz, ↓zzma, zzmb, zzmc, ↓zzmd, ↓zzme, ↓zzmf, ↓zzmg, ↓zzmh, zzmi, zzmj, zzmk, zzml, zzmm, zzmn, zzmo, zzmp, zzmq, zzmr, zzms, Option.bind_some, Option.map_some, ↓zzmt, ↓zzmu, ↓zzmv, ↓zzmw, ↓zzmx, ↓zzmy, ↓zzmz, ↓zzna, ↓zznb, ↓zznc, ↓zznd, ↓zzne, ↓zznf, ↓zzng, ↓zznh, ↓zzni, ↓zznj, ↓zznk, ↓zznl, Row.ow, Row.nob, Row.nfz, Row.fz]
      simp only [Int.toNat_natCast]
      refine ⟨by omega, by omega, lc_filter (p := fun k : Nat => (rows[k]?.map Row.great).getD false) (h := fun k : Nat => T.int k) (fun n hn Q' q' => ?_) ?_⟩
      · have hn := List.mem_range.mp hn
        obtain ⟨x, hx⟩ : ∃ x, rows[n]? = some x := ⟨rows[n], by simp [hn]⟩
        rw [hx] at q'
        have hx2 : atI rows (n : Int) = some x := by rw [atI_nat', hx]
        simp only [↓zzaa, ↓zzab, ↓zzac, ↓zzad, ↓zzae, ↓zzaf, ↓zzag, ↓zzah, ↓zzai, ↓zzaj, ↓zzak, ↓zzal, ↓zzam, ↓zzan, ↓zzao, ↓zzap, ↓zzaq, ↓zzar, ↓zzas, ↓zzat, ↓zzau, ↓zzav, ↓zzaw, ↓zzax, ↓zzay, ↓zzaz, ↓zzba, ↓zzbb, ↓zzbc, ↓zzbd, ↓zzbe, ↓zzbf, ↓zzbg, ↓zzbh, ↓zzbi, ↓zzbj, ↓zzbk, ↓zzbl, ↓zzbm, ↓zzbn, ↓zzbo, ↓zzbp, ↓zzbq, ↓zzbr, ↓zzbs, ↓zzbt, ↓zzbu, ↓zzbv, ↓zzbw, ↓zzbx, ↓zzby, ↓zzbz, ↓zzca, ↓zzcb, ↓zzcc, ↓zzcd, ↓zzce, ↓zzcf, ↓zzcg, ↓zzch, ↓zzci, ↓zzcj, ↓zzck, ↓zzcl, ↓zzcm, ↓zzcn, ↓zzco, ↓zzcp, ↓zzcq, ↓zzcr, ↓zzcs, ↓zzct, ↓zzcu, ↓zzcv, ↓zzcw, ↓zzcx, ↓zzcy, ↓zzcz, ↓zzda, ↓zzdb, ↓zzdc, ↓zzdd, zzde, ↓zzdf, ↓zzdg, ↓zzdh, ↓zzdi, ↓zzdj, ↓zzdk, ↓zzdl, ↓zzdm, ↓zzdn, ↓zzdo, ↓zzdp, ↓zzdq, zzdr, zzds, zzdt, zzdu, zzdv, zzdw, zzdx, zzdy, zzdz, zzea, zzeb, oEq, oNe, eqT, oAdd, oNeg, oAbs, oMax2, oMin2, oInt, oLen, oIsN, oNotN, oIn, oNin, inT, eqF, oIsi, oIsi2, oList, oTuple, seqT, zp, enm, two, three, ioFind, ioCount, brOk, Bop.still, Bop.isI, T.ow, T.owl, T.nob, T.nobl, T.nfz, T.nfzl, T.fz, T.fzl, Bop.fit, Bop.res, Bop.bo, zzec, zzed, zzee, zzef, zzeg, zzeh, zzei, zzej, zzef, zzeg, zzeh, zzei, zzek, zzel, List.all_cons, List.all_nil, List.any_cons, List.any_nil, zzem, zzen, zzeo, zzep, zzeq, zzer, zzes, zzet, Bool.not_false, Bool.not_true, Bool.or_false, Bool.false_or, Bool.and_true, Bool.true_and, Bool.or_true, Bool.true_or, Bool.and_false, Bool.false_and, Bool.not_not, Bool.not_eq_true', decide_eq_false_iff_not, Bool.and_eq_true, Bool.or_eq_true, true_or, or_true, false_or, or_false, true_and, and_true, false_and, and_false, Bool.false_eq_true, false_imp_iff, if_true, if_false, forall_const, implies_true, Option.some.injEq, Option.isSome_some, forall_eq', reduceCtorEq, List.cons_append, List.nil_append, List.length_cons, List.length_nil, List.length_map, List.length_append, List.length_range, zzeu, zzev, zzew, List.replicate, List.flatten_cons, List.flatten_nil, List.append_nil, Nat.reduceAdd, Nat.reduceSub, Nat.reduceLT, Nat.reduceLeDiff, List.set_cons_zero, List.set_cons_succ, decide_eq_true_eq, decide_true, decide_false, Int.reduceLT, Int.reduceLE, Int.reduceMul, Int.reducePow, Int.reduceToNat, Int.reduceAdd, Int.reduceSub, Int.reduceNeg, Int.reduceEq, Nat.reducePow, zzex, zzey, zzez, Nat.zero_add, big, zzfa, zzfb, String.reduceEq, wipeE, zzfc, zzfd, zzah, zzai, Option.getD_some, ↓zzfe, ↓zzff, ↓zzfg, ↓zzfh, ↓zzfi, ↓zzfj, ↓zzfk, ↓zzfl, ↓zzfm, ↓zzfn, ↓zzfo, ↓zzfp, ↓zzfq, ↓zzfr, ↓zzfs, ↓zzft, ↓zzfu, ↓zzfv, ↓zzfw, ↓zzfx, ↓zzfy, ↓zzfz, ↓zzga, ↓zzgb, ↓zzgc, ↓zzgd, ↓zzge, ↓zzgf, ↓zzgg, ↓zzgh, ↓zzgi, ↓zzgj, ↓zzgk, ↓zzgl, ↓zzgm, ↓zzgn, ↓zzgo, ↓zzgp, ↓zzgq, ↓zzgr, ↓zzgs, ↓zzgt, ↓zzgu, ↓zzgv, ↓zzgw, ↓zzgx, ↓zzgy, ↓zzgz, ↓zzha, ↓zzhb, ↓zzhc, ↓zzhd, ↓zzhe, ↓zzhf, ↓zzhg, ↓zzhh, ↓zzhi, ↓zzhj, ↓zzhk, ↓zzhl, ↓zzhm, ↓zzhn, ↓zzho, ↓zzhp, ↓zzhq, ↓zzhr, ↓zzhs, ↓zzht, ↓zzhl, zzhu, zzhv, zzhw, zzhx, zzhy, zzhz, zzia, zzib, zzic, zzid, zzie, zzif, zzig, zzih, zzii, zzij, zzik, zzil, zzim, zzin, zzio, zzip, zziq, zzir, zzis, zzit, zziu, zziv, zziw, zzix, zziy, zziz, zzja, zzjb, zzjc, zzjd, zzje, zzjf, zzjg, zzjh, zzji, zzjj, zzjk, zzjl, zzjm, zzjn, zzjo, zzjp, zzjq, zzjr, zzjs, zzjt, zzju, zzjv, zzjw, zzjx, zzjy, zzjz, zzka, zzkb, zzkc, zzkd, zzke, zzkf, zzkg, zzkh, zzki, zzkj, zzkk, zzkl, zzkm, zzkn, zzko, zzkp, zzkq, zzkr, zzks, zzkt, zzku, zzkv, zzkw, zzkx, zzky, zzkz, zzla, zzlb, zzlc, zzld, zzle, zzlf, zzlg, zzlh, zzli, zzlj, zzlk, zzll, zzlm, zzln, zzlo, ↓zzlp, ↓zzlq, ↓zzlr, ↓zzls, ↓zzlt, ↓zzlu, ↓zzlv, ↓zzlw, ↓zzlx, ↓zzly, ↓zzlz, ↓zzma, zzmb, zzmc, ↓zzmd, ↓zzme, ↓zzmf, ↓zzmg, ↓zzmh, zzmi, zzmj, zzmk, zzml, zzmm, zzmn, zzmo, zzmp, zzmq, zzmr, zzms, Option.bind_some, Option.map_some, ↓zzmt, ↓zzmu, ↓zzmv, ↓zzmw, ↓zzmx, ↓zzmy, ↓zzmz, ↓zzna, ↓zznb, ↓zznc, ↓zznd, ↓zzne, ↓zznf, ↓zzng, ↓zznh, ↓zzni, ↓zznj, ↓zznk, ↓zznl, hx2, Row.nob, Row.fz, Row.ow, Row.nfz]
        have hf : ∀ r : Row, r ∈ rows → r.t.nob = true := fun _ _ => Row.nob
        cases x <;> simp only [rt_set, rt_sum, rt_less, rt_tell, rt_go, rt_nil, rt_stop] at q' ⊢ <;> simp only [↓zzaa, ↓zzab, ↓zzac, ↓zzad, ↓zzae, ↓zzaf, ↓zzag, ↓zzah, ↓zzai, ↓zzaj, ↓zzak, ↓zzal, ↓zzam, ↓zzan, ↓zzao, ↓zzap, ↓zzaq, ↓zzar, ↓zzas, ↓zzat, ↓zzau, ↓zzav, ↓zzaw, ↓zzax, ↓zzay, ↓zzaz, ↓zzba, ↓zzbb, ↓zzbc, ↓zzbd, ↓zzbe, ↓zzbf, ↓zzbg, ↓zzbh, ↓zzbi, ↓zzbj, ↓zzbk, ↓zzbl, ↓zzbm, ↓zzbn, ↓zzbo, ↓zzbp, ↓zzbq, ↓zzbr, ↓zzbs, ↓zzbt, ↓zzbu, ↓zzbv, ↓zzbw, ↓zzbx, ↓zzby, ↓zzbz, ↓zzca, ↓zzcb, ↓zzcc, ↓zzcd, ↓zzce, ↓zzcf, ↓zzcg, ↓zzch, ↓zzci, ↓zzcj, ↓zzck, ↓zzcl, ↓zzcm, ↓zzcn, ↓zzco, ↓zzcp, ↓zzcq, ↓zzcr, ↓zzcs, ↓zzct, ↓zzcu, ↓zzcv, ↓zzcw, ↓zzcx, ↓zzcy, ↓zzcz, ↓zzda, ↓zzdb, ↓zzdc, ↓zzdd, zzde, ↓zzdf, ↓zzdg, ↓zzdh, ↓zzdi, ↓zzdj, ↓zzdk, ↓zzdl, ↓zzdm, ↓zzdn, ↓zzdo, ↓zzdp, ↓zzdq, zzdr, zzds, zzdt, zzdu, zzdv, zzdw, zzdx, zzdy, zzdz, zzea, zzeb, oEq, oNe, eqT, oAdd, oNeg, oAbs, oMax2, oMin2, oInt, oLen, oIsN, oNotN, oIn, oNin, inT, eqF, oIsi, oIsi2, oList, oTuple, seqT, zp, enm, two, three, ioFind, ioCount, brOk, Bop.still, Bop.isI, T.ow, T.owl, T.nob, T.nobl, T.nfz, T.nfzl, T.fz, T.fzl, Bop.fit, Bop.res, Bop.bo, zzec, zzed, zzee, zzef, zzeg, zzeh, zzei, zzej, zzef, zzeg, zzeh, zzei, zzek, zzel, List.all_cons, List.all_nil, List.any_cons, List.any_nil, zzem, zzen, zzeo, zzep, zzeq, zzer, zzes, zzet, Bool.not_false, Bool.not_true, Bool.or_false, Bool.false_or, Bool.and_true, Bool.true_and, Bool.or_true, Bool.true_or, Bool.and_false, Bool.false_and, Bool.not_not, Bool.not_eq_true', decide_eq_false_iff_not, Bool.and_eq_true, Bool.or_eq_true, true_or, or_true, false_or, or_false, true_and, and_true, false_and, and_false, Bool.false_eq_true, false_imp_iff, if_true, if_false, forall_const, implies_true, Option.some.injEq, Option.isSome_some, forall_eq', reduceCtorEq, List.cons_append, List.nil_append, List.length_cons, List.length_nil, List.length_map, List.length_append, List.length_range, zzeu, zzev, zzew, List.replicate, List.flatten_cons, List.flatten_nil, List.append_nil, Nat.reduceAdd, Nat.reduceSub, Nat.reduceLT, Nat.reduceLeDiff, List.set_cons_zero, List.set_cons_succ, decide_eq_true_eq, decide_true, decide_false, Int.reduceLT, Int.reduceLE, Int.reduceMul, Int.reducePow, Int.reduceToNat, Int.reduceAdd, Int.reduceSub, Int.reduceNeg, Int.reduceEq, Nat.reducePow, zzex, zzey, zzez, Nat.zero_add, big, zzfa, zzfb, String.reduceEq, wipeE, zzfc, zzfd, zzah, zzai, Option.getD_some, ↓zzfe, ↓zzff, ↓zzfg, ↓zzfh, ↓zzfi, ↓zzfj, ↓zzfk, ↓zzfl, ↓zzfm, ↓zzfn, ↓zzfo, ↓zzfp, ↓zzfq, ↓zzfr, ↓zzfs, ↓zzft, ↓zzfu, ↓zzfv, ↓zzfw, ↓zzfx, ↓zzfy, ↓zzfz, ↓zzga, ↓zzgb, ↓zzgc, ↓zzgd, ↓zzge, ↓zzgf, ↓zzgg, ↓zzgh, ↓zzgi, ↓zzgj, ↓zzgk, ↓zzgl, ↓zzgm, ↓zzgn, ↓zzgo, ↓zzgp, ↓zzgq, ↓zzgr, ↓zzgs, ↓zzgt, ↓zzgu, ↓zzgv, ↓zzgw, ↓zzgx, ↓zzgy, ↓zzgz, ↓zzha, ↓zzhb, ↓zzhc, ↓zzhd, ↓zzhe, ↓zzhf, ↓zzhg, ↓zzhh, ↓zzhi, ↓zzhj, ↓zzhk, ↓zzhl, ↓zzhm, ↓zzhn, ↓zzho, ↓zzhp, ↓zzhq, ↓zzhr, ↓zzhs, ↓zzht, ↓zzhl, zzhu, zzhv, zzhw, zzhx, zzhy, zzhz, zzia, zzib, zzic, zzid, zzie, zzif, zzig, zzih, zzii, zzij, zzik, zzil, zzim, zzin, zzio, zzip, zziq, zzir, zzis, zzit, zziu, zziv, zziw, zzix, zziy, zziz, zzja, zzjb, zzjc, zzjd, zzje, zzjf, zzjg, zzjh, zzji, zzjj, zzjk, zzjl, zzjm, zzjn, zzjo, zzjp, zzjq, zzjr, zzjs, zzjt, zzju, zzjv, zzjw, zzjx, zzjy, zzjz, zzka, zzkb, zzkc, zzkd, zzke, zzkf, zzkg, zzkh, zzki, zzkj, zzkk, zzkl, zzkm, zzkn, zzko, zzkp, zzkq, zzkr, zzks, zzkt, zzku, zzkv, zzkw, zzkx, zzky, zzkz, zzla, zzlb, zzlc, zzld, zzle, zzlf, zzlg, zzlh, zzli, zzlj, zzlk, zzll, zzlm, zzln, zzlo, ↓zzlp, ↓zzlq, ↓zzlr, ↓zzls, ↓zzlt, ↓zzlu, ↓zzlv, ↓zzlw, ↓zzlx, ↓zzly, ↓zzlz, ↓zzma, zzmb, zzmc, ↓zzmd, ↓zzme, ↓zzmf, ↓zzmg, ↓zzmh, zzmi, zzmj, zzmk, zzml, zzmm, zzmn, zzmo, zzmp, zzmq, zzmr, zzms, Option.bind_some, Option.map_some, ↓zzmt, ↓zzmu, ↓zzmv, ↓zzmw, ↓zzmx, ↓zzmy, ↓zzmz, ↓zzna, ↓zznb, ↓zznc, ↓zznd, ↓zzne, ↓zznf, ↓zzng, ↓zznh, ↓zzni, ↓zznj, ↓zznk, ↓zznl, hx2, rt_set, Row.nob, Row.fz, Row.ow, Row.nfz]
        · exact iteP q'
        all_goals exact q'
      simp only [↓zzaa, ↓zzab, ↓zzac, ↓zzad, ↓zzae, ↓zzaf, ↓zzag, ↓zzah, ↓zzai, ↓zzaj, ↓zzak, ↓zzal, ↓zzam, ↓zzan, ↓zzao, ↓zzap, ↓zzaq, ↓zzar, ↓zzas, ↓zzat, ↓zzau, ↓zzav, ↓zzaw, ↓zzax, ↓zzay, ↓zzaz, ↓zzba, ↓zzbb, ↓zzbc, ↓zzbd, ↓zzbe, ↓zzbf, ↓zzbg, ↓zzbh, ↓zzbi, ↓zzbj, ↓zzbk, ↓zzbl, ↓zzbm, ↓zzbn, ↓zzbo, ↓zzbp, ↓zzbq, ↓zzbr, ↓zzbs, ↓zzbt, ↓zzbu, ↓zzbv, ↓zzbw, ↓zzbx, ↓zzby, ↓zzbz, ↓zzca, ↓zzcb, ↓zzcc, ↓zzcd, ↓zzce, ↓zzcf, ↓zzcg, ↓zzch, ↓zzci, ↓zzcj, ↓zzck, ↓zzcl, ↓zzcm, ↓zzcn, ↓zzco, ↓zzcp, ↓zzcq, ↓zzcr, ↓zzcs, ↓zzct, ↓zzcu, ↓zzcv, ↓zzcw, ↓zzcx, ↓zzcy, ↓zzcz, ↓zzda, ↓zzdb, ↓zzdc, ↓zzdd, zzde, ↓zzdf, ↓zzdg, ↓zzdh, ↓zzdi, ↓zzdj, ↓zzdk, ↓zzdl, ↓zzdm, ↓zzdn, ↓zzdo, ↓zzdp, ↓zzdq, zzdr, zzds, zzdt, zzdu, zzdv, zzdw, zzdx, zzdy, zzdz, zzea, zzeb, oEq, oNe, eqT, oAdd, oNeg, oAbs, oMax2, oMin2, oInt, oLen, oIsN, oNotN, oIn, oNin, inT, eqF, oIsi, oIsi2, oList, oTuple, seqT, zp, enm, two, three, ioFind, ioCount, brOk, Bop.still, Bop.isI, T.ow, T.owl, T.nob, T.nobl, T.nfz, T.nfzl, T.fz, T.fzl, Bop.fit, Bop.res, Bop.bo, zzec, zzed, zzee, zzef, zzeg, zzeh, zzei, zzej, zzef, zzeg, zzeh, zzei, zzek, zzel, List.all_cons, List.all_nil, List.any_cons, List.any_nil, zzem, zzen, zzeo, zzep, zzeq, zzer, zzes, zzet, Bool.not_false, Bool.not_true, Bool.or_false, Bool.false_or, Bool.and_true, Bool.true_and, Bool.or_true, Bool.true_or, Bool.and_false, Bool.false_and, Bool.not_not, Bool.not_eq_true', decide_eq_false_iff_not, Bool.and_eq_true, Bool.or_eq_true, true_or, or_true, false_or, or_false, true_and, and_true, false_and, and_false, Bool.false_eq_true, false_imp_iff, if_true, if_false, forall_const, implies_true, Option.some.injEq, Option.isSome_some, forall_eq', reduceCtorEq, List.cons_append, List.nil_append, List.length_cons, List.length_nil, List.length_map, List.length_append, List.length_range, zzeu, zzev, zzew, List.replicate, List.flatten_cons, List.flatten_nil, List.append_nil, Nat.reduceAdd, Nat.reduceSub, Nat.reduceLT, Nat.reduceLeDiff, List.set_cons_zero, List.set_cons_succ, decide_eq_true_eq, decide_true, decide_false, Int.reduceLT, Int.reduceLE, Int.reduceMul, Int.reducePow, Int.reduceToNat, Int.reduceAdd, Int.reduceSub, Int.reduceNeg, Int.reduceEq, Nat.reducePow, zzex, zzey, zzez, Nat.zero_add, big, zzfa, zzfb, String.reduceEq, wipeE, zzfc, zzfd, zzah, zzai, Option.getD_some, ↓zzfe, ↓zzff, ↓zzfg, ↓zzfh, ↓zzfi, ↓zzfj, ↓zzfk, ↓zzfl, ↓zzfm, ↓zzfn, ↓zzfo, ↓zzfp, ↓zzfq, ↓zzfr, ↓zzfs, ↓zzft, ↓zzfu, ↓zzfv, ↓zzfw, ↓zzfx, ↓zzfy, ↓zzfz, ↓zzga, ↓zzgb, ↓zzgc, ↓zzgd, ↓zzge, ↓zzgf, ↓zzgg, ↓zzgh, ↓zzgi, ↓zzgj, ↓zzgk, ↓zzgl, ↓zzgm, ↓zzgn, ↓zzgo, ↓zzgp, ↓zzgq, ↓zzgr, ↓zzgs, ↓zzgt, ↓zzgu, ↓zzgv, ↓zzgw, ↓zzgx, ↓zzgy, ↓zzgz, ↓zzha, ↓zzhb, ↓zzhc, ↓zzhd, ↓zzhe, ↓zzhf, ↓zzhg, ↓zzhh, ↓zzhi, ↓zzhj, ↓zzhk, ↓zzhl, ↓zzhm, ↓zzhn, ↓zzho, ↓zzhp, ↓zzhq, ↓zzhr, ↓zzhs, ↓zzht, ↓zzhl, zzhu, zzhv, zzhw, zzhx, zzhy, zzhz, zzia, zzib, zzic, zzid, zzie, zzif, zzig, zzih, zzii, zzij, zzik, zzil, zzim, zzin, zzio, zzip, zziq, zzir, zzis, zzit, zziu, zziv, zziw, zzix, zziy, zziz, zzja, zzjb, zzjc, zzjd, zzje, zzjf, zzjg, zzjh, zzji, zzjj, zzjk, zzjl, zzjm, zzjn, zzjo, zzjp, zzjq, zzjr, zzjs, zzjt, zzju, zzjv, zzjw, zzjx, zzjy, zzjz, zzka, zzkb, zzkc, zzkd, zzke, zzkf, zzkg, zzkh, zzki, zzkj, zzkk, zzkl, zzkm, zzkn, zzko, zzkp, zzkq, zzkr, zzks, zzkt, zzku, zzkv, zzkw, zzkx, zzky, zzkz, zzla, zzlb, zzlc, zzld, zzle, zzlf, zzlg, zzlh, zzli, zzlj, zzlk, zzll, zzlm, zzln, zzlo, ↓zzlp, ↓zzlq, ↓zzlr, ↓zzls, ↓zzlt, ↓zzlu, ↓zzlv, ↓zzlw, ↓zzlx, ↓zzly, ↓zzlz, ↓zzma, zzmb, zzmc, ↓zzmd, ↓zzme, ↓zzmf, ↓zzmg, ↓zzmh, zzmi, zzmj, zzmk, zzml, zzmm, zzmn, zzmo, zzmp, zzmq, zzmr, zzms, Option.bind_some, Option.map_some, ↓zzmt, ↓zzmu, ↓zzmv, ↓zzmw, ↓zzmx, ↓zzmy, ↓zzmz, ↓zzna, ↓zznb, ↓zznc, ↓zznd, ↓zzne, ↓zznf, ↓zzng, ↓zznh, ↓zzni, ↓zznj, ↓zznk, ↓zznl]
      rw [greats_range]
      simp only [↓zzaa, ↓zzab, ↓zzac, ↓zzad, ↓zzae, ↓zzaf, ↓zzag, ↓zzah, ↓zzai, ↓zzaj, ↓zzak, ↓zzal, ↓zzam, ↓zzan, ↓zzao, ↓zzap, ↓zzaq, ↓zzar, ↓zzas, ↓zzat, ↓zzau, ↓zzav, ↓zzaw, ↓zzax, ↓zzay, ↓zzaz, ↓zzba, ↓zzbb, ↓zzbc, ↓zzbd, ↓zzbe, ↓zzbf, ↓zzbg, ↓zzbh, ↓zzbi, ↓zzbj, ↓zzbk, ↓zzbl, ↓zzbm, ↓zzbn, ↓zzbo, ↓zzbp, ↓zzbq, ↓zzbr, ↓zzbs, ↓zzbt, ↓zzbu, ↓zzbv, ↓zzbw, ↓zzbx, ↓zzby, ↓zzbz, ↓zzca, ↓zzcb, ↓zzcc, ↓zzcd, ↓zzce, ↓zzcf, ↓zzcg, ↓zzch, ↓zzci, ↓zzcj, ↓zzck, ↓zzcl, ↓zzcm, ↓zzcn, ↓zzco, ↓zzcp, ↓zzcq, ↓zzcr, ↓zzcs, ↓zzct, ↓zzcu, ↓zzcv, ↓zzcw, ↓zzcx, ↓zzcy, ↓zzcz, ↓zzda, ↓zzdb, ↓zzdc, ↓zzdd, zzde, ↓zzdf, ↓zzdg, ↓zzdh, ↓zzdi, ↓zzdj, ↓zzdk, ↓zzdl, ↓zzdm, ↓zzdn, ↓zzdo, ↓zzdp, ↓zzdq, zzdr, zzds, zzdt, zzdu, zzdv, zzdw, zzdx, zzdy, zzdz, zzea, zzeb, oEq, oNe, eqT, oAdd, oNeg, oAbs, oMax2, oMin2, oInt, oLen, oIsN, oNotN, oIn, oNin, inT, eqF, oIsi, oIsi2, oList, oTuple, seqT, zp, enm, two, three, ioFind, ioCount, brOk, Bop.still, Bop.isI, T.ow, T.owl, T.nob, T.nobl, T.nfz, T.nfzl, T.fz, T.fzl, Bop.fit, Bop.res, Bop.bo, zzec, zzed, zzee, zzef, zzeg, zzeh, zzei, zzej, zzef, zzeg, zzeh, zzei, zzek, zzel, List.all_cons, List.all_nil, List.any_cons, List.any_nil, zzem, zzen, zzeo, zzep, zzeq, zzer, zzes, zzet, Bool.not_false, Bool.not_true, Bool.or_false, Bool.false_or, Bool.and_true, Bool.true_and, Bool.or_true, Bool.true_or, Bool.and_false, Bool.false_and, Bool.not_not, Bool.not_eq_true', decide_eq_false_iff_not, Bool.and_eq_true, Bool.or_eq_true, true_or, or_true, false_or, or_false, true_and, and_true, false_and, and_false, Bool.false_eq_true, false_imp_iff, if_true, if_false, forall_const, implies_true, Option.some.injEq, Option.isSome_some, forall_eq', reduceCtorEq, List.cons_append, List.nil_append, List.length_cons, List.length_nil, List.length_map, List.length_append, List.length_range, zzeu, zzev, zzew, List.replicate, List.flatten_cons, List.flatten_nil, List.append_nil, Nat.reduceAdd, Nat.reduceSub, Nat.reduceLT, Nat.reduceLeDiff, List.set_cons_zero, List.set_cons_succ, decide_eq_true_eq, decide_true, decide_false, Int.reduceLT, Int.reduceLE, Int.reduceMul, Int.reducePow, Int.reduceToNat, Int.reduceAdd, Int.reduceSub, Int.reduceNeg, Int.reduceEq, Nat.reducePow, zzex, zzey, zzez, Nat.zero_add, big, zzfa, zzfb, String.reduceEq, wipeE, zzfc, zzfd, zzah, zzai, Option.getD_some, ↓zzfe, ↓zzff, ↓zzfg, ↓zzfh, ↓zzfi, ↓zzfj, ↓zzfk, ↓zzfl, ↓zzfm, ↓zzfn, ↓zzfo, ↓zzfp, ↓zzfq, ↓zzfr, ↓zzfs, ↓zzft, ↓zzfu, ↓zzfv, ↓zzfw, ↓zzfx, ↓zzfy, ↓zzfz, ↓zzga, ↓zzgb, ↓zzgc, ↓zzgd, ↓zzge, ↓zzgf, ↓zzgg, ↓zzgh, ↓zzgi, ↓zzgj, ↓zzgk, ↓zzgl, ↓zzgm, ↓zzgn, ↓zzgo, ↓zzgp, ↓zzgq, ↓zzgr, ↓zzgs, ↓zzgt, ↓zzgu, ↓zzgv, ↓zzgw, ↓zzgx, ↓zzgy, ↓zzgz, ↓zzha, ↓zzhb, ↓zzhc, ↓zzhd, ↓zzhe, ↓zzhf, ↓zzhg, ↓zzhh, ↓zzhi, ↓zzhj, ↓zzhk, ↓zzhl, ↓zzhm, ↓zzhn, ↓zzho, ↓zzhp, ↓zzhq, ↓zzhr, ↓zzhs, ↓zzht, ↓zzhl, zzhu, zzhv, zzhw, zzhx, zzhy, zzhz, zzia, zzib, zzic, zzid, zzie, zzif, zzig, zzih, zzii, zzij, zzik, zzil, zzim, zzin, zzio, zzip, zziq, zzir, zzis, zzit, zziu, zziv, zziw, zzix, zziy, zziz, zzja, zzjb, zzjc, zzjd, zzje, zzjf, zzjg, zzjh, zzji, zzjj, zzjk, zzjl, zzjm, zzjn, zzjo, zzjp, zzjq, zzjr, zzjs, zzjt, zzju, zzjv, zzjw, zzjx, zzjy, zzjz, zzka, zzkb, zzkc, zzkd, zzke, zzkf, zzkg, zzkh, zzki, zzkj, zzkk, zzkl, zzkm, zzkn, zzko, zzkp, zzkq, zzkr, zzks, zzkt, zzku, zzkv, zzkw, zzkx, zzky, zzkz, zzla, zzlb, zzlc, zzld, zzle, zzlf, zzlg, zzlh, zzli, zzlj, zzlk, zzll, zzlm, zzln, zzlo, ↓zzlp, ↓zzlq, ↓zzlr, ↓zzls, ↓zzlt, ↓zzlu, ↓zzlv, ↓zzlw, ↓zzlx, ↓zzly, ↓zzlz, ↓zzma, zzmb, zzmc, ↓zzmd, ↓zzme, ↓zzmf, ↓zzmg, ↓zzmh, zzmi, zzmj, zzmk, zzml, zzmm, zzmn, zzmo, zzmp, zzmq, zzmr, zzms, Option.bind_some, Option.map_some, ↓zzmt, ↓zzmu, ↓zzmv, ↓zzmw, ↓zzmx, ↓zzmy, ↓zzmz, ↓zzna, ↓zznb, ↓zznc, ↓zznd, ↓zzne, ↓zznf, ↓zzng, ↓zznh, ↓zzni, ↓zznj, ↓zznk, ↓zznl, Row.ow, Row.nob, Row.nfz, Row.fz]
      simp only [Int.toNat_natCast]
      refine ⟨by omega, by omega, lc_filter (p := fun k : Nat => (rows[k]?.map Row.jump).getD false) (h := fun k : Nat => T.int k) (fun n hn Q' q' => ?_) ?_⟩
      · have hn := List.mem_range.mp hn
        obtain ⟨x, hx⟩ : ∃ x, rows[n]? = some x := ⟨rows[n], by simp [hn]⟩
        rw [hx] at q'
        have hx2 : atI rows (n : Int) = some x := by rw [atI_nat', hx]
        simp only [↓zzaa, ↓zzab, ↓zzac, ↓zzad, ↓zzae, ↓zzaf, ↓zzag, ↓zzah, ↓zzai, ↓zzaj, ↓zzak, ↓zzal, ↓zzam, ↓zzan, ↓zzao, ↓zzap, ↓zzaq, ↓zzar, ↓zzas, ↓zzat, ↓zzau, ↓zzav, ↓zzaw, ↓zzax, ↓zzay, ↓zzaz, ↓zzba, ↓zzbb, ↓zzbc, ↓zzbd, ↓zzbe, ↓zzbf, ↓zzbg, ↓zzbh, ↓zzbi, ↓zzbj, ↓zzbk, ↓zzbl, ↓zzbm, ↓zzbn, ↓zzbo, ↓zzbp, ↓zzbq, ↓zzbr, ↓zzbs, ↓zzbt, ↓zzbu, ↓zzbv, ↓zzbw, ↓zzbx, ↓zzby, ↓zzbz, ↓zzca, ↓zzcb, ↓zzcc, ↓zzcd, ↓zzce, ↓zzcf, ↓zzcg, ↓zzch, ↓zzci, ↓zzcj, ↓zzck, ↓zzcl, ↓zzcm, ↓zzcn, ↓zzco, ↓zzcp, ↓zzcq, ↓zzcr, ↓zzcs, ↓zzct, ↓zzcu, ↓zzcv, ↓zzcw, ↓zzcx, ↓zzcy, ↓zzcz, ↓zzda, ↓zzdb, ↓zzdc, ↓zzdd, zzde, ↓zzdf, ↓zzdg, ↓zzdh, ↓zzdi, ↓zzdj, ↓zzdk, ↓zzdl, ↓zzdm, ↓zzdn, ↓zzdo, ↓zzdp, ↓zzdq, zzdr, zzds, zzdt, zzdu, zzdv, zzdw, zzdx, zzdy, zzdz, zzea, zzeb, oEq, oNe, eqT, oAdd, oNeg, oAbs, oMax2, oMin2, oInt, oLen, oIsN, oNotN, oIn, oNin, inT, eqF, oIsi, oIsi2, oList, oTuple, seqT, zp, enm, two, three, ioFind, ioCount, brOk, Bop.still, Bop.isI, T.ow, T.owl, T.nob, T.nobl, T.nfz, T.nfzl, T.fz, T.fzl, Bop.fit, Bop.res, Bop.bo, zzec, zzed, zzee, zzef, zzeg, zzeh, zzei, zzej, zzef, zzeg, zzeh, zzei, zzek, zzel, List.all_cons, List.all_nil, List.any_cons, List.any_nil, zzem, zzen, zzeo, zzep, zzeq, zzer, zzes, zzet, Bool.not_false, Bool.not_true, Bool.or_false, Bool.false_or, Bool.and_true, Bool.true_and, Bool.or_true, Bool.true_or, Bool.and_false, Bool.false_and, Bool.not_not, Bool.not_eq_true', decide_eq_false_iff_not, Bool.and_eq_true, Bool.or_eq_true, true_or, or_true, false_or, or_false, true_and, and_true, false_and, and_false, Bool.false_eq_true, false_imp_iff, if_true, if_false, forall_const, implies_true, Option.some.injEq, Option.isSome_some, forall_eq', reduceCtorEq, List.cons_append, List.nil_append, List.length_cons, List.length_nil, List.length_map, List.length_append, List.length_range, zzeu, zzev, zzew, List.replicate, List.flatten_cons, List.flatten_nil, List.append_nil, Nat.reduceAdd, Nat.reduceSub, Nat.reduceLT, Nat.reduceLeDiff, List.set_cons_zero, List.set_cons_succ, decide_eq_true_eq, decide_true, decide_false, Int.reduceLT, Int.reduceLE, Int.reduceMul, Int.reducePow, Int.reduceToNat, Int.reduceAdd, Int.reduceSub, Int.reduceNeg, Int.reduceEq, Nat.reducePow, zzex, zzey, zzez, Nat.zero_add, big, zzfa, zzfb, String.reduceEq, wipeE, zzfc, zzfd, zzah, zzai, Option.getD_some, ↓zzfe, ↓zzff, ↓zzfg, ↓zzfh, ↓zzfi, ↓zzfj, ↓zzfk, ↓zzfl, ↓zzfm, ↓zzfn, ↓zzfo, ↓zzfp, ↓zzfq, ↓zzfr, ↓zzfs, ↓zzft, ↓zzfu, ↓zzfv, ↓zzfw, ↓zzfx, ↓zzfy, ↓zzfz, ↓zzga, ↓zzgb, ↓zzgc, ↓zzgd, ↓zzge, ↓zzgf, ↓zzgg, ↓zzgh, ↓zzgi, ↓zzgj, ↓zzgk, ↓zzgl, ↓zzgm, ↓zzgn, ↓zzgo, ↓zzgp, ↓zzgq, ↓zzgr, ↓zzgs, ↓zzgt, ↓zzgu, ↓zzgv, ↓zzgw, ↓zzgx, ↓zzgy, ↓zzgz, ↓zzha, ↓zzhb, ↓zzhc, ↓zzhd, ↓zzhe, ↓zzhf, ↓zzhg, ↓zzhh, ↓zzhi, ↓zzhj, ↓zzhk, ↓zzhl, ↓zzhm, ↓zzhn, ↓zzho, ↓zzhp, ↓zzhq, ↓zzhr, ↓zzhs, ↓zzht, ↓zzhl, zzhu, zzhv, zzhw, zzhx, zzhy, zzhz, zzia, zzib, zzic, zzid, zzie, zzif, zzig, zzih, zzii, zzij, zzik, zzil, zzim, zzin, zzio, zzip, zziq, zzir, zzis, zzit, zziu, zziv, zziw, zzix, zziy, zziz, zzja, zzjb, zzjc, zzjd, zzje, zzjf, zzjg, zzjh, zzji, zzjj, zzjk, zzjl, zzjm, zzjn, zzjo, zzjp, zzjq, zzjr, zzjs, zzjt, zzju, zzjv, zzjw, zzjx, zzjy, zzjz, zzka, zzkb, zzkc, zzkd, zzke, zzkf, zzkg, zzkh, zzki, zzkj, zzkk, zzkl, zzkm, zzkn, zzko, zzkp, zzkq, zzkr, zzks, zzkt, zzku, zzkv, zzkw, zzkx, zzky, zzkz, zzla, zzlb, zzlc, zzld, zzle, zzlf, zzlg, zzlh, zzli, zzlj, zzlk, zzll, zzlm, zzln, zzlo, ↓zzlp, ↓zzlq, ↓zzlr, ↓zzls, ↓zzlt, ↓zzlu, ↓zzlv, ↓zzlw, ↓zzlx, ↓zzly, ↓zzlz, ↓zzma, zzmb, zzmc, ↓zzmd, ↓zzme, ↓zzmf, ↓zzmg, ↓zzmh, zzmi, zzmj, zzmk, zzml, zzmm, zzmn, zzmo, zzmp, zzmq, zzmr, zzms, Option.bind_some, Option.map_some, ↓zzmt, ↓zzmu, ↓zzmv, ↓zzmw, ↓zzmx, ↓zzmy, ↓zzmz, ↓zzna, ↓zznb, ↓zznc, ↓zznd, ↓zzne, ↓zznf, ↓zzng, ↓zznh, ↓zzni, ↓zznj, ↓zznk, ↓zznl, hx2, Row.nob, Row.fz, Row.ow, Row.nfz]
        cases x <;> simp only [rt_set, rt_sum, rt_less, rt_tell, rt_go, rt_nil, rt_stop] at q' ⊢ <;> simp only [↓zzaa, ↓zzab, ↓zzac, ↓zzad, ↓zzae, ↓zzaf, ↓zzag, ↓zzah, ↓zzai, ↓zzaj, ↓zzak, ↓zzal, ↓zzam, ↓zzan, ↓zzao, ↓zzap, ↓zzaq, ↓zzar, ↓zzas, ↓zzat, ↓zzau, ↓zzav, ↓zzaw, ↓zzax, ↓zzay, ↓zzaz, ↓zzba, ↓zzbb, ↓zzbc, ↓zzbd, ↓zzbe, ↓zzbf, ↓zzbg, ↓zzbh, ↓zzbi, ↓zzbj, ↓zzbk, ↓zzbl, ↓zzbm, ↓zzbn, ↓zzbo, ↓zzbp, ↓zzbq, ↓zzbr, ↓zzbs, ↓zzbt, ↓zzbu, ↓zzbv, ↓zzbw, ↓zzbx, ↓zzby, ↓zzbz, ↓zzca, ↓zzcb, ↓zzcc, ↓zzcd, ↓zzce, ↓zzcf, ↓zzcg, ↓zzch, ↓zzci, ↓zzcj, ↓zzck, ↓zzcl, ↓zzcm, ↓zzcn, ↓zzco, ↓zzcp, ↓zzcq, ↓zzcr, ↓zzcs, ↓zzct, ↓zzcu, ↓zzcv, ↓zzcw, ↓zzcx, ↓zzcy, ↓zzcz, ↓zzda, ↓zzdb, ↓zzdc, ↓zzdd, zzde, ↓zzdf, ↓zzdg, ↓zzdh, ↓zzdi, ↓zzdj, ↓zzdk, ↓zzdl, ↓zzdm, ↓zzdn, ↓zzdo, ↓zzdp, ↓zzdq, zzdr, zzds, zzdt, zzdu, zzdv, zzdw, zzdx, zzdy, zzdz, zzea, zzeb, oEq, oNe, eqT, oAdd, oNeg, oAbs, oMax2, oMin2, oInt, oLen, oIsN, oNotN, oIn, oNin, inT, eqF, oIsi, oIsi2, oList, oTuple, seqT, zp, enm, two, three, ioFind, ioCount, brOk, Bop.still, Bop.isI, T.ow, T.owl, T.nob, T.nobl, T.nfz, T.nfzl, T.fz, T.fzl, Bop.fit, Bop.res, Bop.bo, zzec, zzed, zzee, zzef, zzeg, zzeh, zzei, zzej, zzef, zzeg, zzeh, zzei, zzek, zzel, List.all_cons, List.all_nil, List.any_cons, List.any_nil, zzem, zzen, zzeo, zzep, zzeq, zzer, zzes, zzet, Bool.not_false, Bool.not_true, Bool.or_false, Bool.false_or, Bool.and_true, Bool.true_and, Bool.or_true, Bool.true_or, Bool.and_false, Bool.false_and, Bool.not_not, Bool.not_eq_true', decide_eq_false_iff_not, Bool.and_eq_true, Bool.or_eq_true, true_or, or_true, false_or, or_false, true_and, and_true, false_and, and_false, Bool.false_eq_true, false_imp_iff, if_true, if_false, forall_const, implies_true, Option.some.injEq, Option.isSome_some, forall_eq', reduceCtorEq, List.cons_append, List.nil_append, List.length_cons, List.length_nil, List.length_map, List.length_append, List.length_range, zzeu, zzev, zzew, List.replicate, List.flatten_cons, List.flatten_nil, List.append_nil, Nat.reduceAdd, Nat.reduceSub, Nat.reduceLT, Nat.reduceLeDiff, List.set_cons_zero, List.set_cons_succ, decide_eq_true_eq, decide_true, decide_false, Int.reduceLT, Int.reduceLE, Int.reduceMul, Int.reducePow, Int.reduceToNat, Int.reduceAdd, Int.reduceSub, Int.reduceNeg, Int.reduceEq, Nat.reducePow, zzex, zzey, zzez, Nat.zero_add, big, zzfa, zzfb, String.reduceEq, wipeE, zzfc, zzfd, zzah, zzai, Option.getD_some, ↓zzfe, ↓zzff, ↓zzfg, ↓zzfh, ↓zzfi, ↓zzfj, ↓zzfk, ↓zzfl, ↓zzfm, ↓zzfn, ↓zzfo, ↓zzfp, ↓zzfq, ↓zzfr, ↓zzfs, ↓zzft, ↓zzfu, ↓zzfv, ↓zzfw, ↓zzfx, ↓zzfy, ↓zzfz, ↓zzga, ↓zzgb, ↓zzgc, ↓zzgd, ↓zzge, ↓zzgf, ↓zzgg, ↓zzgh, ↓zzgi, ↓zzgj, ↓zzgk, ↓zzgl, ↓zzgm, ↓zzgn, ↓zzgo, ↓zzgp, ↓zzgq, ↓zzgr, ↓zzgs, ↓zzgt, ↓zzgu, ↓zzgv, ↓zzgw, ↓zzgx, ↓zzgy, ↓zzgz, ↓zzha, ↓zzhb, ↓zzhc, ↓zzhd, ↓zzhe, ↓zzhf, ↓zzhg, ↓zzhh, ↓zzhi, ↓zzhj, ↓zzhk, ↓zzhl, ↓zzhm, ↓zzhn, ↓zzho, ↓zzhp, ↓zzhq, ↓zzhr, ↓zzhs, ↓zzht, ↓zzhl, zzhu, zzhv, zzhw, zzhx, zzhy, zzhz, zzia, zzib, zzic, zzid, zzie, zzif, zzig, zzih, zzii, zzij, zzik, zzil, zzim, zzin, zzio, zzip, zziq, zzir, zzis, zzit, zziu, zziv, zziw, zzix, zziy, zziz, zzja, zzjb, zzjc, zzjd, zzje, zzjf, zzjg, zzjh, zzji, zzjj, zzjk, zzjl, zzjm, zzjn, zzjo, zzjp, zzjq, zzjr, zzjs, zzjt, zzju, zzjv, zzjw, zzjx, zzjy, zzjz, zzka, zzkb, zzkc, zzkd, zzke, zzkf, zzkg, zzkh, zzki, zzkj, zzkk, zzkl, zzkm, zzkn, zzko, zzkp, zzkq, zzkr, zzks, zzkt, zzku, zzkv, zzkw, zzkx, zzky, zzkz, zzla, zzlb, zzlc, zzld, zzle, zzlf, zzlg, zzlh, zzli, zzlj, zzlk, zzll, zzlm, zzln, zzlo, ↓zzlp, ↓zzlq, ↓zzlr, ↓zzls, ↓zzlt, ↓zzlu, ↓zzlv, ↓zzlw, ↓zzlx, ↓zzly, ↓zzlz, ↓zzma, zzmb, zzmc, ↓zzmd, ↓zzme, ↓zzmf, ↓zzmg, ↓zzmh, zzmi, zzmj, zzmk, zzml, zzmm, zzmn, zzmo, zzmp, zzmq, zzmr, zzms, Option.bind_some, Option.map_some, ↓zzmt, ↓zzmu, ↓zzmv, ↓zzmw, ↓zzmx, ↓zzmy, ↓zzmz, ↓zzna, ↓zznb, ↓zznc, ↓zznd, ↓zzne, ↓zznf, ↓zzng, ↓zznh, ↓zzni, ↓zznj, ↓zznk, ↓zznl, hx2, rt_set, rt_sum, rt_less, rt_tell, rt_go, rt_nil, rt_stop, Row.nob, Row.fz, Row.ow, Row.nfz]
        all_goals exact q'
      simp only [↓zzaa, ↓zzab, ↓zzac, ↓zzad, ↓zzae, ↓zzaf, ↓zzag, ↓zzah, ↓zzai, ↓zzaj, ↓zzak, ↓zzal, ↓zzam, ↓zzan, ↓zzao, ↓zzap, ↓zzaq, ↓zzar, ↓zzas, ↓zzat, ↓zzau, ↓zzav, ↓zzaw, ↓zzax, ↓zzay, ↓zzaz, ↓zzba, ↓zzbb, ↓zzbc, ↓zzbd, ↓zzbe, ↓zzbf, ↓zzbg, ↓zzbh, ↓zzbi, ↓zzbj, ↓zzbk, ↓zzbl, ↓zzbm, ↓zzbn, ↓zzbo, ↓zzbp, ↓zzbq, ↓zzbr, ↓zzbs, ↓zzbt, ↓zzbu, ↓zzbv, ↓zzbw, ↓zzbx, ↓zzby, ↓zzbz, ↓zzca, ↓zzcb, ↓zzcc, ↓zzcd, ↓zzce, ↓zzcf, ↓zzcg, ↓zzch, ↓zzci, ↓zzcj, ↓zzck, ↓zzcl, ↓zzcm, ↓zzcn, ↓zzco, ↓zzcp, ↓zzcq, ↓zzcr, ↓zzcs, ↓zzct, ↓zzcu, ↓zzcv, ↓zzcw, ↓zzcx, ↓zzcy, ↓zzcz, ↓zzda, ↓zzdb, ↓zzdc, ↓zzdd, zzde, ↓zzdf, ↓zzdg, ↓zzdh, ↓zzdi, ↓zzdj, ↓zzdk, ↓zzdl, ↓zzdm, ↓zzdn, ↓zzdo, ↓zzdp, ↓zzdq, zzdr, zzds, zzdt, zzdu, zzdv, zzdw, zzdx, zzdy, zzdz, zzea, zzeb, oEq, oNe, eqT, oAdd, oNeg, oAbs, oMax2, oMin2, oInt, oLen, oIsN, oNotN, oIn, oNin, inT, eqF, oIsi, oIsi2, oList, oTuple, seqT, zp, enm, two, three, ioFind, ioCount, brOk, Bop.still, Bop.isI, T.ow, T.owl, T.nob, T.nobl, T.nfz, T.nfzl, T.fz, T.fzl, Bop.fit, Bop.res, Bop.bo, zzec, zzed, zzee, zzef, zzeg, zzeh, zzei, zzej, zzef, zzeg, zzeh, zzei, zzek, zzel, List.all_cons, List.all_nil, List.any_cons, List.any_nil, zzem, zzen, zzeo, zzep, zzeq, zzer, zzes, zzet, Bool.not_false, Bool.not_true, Bool.or_false, Bool.false_or, Bool.and_true, Bool.true_and, Bool.or_true, Bool.true_or, Bool.and_false, Bool.false_and, Bool.not_not, Bool.not_eq_true', decide_eq_false_iff_not, Bool.and_eq_true, Bool.or_eq_true, true_or, or_true, false_or, or_false, true_and, and_true, false_and, and_false, Bool.false_eq_true, false_imp_iff, if_true, if_false, forall_const, implies_true, Option.some.injEq, Option.isSome_some, forall_eq', reduceCtorEq, List.cons_append, List.nil_append, List.length_cons, List.length_nil, List.length_map, List.length_append, List.length_range, zzeu, zzev, zzew, List.replicate, List.flatten_cons, List.flatten_nil, List.append_nil, Nat.reduceAdd, Nat.reduceSub, Nat.reduceLT, Nat.reduceLeDiff, List.set_cons_zero, List.set_cons_succ, decide_eq_true_eq, decide_true, decide_false, Int.reduceLT, Int.reduceLE, Int.reduceMul, Int.reducePow, Int.reduceToNat, Int.reduceAdd, Int.reduceSub, Int.reduceNeg, Int.reduceEq, Nat.reducePow, zzex, zzey, zzez, Nat.zero_add, big, zzfa, zzfb, String.reduceEq, wipeE, zzfc, zzfd, zzah, zzai, Option.getD_some, ↓zzfe, ↓zzff, ↓zzfg, ↓zzfh, ↓zzfi, ↓zzfj, ↓zzfk, ↓zzfl, ↓zzfm, ↓zzfn, ↓zzfo, ↓zzfp, ↓zzfq, ↓zzfr, ↓zzfs, ↓zzft, ↓zzfu, ↓zzfv, ↓zzfw, ↓zzfx, ↓zzfy, ↓zzfz, ↓zzga, ↓zzgb, ↓zzgc, ↓zzgd, ↓zzge, ↓zzgf, ↓zzgg, ↓zzgh, ↓zzgi, ↓zzgj, ↓zzgk, ↓zzgl, ↓zzgm, ↓zzgn, ↓zzgo, ↓zzgp, ↓zzgq, ↓zzgr, ↓zzgs, ↓zzgt, ↓zzgu, ↓zzgv, ↓zzgw, ↓zzgx, ↓zzgy, ↓zzgz, ↓zzha, ↓zzhb, ↓zzhc, ↓zzhd, ↓zzhe, ↓zzhf, ↓zzhg, ↓zzhh, ↓zzhi, ↓zzhj, ↓zzhk, ↓zzhl, ↓zzhm, ↓zzhn, ↓zzho, ↓zzhp, ↓zzhq, ↓zzhr, ↓zzhs, ↓zzht, ↓zzhl, zzhu, zzhv, zzhw, zzhx, zzhy, zzhz, zzia, zzib, zzic, zzid, zzie, zzif, zzig, zzih, zzii, zzij, zzik, zzil, zzim, zzin, zzio, zzip, zziq, zzir, zzis, zzit, zziu, zziv, zziw, zzix, zziy, zziz, zzja, zzjb, zzjc, zzjd, zzje, zzjf, zzjg, zzjh, zzji, zzjj, zzjk, zzjl, zzjm, zzjn, zzjo, zzjp, zzjq, zzjr, zzjs, zzjt, zzju, zzjv, zzjw, zzjx, zzjy, zzjz, zzka, zzkb, zzkc, zzkd, zzke, zzkf, zzkg, zzkh, zzki, zzkj, zzkk, zzkl, zzkm, zzkn, zzko, zzkp, zzkq, zzkr, zzks, zzkt, zzku, zzkv, zzkw, zzkx, zzky, zzkz, zzla, zzlb, zzlc, zzld, zzle, zzlf, zzlg, zzlh, zzli, zzlj, zzlk, zzll, zzlm, zzln, zzlo, ↓zzlp, ↓zzlq, ↓zzlr, ↓zzls, ↓zzlt, ↓zzlu, ↓zzlv, ↓zzlw, ↓zzlx, ↓zzly, ↓zzlz, ↓zzma, zzmb, zzmc, ↓zzmd, ↓zzme, ↓zzmf, ↓zzmg, ↓zzmh, zzmi, zzmj, zzmk, zzml, zzmm, zzmn, zzmo, zzmp, zzmq, zzmr, zzms, Option.bind_some, Option.map_some, ↓zzmt, ↓zzmu, ↓zzmv, ↓zzmw, ↓zzmx, ↓zzmy, ↓zzmz, ↓zzna, ↓zznb, ↓zznc, ↓zznd, ↓zzne, ↓zznf, ↓zzng, ↓zznh, ↓zzni, ↓zznj, ↓zznk, ↓zznl]
      rw [jumps_range]
      obtain ⟨dd, hd1, hd2, hd3⟩ := dat_pd (rows_dat (rows := rows)) (by omega)
      refine for_inv (fun d r e => ∃ o x9 x11, e = [some (.lk (ns.map T.int)), some (.int k), some tp, some (.lst o (rows.map Row.t)), x4, x5, some (.lst true (rows.map Row.t)), some (.lst o ((greats rows).map T.int)), some (.lst o ((jumps rows).map T.int)), x9, x10, x11, none, none]) ⟨_, _, _, rfl⟩ ?_ ?_
      · rintro d n r _ _ ⟨o, x9, x11, rfl⟩
        cases o
        all_goals
          simp only [↓zzaa, ↓zzab, ↓zzac, ↓zzad, ↓zzae, ↓zzaf, ↓zzag, ↓zzah, ↓zzai, ↓zzaj, ↓zzak, ↓zzal, ↓zzam, ↓zzan, ↓zzao, ↓zzap, ↓zzaq, ↓zzar, ↓zzas, ↓zzat, ↓zzau, ↓zzav, ↓zzaw, ↓zzax, ↓zzay, ↓zzaz, ↓zzba, ↓zzbb, ↓zzbc, ↓zzbd, ↓zzbe, ↓zzbf, ↓zzbg, ↓zzbh, ↓zzbi, ↓zzbj, ↓zzbk, ↓zzbl, ↓zzbm, ↓zzbn, ↓zzbo, ↓zzbp, ↓zzbq, ↓zzbr, ↓zzbs, ↓zzbt, ↓zzbu, ↓zzbv, ↓zzbw, ↓zzbx, ↓zzby, ↓zzbz, ↓zzca, ↓zzcb, ↓zzcc, ↓zzcd, ↓zzce, ↓zzcf, ↓zzcg, ↓zzch, ↓zzci, ↓zzcj, ↓zzck, ↓zzcl, ↓zzcm, ↓zzcn, ↓zzco, ↓zzcp, ↓zzcq, ↓zzcr, ↓zzcs, ↓zzct, ↓zzcu, ↓zzcv, ↓zzcw, ↓zzcx, ↓zzcy, ↓zzcz, ↓zzda, ↓zzdb, ↓zzdc, ↓zzdd, zzde, ↓zzdf, ↓zzdg, ↓zzdh, ↓zzdi, ↓zzdj, ↓zzdk, ↓zzdl, ↓zzdm, ↓zzdn, ↓zzdo, ↓zzdp, ↓zzdq, zzdr, zzds, zzdt, zzdu, zzdv, zzdw, zzdx, zzdy, zzdz, zzea, zzeb, oEq, oNe, eqT, oAdd, oNeg, oAbs, oMax2, oMin2, oInt, oLen, oIsN, oNotN, oIn, oNin, inT, eqF, oIsi, oIsi2, oList, oTuple, seqT, zp, enm, two, three, ioFind, ioCount, brOk, Bop.still, Bop.isI, T.ow, T.owl, T.nob, T.nobl, T.nfz, T.nfzl, T.fz, T.fzl, Bop.fit, Bop.res, Bop.bo, zzec, zzed, zzee, zzef, zzeg, zzeh, zzei, zzej, zzef, zzeg, zzeh, zzei, zzek, zzel, List.all_cons, List.all_nil, List.any_cons, List.any_nil, zzem, zzen, zzeo, zzep, zzeq, zzer, zzes, zzet, Bool.not_false, Bool.not_true, Bool.or_false, Bool.false_or, Bool.and_true, Bool.true_and, Bool.or_true, Bool.true_or, Bool.and_false, Bool.false_and, Bool.not_not, Bool.not_eq_true', decide_eq_false_iff_not, Bool.and_eq_true, Bool.or_eq_true, true_or, or_true, false_or, or_false, true_and, and_true, false_and, and_false, Bool.false_eq_true, false_imp_iff, if_true, if_false, forall_const, implies_true, Option.some.injEq, Option.isSome_some, forall_eq', reduceCtorEq, List.cons_append, List.nil_append, List.length_cons, List.length_nil, List.length_map, List.length_append, List.length_range, zzeu, zzev, zzew, List.replicate, List.flatten_cons, List.flatten_nil, List.append_nil, Nat.reduceAdd, Nat.reduceSub, Nat.reduceLT, Nat.reduceLeDiff, List.set_cons_zero, List.set_cons_succ, decide_eq_true_eq, decide_true, decide_false, Int.reduceLT, Int.reduceLE, Int.reduceMul, Int.reducePow, Int.reduceToNat, Int.reduceAdd, Int.reduceSub, Int.reduceNeg, Int.reduceEq, Nat.reducePow, zzex, zzey, zzez, Nat.zero_add, big, zzfa, zzfb, String.reduceEq, wipeE, zzfc, zzfd, zzah, zzai, Option.getD_some, ↓zzfe, ↓zzff, ↓zzfg, ↓zzfh, ↓zzfi, ↓zzfj, ↓zzfk, ↓zzfl, ↓zzfm, ↓zzfn, ↓zzfo, ↓zzfp, ↓zzfq, ↓zzfr, ↓zzfs, ↓zzft, ↓zzfu, ↓zzfv, ↓zzfw, ↓zzfx, ↓zzfy, ↓zzfz, ↓zzga, ↓zzgb, ↓zzgc, ↓zzgd, ↓zzge, ↓zzgf, ↓zzgg, ↓zzgh, ↓zzgi, ↓zzgj, ↓zzgk, ↓zzgl, ↓zzgm, ↓zzgn, ↓zzgo, ↓zzgp, ↓zzgq, ↓zzgr, ↓zzgs, ↓zzgt, ↓zzgu, ↓zzgv, ↓zzgw, ↓zzgx, ↓zzgy, ↓zzgz, ↓zzha, ↓zzhb, ↓zzhc, ↓zzhd, ↓zzhe, ↓zzhf, ↓zzhg, ↓zzhh, ↓zzhi, ↓zzhj, ↓zzhk, ↓zzhl, ↓zzhm, ↓zzhn, ↓zzho, ↓zzhp, ↓zzhq, ↓zzhr, ↓zzhs, ↓zzht, ↓zzhl, zzhu, zzhv, zzhw, zzhx, zzhy, zzhz, zzia, zzib, zzic, zzid, zzie, zzif, zzig, zzih, zzii, zzij, zzik, zzil, zzim, zzin, zzio, zzip, zziq, zzir, zzis, zzit, zziu, zziv, zziw, zzix, zziy, zziz, zzja, zzjb, zzjc, zzjd, zzje, zzjf, zzjg, zzjh, zzji, zzjj, zzjk, zzjl, zzjm, zzjn, zzjo, zzjp, zzjq, zzjr, zzjs, zzjt, zzju, zzjv, zzjw, zzjx, zzjy, zzjz, zzka, zzkb, zzkc, zzkd, zzke, zzkf, zzkg, zzkh, zzki, zzkj, zzkk, zzkl, zzkm, zzkn, zzko, zzkp, zzkq, zzkr, zzks, zzkt, zzku, zzkv, zzkw, zzkx, zzky, zzkz, zzla, zzlb, zzlc, zzld, zzle, zzlf, zzlg, zzlh, zzli, zzlj, zzlk, zzll, zzlm, zzln, zzlo, ↓zzlp, ↓zzlq, ↓zzlr, ↓zzls, ↓zzlt, ↓zzlu, ↓zzlv, ↓zzlw, ↓zzlx, ↓zzly, ↓zzlz, ↓zzma, zzmb, zzmc, ↓zzmd, ↓zzme, ↓zzmf, ↓zzmg, ↓zzmh, zzmi, zzmj, zzmk, zzml, zzmm, zzmn, zzmo, zzmp, zzmq, zzmr, zzms, Option.bind_some, Option.map_some, ↓zzmt, ↓zzmu, ↓zzmv, ↓zzmw, ↓zzmx, ↓zzmy, ↓zzmz, ↓zzna, ↓zznb, ↓zznc, ↓zznd, ↓zzne, ↓zznf, ↓zzng, ↓zznh, ↓zzni, ↓zznj, ↓zznk, ↓zznl, Row.ow, Row.nob, Row.nfz, Row.fz]
          refine greats_ok (by omega) ?_
          simp only [↓zzaa, ↓zzab, ↓zzac, ↓zzad, ↓zzae, ↓zzaf, ↓zzag, ↓zzah, ↓zzai, ↓zzaj, ↓zzak, ↓zzal, ↓zzam, ↓zzan, ↓zzao, ↓zzap, ↓zzaq, ↓zzar, ↓zzas, ↓zzat, ↓zzau, ↓zzav, ↓zzaw, ↓zzax, ↓zzay, ↓zzaz, ↓zzba, ↓zzbb, ↓zzbc, ↓zzbd, ↓zzbe, ↓zzbf, ↓zzbg, ↓zzbh, ↓zzbi, ↓zzbj, ↓zzbk, ↓zzbl, ↓zzbm, ↓zzbn, ↓zzbo, ↓zzbp, ↓zzbq, ↓zzbr, ↓zzbs, ↓zzbt, ↓zzbu, ↓zzbv, ↓zzbw, ↓zzbx, ↓zzby, ↓zzbz, ↓zzca, ↓zzcb, ↓zzcc, ↓zzcd, ↓zzce, ↓zzcf, ↓zzcg, ↓zzch, ↓zzci, ↓zzcj, ↓zzck, ↓zzcl, ↓zzcm, ↓zzcn, ↓zzco, ↓zzcp, ↓zzcq, ↓zzcr, ↓zzcs, ↓zzct, ↓zzcu, ↓zzcv, ↓zzcw, ↓zzcx, ↓zzcy, ↓zzcz, ↓zzda, ↓zzdb, ↓zzdc, ↓zzdd, zzde, ↓zzdf, ↓zzdg, ↓zzdh, ↓zzdi, ↓zzdj, ↓zzdk, ↓zzdl, ↓zzdm, ↓zzdn, ↓zzdo, ↓zzdp, ↓zzdq, zzdr, zzds, zzdt, zzdu, zzdv, zzdw, zzdx, zzdy, zzdz, zzea, zzeb, oEq, oNe, eqT, oAdd, oNeg, oAbs, oMax2, oMin2, oInt, oLen, oIsN, oNotN, oIn, oNin, inT, eqF, oIsi, oIsi2, oList, oTuple, seqT, zp, enm, two, three, ioFind, ioCount, brOk, Bop.still, Bop.isI, T.ow, T.owl, T.nob, T.nobl, T.nfz, T.nfzl, T.fz, T.fzl, Bop.fit, Bop.res, Bop.bo, zzec, zzed, zzee, zzef, zzeg, zzeh, zzei, zzej, zzef, zzeg, zzeh, zzei, zzek, zzel, List.all_cons, List.all_nil, List.any_cons, List.any_nil, zzem, zzen, zzeo, zzep, zzeq, zzer, zzes, zzet, Bool.not_false, Bool.not_true, Bool.or_false, Bool.false_or, Bool.and_true, Bool.true_and, Bool.or_true, Bool.true_or, Bool.and_false, Bool.false_and, Bool.not_not, Bool.not_eq_true', decide_eq_false_iff_not, Bool.and_eq_true, Bool.or_eq_true, true_or, or_true, false_or, or_false, true_and, and_true, false_and, and_false, Bool.false_eq_true, false_imp_iff, if_true, if_false, forall_const, implies_true, Option.some.injEq, Option.isSome_some, forall_eq', reduceCtorEq, List.cons_append, List.nil_append, List.length_cons, List.length_nil, List.length_map, List.length_append, List.length_range, zzeu, zzev, zzew, List.replicate, List.flatten_cons, List.flatten_nil, List.append_nil, Nat.reduceAdd, Nat.reduceSub, Nat.reduceLT, Nat.reduceLeDiff, List.set_cons_zero, List.set_cons_succ, decide_eq_true_eq, decide_true, decide_false, Int.reduceLT, Int.reduceLE, Int.reduceMul, Int.reducePow, Int.reduceToNat, Int.reduceAdd, Int.reduceSub, Int.reduceNeg, Int.reduceEq, Nat.reducePow, zzex, zzey, zzez, Nat.zero_add, big, zzfa, zzfb, String.reduceEq, wipeE, zzfc, zzfd, zzah, zzai, Option.getD_some, ↓zzfe, ↓zzff, ↓zzfg, ↓zzfh, ↓zzfi, ↓zzfj, ↓zzfk, ↓zzfl, ↓zzfm, ↓zzfn, ↓zzfo, ↓zzfp, ↓zzfq, ↓zzfr, ↓zzfs, ↓zzft, ↓zzfu, ↓zzfv, ↓zzfw, ↓zzfx, ↓zzfy, ↓zzfz, ↓zzga, ↓zzgb, ↓zzgc, ↓zzgd, ↓zzge, ↓zzgf, ↓zzgg, ↓zzgh, ↓zzgi, ↓zzgj, ↓zzgk, ↓zzgl, ↓zzgm, ↓zzgn, ↓zzgo, ↓zzgp, ↓zzgq, ↓zzgr, ↓zzgs, ↓zzgt, ↓zzgu, ↓zzgv, ↓zzgw, ↓zzgx, ↓zzgy, ↓zzgz, ↓zzha, ↓zzhb, ↓zzhc, ↓zzhd, ↓zzhe, ↓zzhf, ↓zzhg, ↓zzhh, ↓zzhi, ↓zzhj, ↓zzhk, ↓zzhl, ↓zzhm, ↓zzhn, ↓zzho, ↓zzhp, ↓zzhq, ↓zzhr, ↓zzhs, ↓zzht, ↓zzhl, zzhu, zzhv, zzhw, zzhx, zzhy, zzhz, zzia, zzib, zzic, zzid, zzie, zzif, zzig, zzih, zzii, zzij, zzik, zzil, zzim, zzin, zzio, zzip, zziq, zzir, zzis, zzit, zziu, zziv, zziw, zzix, zziy, zziz, zzja, zzjb, zzjc, zzjd, zzje, zzjf, zzjg, zzjh, zzji, zzjj, zzjk, zzjl, zzjm, zzjn, zzjo, zzjp, zzjq, zzjr, zzjs, zzjt, zzju, zzjv, zzjw, zzjx, zzjy, zzjz, zzka, zzkb, zzkc, zzkd, zzke, zzkf, zzkg, zzkh, zzki, zzkj, zzkk, zzkl, zzkm, zzkn, zzko, zzkp, zzkq, zzkr, zzks, zzkt, zzku, zzkv, zzkw, zzkx, zzky, zzkz, zzla, zzlb, zzlc, zzld, zzle, zzlf, zzlg, zzlh, zzli, zzlj, zzlk, zzll, zzlm, zzln, zzlo, ↓zzlp, ↓zzlq, ↓zzlr, ↓zzls, ↓zzlt, ↓zzlu, ↓zzlv, ↓zzlw, ↓zzlx, ↓zzly, ↓zzlz, ↓zzma, zzmb, zzmc, ↓zzmd, ↓zzme, ↓zzmf, ↓zzmg, ↓zzmh, zzmi, zzmj, zzmk, zzml, zzmm, zzmn, zzmo, zzmp, zzmq, zzmr, zzms, Option.bind_some, Option.map_some, ↓zzmt, ↓zzmu, ↓zzmv, ↓zzmw, ↓zzmx, ↓zzmy, ↓zzmz, ↓zzna, ↓zznb, ↓zznc, ↓zznd, ↓zzne, ↓zznf, ↓zzng, ↓zznh, ↓zzni, ↓zznj, ↓zznk, ↓zznl, Row.ow, Row.nob, Row.nfz, Row.fz]
          refine jumps_ok (by omega) ?_
          simp only [↓zzaa, ↓zzab, ↓zzac, ↓zzad, ↓zzae, ↓zzaf, ↓zzag, ↓zzah, ↓zzai, ↓zzaj, ↓zzak, ↓zzal, ↓zzam, ↓zzan, ↓zzao, ↓zzap, ↓zzaq, ↓zzar, ↓zzas, ↓zzat, ↓zzau, ↓zzav, ↓zzaw, ↓zzax, ↓zzay, ↓zzaz, ↓zzba, ↓zzbb, ↓zzbc, ↓zzbd, ↓zzbe, ↓zzbf, ↓zzbg, ↓zzbh, ↓zzbi, ↓zzbj, ↓zzbk, ↓zzbl, ↓zzbm, ↓zzbn, ↓zzbo, ↓zzbp, ↓zzbq, ↓zzbr, ↓zzbs, ↓zzbt, ↓zzbu, ↓zzbv, ↓zzbw, ↓zzbx, ↓zzby, ↓zzbz, ↓zzca, ↓zzcb, ↓zzcc, ↓zzcd, ↓zzce, ↓zzcf, ↓zzcg, ↓zzch, ↓zzci, ↓zzcj, ↓zzck, ↓zzcl, ↓zzcm, ↓zzcn, ↓zzco, ↓zzcp, ↓zzcq, ↓zzcr, ↓zzcs, ↓zzct, ↓zzcu, ↓zzcv, ↓zzcw, ↓zzcx, ↓zzcy, ↓zzcz, ↓zzda, ↓zzdb, ↓zzdc, ↓zzdd, zzde, ↓zzdf, ↓zzdg, ↓zzdh, ↓zzdi, ↓zzdj, ↓zzdk, ↓zzdl, ↓zzdm, ↓zzdn, ↓zzdo, ↓zzdp, ↓zzdq, zzdr, zzds, zzdt, zzdu, zzdv, zzdw, zzdx, zzdy, zzdz, zzea, zzeb, oEq, oNe, eqT, oAdd, oNeg, oAbs, oMax2, oMin2, oInt, oLen, oIsN, oNotN, oIn, oNin, inT, eqF, oIsi, oIsi2, oList, oTuple, seqT, zp, enm, two, three, ioFind, ioCount, brOk, Bop.still, Bop.isI, T.ow, T.owl, T.nob, T.nobl, T.nfz, T.nfzl, T.fz, T.fzl, Bop.fit, Bop.res, Bop.bo, zzec, zzed, zzee, zzef, zzeg, zzeh, zzei, zzej, zzef, zzeg, zzeh, zzei, zzek, zzel, List.all_cons, List.all_nil, List.any_cons, List.any_nil, zzem, zzen, zzeo, zzep, zzeq, zzer, zzes, zzet, Bool.not_false, Bool.not_true, Bool.or_false, Bool.false_or, Bool.and_true, Bool.true_and, Bool.or_true, Bool.true_or, Bool.and_false, Bool.false_and, Bool.not_not, Bool.not_eq_true', decide_eq_false_iff_not, Bool.and_eq_true, Bool.or_eq_true, true_or, or_true, false_or, or_false, true_and, and_true, false_and, and_false, Bool.false_eq_true, false_imp_iff, if_true, if_false, forall_const, implies_true, Option.some.injEq, Option.isSome_some, forall_eq', reduceCtorEq, List.cons_append, List.nil_append, List.length_cons, List.length_nil, List.length_map, List.length_append, List.length_range, zzeu, zzev, zzew, List.replicate, List.flatten_cons, List.flatten_nil, List.append_nil, Nat.reduceAdd, Nat.reduceSub, Nat.reduceLT, Nat.reduceLeDiff, List.set_cons_zero, List.set_cons_succ, decide_eq_true_eq, decide_true, decide_false, Int.reduceLT, Int.reduceLE, Int.reduceMul, Int.reducePow, Int.reduceToNat, Int.reduceAdd, Int.reduceSub, Int.reduceNeg, Int.reduceEq, Nat.reducePow, zzex, zzey, zzez, Nat.zero_add, big, zzfa, zzfb, String.reduceEq, wipeE, zzfc, zzfd, zzah, zzai, Option.getD_some, ↓zzfe, ↓zzff, ↓zzfg, ↓zzfh, ↓zzfi, ↓zzfj, ↓zzfk, ↓zzfl, ↓zzfm, ↓zzfn, ↓zzfo, ↓zzfp, ↓zzfq, ↓zzfr, ↓zzfs, ↓zzft, ↓zzfu, ↓zzfv, ↓zzfw, ↓zzfx, ↓zzfy, ↓zzfz, ↓zzga, ↓zzgb, ↓zzgc, ↓zzgd, ↓zzge, ↓zzgf, ↓zzgg, ↓zzgh, ↓zzgi, ↓zzgj, ↓zzgk, ↓zzgl, ↓zzgm, ↓zzgn, ↓zzgo, ↓zzgp, ↓zzgq, ↓zzgr, ↓zzgs, ↓zzgt, ↓zzgu, ↓zzgv, ↓zzgw, ↓zzgx, ↓zzgy, ↓zzgz, ↓zzha, ↓zzhb, ↓zzhc, ↓zzhd, ↓zzhe, ↓zzhf, ↓zzhg, ↓zzhh, ↓zzhi, ↓zzhj, ↓zzhk, ↓zzhl, ↓zzhm, ↓zzhn, ↓zzho, ↓zzhp, ↓zzhq, ↓zzhr, ↓zzhs, ↓zzht, ↓zzhl, zzhu, zzhv, zzhw, zzhx, zzhy, zzhz, zzia, zzib, zzic, zzid, zzie, zzif, zzig, zzih, zzii, zzij, zzik, zzil, zzim, zzin, zzio, zzip, zziq, zzir, zzis, zzit, zziu, zziv, zziw, zzix, zziy, zziz, zzja, zzjb, zzjc, zzjd, zzje, zzjf, zzjg, zzjh, zzji, zzjj, zzjk, zzjl, zzjm, zzjn, zzjo, zzjp, zzjq, zzjr, zzjs, zzjt, zzju, zzjv, zzjw, zzjx, zzjy, zzjz, zzka, zzkb, zzkc, zzkd, zzke, zzkf, zzkg, zzkh, zzki, zzkj, zzkk, zzkl, zzkm, zzkn, zzko, zzkp, zzkq, zzkr, zzks, zzkt, zzku, zzkv, zzkw, zzkx, zzky, zzkz, zzla, zzlb, zzlc, zzld, zzle, zzlf, zzlg, zzlh, zzli, zzlj, zzlk, zzll, zzlm, zzln, zzlo, ↓zzlp, ↓zzlq, ↓zzlr, ↓zzls, ↓zzlt, ↓zzlu, ↓zzlv, ↓zzlw, ↓zzlx, ↓zzly, ↓zzlz, ↓zzma, zzmb, zzmc, ↓zzmd, ↓zzme, ↓zzmf, ↓zzmg, ↓zzmh, zzmi, zzmj, zzmk, zzml, zzmm, zzmn, zzmo, zzmp, zzmq, zzmr, zzms, Option.bind_some, Option.map_some, ↓zzmt, ↓zzmu, ↓zzmv, ↓zzmw, ↓zzmx, ↓zzmy, ↓zzmz, ↓zzna, ↓zznb, ↓zznc, ↓zznd, ↓zzne, ↓zznf, ↓zzng, ↓zznh, ↓zzni, ↓zznj, ↓zznk, ↓zznl, Row.ow, Row.nob, Row.nfz, Row.fz]
          refine same12 (pl_lst (by simp [big]) (al_cons (pl_ints (by have := greats_len (rows := rows); simp [big]; omega)).2 (al_cons (pl_ints (by have := jumps_len (rows := rows); simp [big]; omega)).2 al_nil))) ?_
          simp only [↓zzaa, ↓zzab, ↓zzac, ↓zzad, ↓zzae, ↓zzaf, ↓zzag, ↓zzah, ↓zzai, ↓zzaj, ↓zzak, ↓zzal, ↓zzam, ↓zzan, ↓zzao, ↓zzap, ↓zzaq, ↓zzar, ↓zzas, ↓zzat, ↓zzau, ↓zzav, ↓zzaw, ↓zzax, ↓zzay, ↓zzaz, ↓zzba, ↓zzbb, ↓zzbc, ↓zzbd, ↓zzbe, ↓zzbf, ↓zzbg, ↓zzbh, ↓zzbi, ↓zzbj, ↓zzbk, ↓zzbl, ↓zzbm, ↓zzbn, ↓zzbo, ↓zzbp, ↓zzbq, ↓zzbr, ↓zzbs, ↓zzbt, ↓zzbu, ↓zzbv, ↓zzbw, ↓zzbx, ↓zzby, ↓zzbz, ↓zzca, ↓zzcb, ↓zzcc, ↓zzcd, ↓zzce, ↓zzcf, ↓zzcg, ↓zzch, ↓zzci, ↓zzcj, ↓zzck, ↓zzcl, ↓zzcm, ↓zzcn, ↓zzco, ↓zzcp, ↓zzcq, ↓zzcr, ↓zzcs, ↓zzct, ↓zzcu, ↓zzcv, ↓zzcw, ↓zzcx, ↓zzcy, ↓zzcz, ↓zzda, ↓zzdb, ↓zzdc, ↓zzdd, zzde, ↓zzdf, ↓zzdg, ↓zzdh, ↓zzdi, ↓zzdj, ↓zzdk, ↓zzdl, ↓zzdm, ↓zzdn, ↓zzdo, ↓zzdp, ↓zzdq, zzdr, zzds, zzdt, zzdu, zzdv, zzdw, zzdx, zzdy, zzdz, zzea, zzeb, oEq, oNe, eqT, oAdd, oNeg, oAbs, oMax2, oMin2, oInt, oLen, oIsN, oNotN, oIn, oNin, inT, eqF, oIsi, oIsi2, oList, oTuple, seqT, zp, enm, two, three, ioFind, ioCount, brOk, Bop.still, Bop.isI, T.ow, T.owl, T.nob, T.nobl, T.nfz, T.nfzl, T.fz, T.fzl, Bop.fit, Bop.res, Bop.bo, zzec, zzed, zzee, zzef, zzeg, zzeh, zzei, zzej, zzef, zzeg, zzeh, zzei, zzek, zzel, List.all_cons, List.all_nil, List.any_cons, List.any_nil, zzem, zzen, zzeo, zzep, zzeq, zzer, zzes, zzet, Bool.not_false, Bool.not_true, Bool.or_false, Bool.false_or, Bool.and_true, Bool.true_and, Bool.or_true, Bool.true_or, Bool.and_false, Bool.false_and, Bool.not_not, Bool.not_eq_true', decide_eq_false_iff_not, Bool.and_eq_true, Bool.or_eq_true, true_or, or_true, false_or, or_false, true_and, and_true, false_and, and_false, Bool.false_eq_true, false_imp_iff, if_true, if_false, forall_const, implies_true, Option.some.injEq, Option.isSome_some, forall_eq', reduceCtorEq, List.cons_append, List.nil_append, List.length_cons, List.length_nil, List.length_map, List.length_append, List.length_range, zzeu, zzev, zzew, List.replicate, List.flatten_cons, List.flatten_nil, List.append_nil, Nat.reduceAdd, Nat.reduceSub, Nat.reduceLT, Nat.reduceLeDiff, List.set_cons_zero, List.set_cons_succ, decide_eq_true_eq, decide_true, decide_false, Int.reduceLT, Int.reduceLE, Int.reduceMul, Int.reducePow, Int.reduceToNat, Int.reduceAdd, Int.reduceSub, Int.reduceNeg, Int.reduceEq, Nat.reducePow, zzex, zzey, zzez, Nat.zero_add, big, zzfa, zzfb, String.reduceEq, wipeE, zzfc, zzfd, zzah, zzai, Option.getD_some, ↓zzfe, ↓zzff, ↓zzfg, ↓zzfh, ↓zzfi, ↓zzfj, ↓zzfk, ↓zzfl, ↓zzfm, ↓zzfn, ↓zzfo, ↓zzfp, ↓zzfq, ↓zzfr, ↓zzfs, ↓zzft, ↓zzfu, ↓zzfv, ↓zzfw, ↓zzfx, ↓zzfy, ↓zzfz, ↓zzga, ↓zzgb, ↓zzgc, ↓zzgd, ↓zzge, ↓zzgf, ↓zzgg, ↓zzgh, ↓zzgi, ↓zzgj, ↓zzgk, ↓zzgl, ↓zzgm, ↓zzgn, ↓zzgo, ↓zzgp, ↓zzgq, ↓zzgr, ↓zzgs, ↓zzgt, ↓zzgu, ↓zzgv, ↓zzgw, ↓zzgx, ↓zzgy, ↓zzgz, ↓zzha, ↓zzhb, ↓zzhc, ↓zzhd, ↓zzhe, ↓zzhf, ↓zzhg, ↓zzhh, ↓zzhi, ↓zzhj, ↓zzhk, ↓zzhl, ↓zzhm, ↓zzhn, ↓zzho, ↓zzhp, ↓zzhq, ↓zzhr, ↓zzhs, ↓zzht, ↓zzhl, zzhu, zzhv, zzhw, zzhx, zzhy, zzhz, zzia, zzib, zzic, zzid, zzie, zzif, zzig, zzih, zzii, zzij, zzik, zzil, zzim, zzin, zzio, zzip, zziq, zzir, zzis, zzit, zziu, zziv, zziw, zzix, zziy, zziz, zzja, zzjb, zzjc, zzjd, zzje, zzjf, zzjg, zzjh, zzji, zzjj, zzjk, zzjl, zzjm, zzjn, zzjo, zzjp, zzjq, zzjr, zzjs, zzjt, zzju, zzjv, zzjw, zzjx, zzjy, zzjz, zzka, zzkb, zzkc, zzkd, zzke, zzkf, zzkg, zzkh, zzki, zzkj, zzkk, zzkl, zzkm, zzkn, zzko, zzkp, zzkq, zzkr, zzks, zzkt, zzku, zzkv, zzkw, zzkx, zzky, zzkz, zzla, zzlb, zzlc, zzld, zzle, zzlf, zzlg, zzlh, zzli, zzlj, zzlk, zzll, zzlm, zzln, zzlo, ↓zzlp, ↓zzlq, ↓zzlr, ↓zzls, ↓zzlt, ↓zzlu, ↓zzlv, ↓zzlw, ↓zzlx, ↓zzly, ↓zzlz, ↓zzma, zzmb, zzmc, ↓zzmd, ↓zzme, ↓zzmf, ↓zzmg, ↓zzmh, zzmi, zzmj, zzmk, zzml, zzmm, zzmn, zzmo, zzmp, zzmq, zzmr, zzms, Option.bind_some, Option.map_some, ↓zzmt, ↓zzmu, ↓zzmv, ↓zzmw, ↓zzmx, ↓zzmy, ↓zzmz, ↓zzna, ↓zznb, ↓zznc, ↓zznd, ↓zzne, ↓zznf, ↓zzng, ↓zznh, ↓zzni, ↓zznj, ↓zznk, ↓zznl, hd1, hd2, hd3, Row.ow, Row.nob, Row.nfz, Row.fz]
          exact ⟨by have := greats_len (rows := rows); omega, by have := jumps_len (rows := rows); simp; omega, _, _, _, rfl⟩
      · rintro _ ⟨o, x9, x11, rfl⟩
        cases o
        all_goals
          simp only [↓zzaa, ↓zzab, ↓zzac, ↓zzad, ↓zzae, ↓zzaf, ↓zzag, ↓zzah, ↓zzai, ↓zzaj, ↓zzak, ↓zzal, ↓zzam, ↓zzan, ↓zzao, ↓zzap, ↓zzaq, ↓zzar, ↓zzas, ↓zzat, ↓zzau, ↓zzav, ↓zzaw, ↓zzax, ↓zzay, ↓zzaz, ↓zzba, ↓zzbb, ↓zzbc, ↓zzbd, ↓zzbe, ↓zzbf, ↓zzbg, ↓zzbh, ↓zzbi, ↓zzbj, ↓zzbk, ↓zzbl, ↓zzbm, ↓zzbn, ↓zzbo, ↓zzbp, ↓zzbq, ↓zzbr, ↓zzbs, ↓zzbt, ↓zzbu, ↓zzbv, ↓zzbw, ↓zzbx, ↓zzby, ↓zzbz, ↓zzca, ↓zzcb, ↓zzcc, ↓zzcd, ↓zzce, ↓zzcf, ↓zzcg, ↓zzch, ↓zzci, ↓zzcj, ↓zzck, ↓zzcl, ↓zzcm, ↓zzcn, ↓zzco, ↓zzcp, ↓zzcq, ↓zzcr, ↓zzcs, ↓zzct, ↓zzcu, ↓zzcv, ↓zzcw, ↓zzcx, ↓zzcy, ↓zzcz, ↓zzda, ↓zzdb, ↓zzdc, ↓zzdd, zzde, ↓zzdf, ↓zzdg, ↓zzdh, ↓zzdi, ↓zzdj, ↓zzdk, ↓zzdl, ↓zzdm, ↓zzdn, ↓zzdo, ↓zzdp, ↓zzdq, zzdr, zzds, zzdt, zzdu, zzdv, zzdw, zzdx, zzdy, zzdz, zzea, zzeb, oEq, oNe, eqT, oAdd, oNeg, oAbs, oMax2, oMin2, oInt, oLen, oIsN, oNotN, oIn, oNin, inT, eqF, oIsi, oIsi2, oList, oTuple, seqT, zp, enm, two, three, ioFind, ioCount, brOk, Bop.still, Bop.isI, T.ow, T.owl, T.nob, T.nobl, T.nfz, T.nfzl, T.fz, T.fzl, Bop.fit, Bop.res, Bop.bo, zzec, zzed, zzee, zzef, zzeg, zzeh, zzei, zzej, zzef, zzeg, zzeh, zzei, zzek, zzel, List.all_cons, List.all_nil, List.any_cons, List.any_nil, zzem, zzen, zzeo, zzep, zzeq, zzer, zzes, zzet, Bool.not_false, Bool.not_true, Bool.or_false, Bool.false_or, Bool.and_true, Bool.true_and, Bool.or_true, Bool.true_or, Bool.and_false, Bool.false_and, Bool.not_not, Bool.not_eq_true', decide_eq_false_iff_not, Bool.and_eq_true, Bool.or_eq_true, true_or, or_true, false_or, or_false, true_and, and_true, false_and, and_false, Bool.false_eq_true, false_imp_iff, if_true, if_false, forall_const, implies_true, Option.some.injEq, Option.isSome_some, forall_eq', reduceCtorEq, List.cons_append, List.nil_append, List.length_cons, List.length_nil, List.length_map, List.length_append, List.length_range, zzeu, zzev, zzew, List.replicate, List.flatten_cons, List.flatten_nil, List.append_nil, Nat.reduceAdd, Nat.reduceSub, Nat.reduceLT, Nat.reduceLeDiff, List.set_cons_zero, List.set_cons_succ, decide_eq_true_eq, decide_true, decide_false, Int.reduceLT, Int.reduceLE, Int.reduceMul, Int.reducePow, Int.reduceToNat, Int.reduceAdd, Int.reduceSub, Int.reduceNeg, Int.reduceEq, Nat.reducePow, zzex, zzey, zzez, Nat.zero_add, big, zzfa, zzfb, String.reduceEq, wipeE, zzfc, zzfd, zzah, zzai, Option.getD_some, ↓zzfe, ↓zzff, ↓zzfg, ↓zzfh, ↓zzfi, ↓zzfj, ↓zzfk, ↓zzfl, ↓zzfm, ↓zzfn, ↓zzfo, ↓zzfp, ↓zzfq, ↓zzfr, ↓zzfs, ↓zzft, ↓zzfu, ↓zzfv, ↓zzfw, ↓zzfx, ↓zzfy, ↓zzfz, ↓zzga, ↓zzgb, ↓zzgc, ↓zzgd, ↓zzge, ↓zzgf, ↓zzgg, ↓zzgh, ↓zzgi, ↓zzgj, ↓zzgk, ↓zzgl, ↓zzgm, ↓zzgn, ↓zzgo, ↓zzgp, ↓zzgq, ↓zzgr, ↓zzgs, ↓zzgt, ↓zzgu, ↓zzgv, ↓zzgw, ↓zzgx, ↓zzgy, ↓zzgz, ↓zzha, ↓zzhb, ↓zzhc, ↓zzhd, ↓zzhe, ↓zzhf, ↓zzhg, ↓zzhh, ↓zzhi, ↓zzhj, ↓zzhk, ↓zzhl, ↓zzhm, ↓zzhn, ↓zzho, ↓zzhp, ↓zzhq, ↓zzhr, ↓zzhs, ↓zzht, ↓zzhl, zzhu, zzhv, zzhw, zzhx, zzhy, zzhz, zzia, zzib, zzic, zzid, zzie, zzif, zzig, zzih, zzii, zzij, zzik, zzil, zzim, zzin, zzio, zzip, zziq, zzir, zzis, zzit, zziu, zziv, zziw, zzix, zziy, zziz, zzja, zzjb, zzjc, zzjd, zzje, zzjf, zzjg, zzjh, zzji, zzjj, zzjk, zzjl, zzjm, zzjn, zzjo, zzjp, zzjq, zzjr, zzjs, zzjt, zzju, zzjv, zzjw, zzjx, zzjy, zzjz, zzka, zzkb, zzkc, zzkd, zzke, zzkf, zzkg, zzkh, zzki, zzkj, zzkk, zzkl, zzkm, zzkn, zzko, zzkp, zzkq, zzkr, zzks, zzkt, zzku, zzkv, zzkw, zzkx, zzky, zzkz, zzla, zzlb, zzlc, zzld, zzle, zzlf, zzlg, zzlh, zzli, zzlj, zzlk, zzll, zzlm, zzln, zzlo, ↓zzlp, ↓zzlq, ↓zzlr, ↓zzls, ↓zzlt, ↓zzlu, ↓zzlv, ↓zzlw, ↓zzlx, ↓zzly, ↓zzlz, ↓zzma, zzmb, zzmc, ↓zzmd, ↓zzme, ↓zzmf, ↓zzmg, ↓zzmh, zzmi, zzmj, zzmk, zzml, zzmm, zzmn, zzmo, zzmp, zzmq, zzmr, zzms, Option.bind_some, Option.map_some, ↓zzmt, ↓zzmu, ↓zzmv, ↓zzmw, ↓zzmx, ↓zzmy, ↓zzmz, ↓zzna, ↓zznb, ↓zznc, ↓zznd, ↓zzne, ↓zznf, ↓zzng, ↓zznh, ↓zzni, ↓zznj, ↓zznk, ↓zznl, Row.ow, Row.nob, Row.nfz, Row.fz]
          refine ⟨by omega, lc_map (h := fun r : Row => T.bl r.falls) (fun x hx Q' q' => ?_) ?_⟩
          · cases x <;> simp only [rt_set, rt_sum, rt_less, rt_tell, rt_go, rt_nil, rt_stop] at q' ⊢ <;> simp only [↓zzaa, ↓zzab, ↓zzac, ↓zzad, ↓zzae, ↓zzaf, ↓zzag, ↓zzah, ↓zzai, ↓zzaj, ↓zzak, ↓zzal, ↓zzam, ↓zzan, ↓zzao, ↓zzap, ↓zzaq, ↓zzar, ↓zzas, ↓zzat, ↓zzau, ↓zzav, ↓zzaw, ↓zzax, ↓zzay, ↓zzaz, ↓zzba, ↓zzbb, ↓zzbc, ↓zzbd, ↓zzbe, ↓zzbf, ↓zzbg, ↓zzbh, ↓zzbi, ↓zzbj, ↓zzbk, ↓zzbl, ↓zzbm, ↓zzbn, ↓zzbo, ↓zzbp, ↓zzbq, ↓zzbr, ↓zzbs, ↓zzbt, ↓zzbu, ↓zzbv, ↓zzbw, ↓zzbx, ↓zzby, ↓zzbz, ↓zzca, ↓zzcb, ↓zzcc, ↓zzcd, ↓zzce, ↓zzcf, ↓zzcg, ↓zzch, ↓zzci, ↓zzcj, ↓zzck, ↓zzcl, ↓zzcm, ↓zzcn, ↓zzco, ↓zzcp, ↓zzcq, ↓zzcr, ↓zzcs, ↓zzct, ↓zzcu, ↓zzcv, ↓zzcw, ↓zzcx, ↓zzcy, ↓zzcz, ↓zzda, ↓zzdb, ↓zzdc, ↓zzdd, zzde, ↓zzdf, ↓zzdg, ↓zzdh, ↓zzdi, ↓zzdj, ↓zzdk, ↓zzdl, ↓zzdm, ↓zzdn, ↓zzdo, ↓zzdp, ↓zzdq, zzdr, zzds, zzdt, zzdu, zzdv, zzdw, zzdx, zzdy, zzdz, zzea, zzeb, oEq, oNe, eqT, oAdd, oNeg, oAbs, oMax2, oMin2, oInt, oLen, oIsN, oNotN, oIn, oNin, inT, eqF, oIsi, oIsi2, oList, oTuple, seqT, zp, enm, two, three, ioFind, ioCount, brOk, Bop.still, Bop.isI, T.ow, T.owl, T.nob, T.nobl, T.nfz, T.nfzl, T.fz, T.fzl, Bop.fit, Bop.res, Bop.bo, zzec, zzed, zzee, zzef, zzeg, zzeh, zzei, zzej, zzef, zzeg, zzeh, zzei, zzek, zzel, List.all_cons, List.all_nil, List.any_cons, List.any_nil, zzem, zzen, zzeo, zzep, zzeq, zzer, zzes, zzet, Bool.not_false, Bool.not_true, Bool.or_false, Bool.false_or, Bool.and_true, Bool.true_and, Bool.or_true, Bool.true_or, Bool.and_false, Bool.false_and, Bool.not_not, Bool.not_eq_true', decide_eq_false_iff_not, Bool.and_eq_true, Bool.or_eq_true, true_or, or_true, false_or, or_false, true_and, and_true, false_and, and_false, Bool.false_eq_true, false_imp_iff, if_true, if_false, forall_const, implies_true, Option.some.injEq, Option.isSome_some, forall_eq', reduceCtorEq, List.cons_append, List.nil_append, List.length_cons, List.length_nil, List.length_map, List.length_append, List.length_range, zzeu, zzev, zzew, List.replicate, List.flatten_cons, List.flatten_nil, List.append_nil, Nat.reduceAdd, Nat.reduceSub, Nat.reduceLT, Nat.reduceLeDiff, List.set_cons_zero, List.set_cons_succ, decide_eq_true_eq, decide_true, decide_false, Int.reduceLT, Int.reduceLE, Int.reduceMul, Int.reducePow, Int.reduceToNat, Int.reduceAdd, Int.reduceSub, Int.reduceNeg, Int.reduceEq, Nat.reducePow, zzex, zzey, zzez, Nat.zero_add, big, zzfa, zzfb, String.reduceEq, wipeE, zzfc, zzfd, zzah, zzai, Option.getD_some, ↓zzfe, ↓zzff, ↓zzfg, ↓zzfh, ↓zzfi, ↓zzfj, ↓zzfk, ↓zzfl, ↓zzfm, ↓zzfn, ↓zzfo, ↓zzfp, ↓zzfq, ↓zzfr, ↓zzfs, ↓zzft, ↓zzfu, ↓zzfv, ↓zzfw, ↓zzfx, ↓zzfy, ↓zzfz, ↓zzga, ↓zzgb, ↓zzgc, ↓zzgd, ↓zzge, ↓zzgf, ↓zzgg, ↓zzgh, ↓zzgi, ↓zzgj, ↓zzgk, ↓zzgl, ↓zzgm, ↓zzgn, ↓zzgo, ↓zzgp, ↓zzgq, ↓zzgr, ↓zzgs, ↓zzgt, ↓zzgu, ↓zzgv, ↓zzgw, ↓zzgx, ↓zzgy, ↓zzgz, ↓zzha, ↓zzhb, ↓zzhc, ↓zzhd, ↓zzhe, ↓zzhf, ↓zzhg, ↓zzhh, ↓zzhi, ↓zzhj, ↓zzhk, ↓zzhl, ↓zzhm, ↓zzhn, ↓zzho, ↓zzhp, ↓zzhq, ↓zzhr, ↓zzhs, ↓zzht, ↓zzhl, zzhu, zzhv, zzhw, zzhx, zzhy, zzhz, zzia, zzib, zzic, zzid, zzie, zzif, zzig, zzih, zzii, zzij, zzik, zzil, zzim, zzin, zzio, zzip, zziq, zzir, zzis, zzit, zziu, zziv, zziw, zzix, zziy, zziz, zzja, zzjb, zzjc, zzjd, zzje, zzjf, zzjg, zzjh, zzji, zzjj, zzjk, zzjl, zzjm, zzjn, zzjo, zzjp, zzjq, zzjr, zzjs, zzjt, zzju, zzjv, zzjw, zzjx, zzjy, zzjz, zzka, zzkb, zzkc, zzkd, zzke, zzkf, zzkg, zzkh, zzki, zzkj, zzkk, zzkl, zzkm, zzkn, zzko, zzkp, zzkq, zzkr, zzks, zzkt, zzku, zzkv, zzkw, zzkx, zzky, zzkz, zzla, zzlb, zzlc, zzld, zzle, zzlf, zzlg, zzlh, zzli, zzlj, zzlk, zzll, zzlm, zzln, zzlo, ↓zzlp, ↓zzlq, ↓zzlr, ↓zzls, ↓zzlt, ↓zzlu, ↓zzlv, ↓zzlw, ↓zzlx, ↓zzly, ↓zzlz, ↓zzma, zzmb, zzmc, ↓zzmd, ↓zzme, ↓zzmf, ↓zzmg, ↓zzmh, zzmi, zzmj, zzmk, zzml, zzmm, zzmn, zzmo, zzmp, zzmq, zzmr, zzms, Option.bind_some, Option.map_some, ↓zzmt, ↓zzmu, ↓zzmv, ↓zzmw, ↓zzmx, ↓zzmy, ↓zzmz, ↓zzna, ↓zznb, ↓zznc, ↓zznd, ↓zzne, ↓zznf, ↓zzng, ↓zznh, ↓zzni, ↓zznj, ↓zznk, ↓zznl]
            all_goals exact q'
          simp only [↓zzaa, ↓zzab, ↓zzac, ↓zzad, ↓zzae, ↓zzaf, ↓zzag, ↓zzah, ↓zzai, ↓zzaj, ↓zzak, ↓zzal, ↓zzam, ↓zzan, ↓zzao, ↓zzap, ↓zzaq, ↓zzar, ↓zzas, ↓zzat, ↓zzau, ↓zzav, ↓zzaw, ↓zzax, ↓zzay, ↓zzaz, ↓zzba, ↓zzbb, ↓zzbc, ↓zzbd, ↓zzbe, ↓zzbf, ↓zzbg, ↓zzbh, ↓zzbi, ↓zzbj, ↓zzbk, ↓zzbl, ↓zzbm, ↓zzbn, ↓zzbo, ↓zzbp, ↓zzbq, ↓zzbr, ↓zzbs, ↓zzbt, ↓zzbu, ↓zzbv, ↓zzbw, ↓zzbx, ↓zzby, ↓zzbz, ↓zzca, ↓zzcb, ↓zzcc, ↓zzcd, ↓zzce, ↓zzcf, ↓zzcg, ↓zzch, ↓zzci, ↓zzcj, ↓zzck, ↓zzcl, ↓zzcm, ↓zzcn, ↓zzco, ↓zzcp, ↓zzcq, ↓zzcr, ↓zzcs, ↓zzct, ↓zzcu, ↓zzcv, ↓zzcw, ↓zzcx, ↓zzcy, ↓zzcz, ↓zzda, ↓zzdb, ↓zzdc, ↓zzdd, zzde, ↓zzdf, ↓zzdg, ↓zzdh, ↓zzdi, ↓zzdj, ↓zzdk, ↓zzdl, ↓zzdm, ↓zzdn, ↓zzdo, ↓zzdp, ↓zzdq, zzdr, zzds, zzdt, zzdu, zzdv, zzdw, zzdx, zzdy, zzdz, zzea, zzeb, oEq, oNe, eqT, oAdd, oNeg, oAbs, oMax2, oMin2, oInt, oLen, oIsN, oNotN, oIn, oNin, inT, eqF, oIsi, oIsi2, oList, oTuple, seqT, zp, enm, two, three, ioFind, ioCount, brOk, Bop.still, Bop.isI, T.ow, T.owl, T.nob, T.nobl, T.nfz, T.nfzl, T.fz, T.fzl, Bop.fit, Bop.res, Bop.bo, zzec, zzed, zzee, zzef, zzeg, zzeh, zzei, zzej, zzef, zzeg, zzeh, zzei, zzek, zzel, List.all_cons, List.all_nil, List.any_cons, List.any_nil, zzem, zzen, zzeo, zzep, zzeq, zzer, zzes, zzet, Bool.not_false, Bool.not_true, Bool.or_false, Bool.false_or, Bool.and_true, Bool.true_and, Bool.or_true, Bool.true_or, Bool.and_false, Bool.false_and, Bool.not_not, Bool.not_eq_true', decide_eq_false_iff_not, Bool.and_eq_true, Bool.or_eq_true, true_or, or_true, false_or, or_false, true_and, and_true, false_and, and_false, Bool.false_eq_true, false_imp_iff, if_true, if_false, forall_const, implies_true, Option.some.injEq, Option.isSome_some, forall_eq', reduceCtorEq, List.cons_append, List.nil_append, List.length_cons, List.length_nil, List.length_map, List.length_append, List.length_range, zzeu, zzev, zzew, List.replicate, List.flatten_cons, List.flatten_nil, List.append_nil, Nat.reduceAdd, Nat.reduceSub, Nat.reduceLT, Nat.reduceLeDiff, List.set_cons_zero, List.set_cons_succ, decide_eq_true_eq, decide_true, decide_false, Int.reduceLT, Int.reduceLE, Int.reduceMul, Int.reducePow, Int.reduceToNat, Int.reduceAdd, Int.reduceSub, Int.reduceNeg, Int.reduceEq, Nat.reducePow, zzex, zzey, zzez, Nat.zero_add, big, zzfa, zzfb, String.reduceEq, wipeE, zzfc, zzfd, zzah, zzai, Option.getD_some, ↓zzfe, ↓zzff, ↓zzfg, ↓zzfh, ↓zzfi, ↓zzfj, ↓zzfk, ↓zzfl, ↓zzfm, ↓zzfn, ↓zzfo, ↓zzfp, ↓zzfq, ↓zzfr, ↓zzfs, ↓zzft, ↓zzfu, ↓zzfv, ↓zzfw, ↓zzfx, ↓zzfy, ↓zzfz, ↓zzga, ↓zzgb, ↓zzgc, ↓zzgd, ↓zzge, ↓zzgf, ↓zzgg, ↓zzgh, ↓zzgi, ↓zzgj, ↓zzgk, ↓zzgl, ↓zzgm, ↓zzgn, ↓zzgo, ↓zzgp, ↓zzgq, ↓zzgr, ↓zzgs, ↓zzgt, ↓zzgu, ↓zzgv, ↓zzgw, ↓zzgx, ↓zzgy, ↓zzgz, ↓zzha, ↓zzhb, ↓zzhc, ↓zzhd, ↓zzhe, ↓zzhf, ↓zzhg, ↓zzhh, ↓zzhi, ↓zzhj, ↓zzhk, ↓zzhl, ↓zzhm, ↓zzhn, ↓zzho, ↓zzhp, ↓zzhq, ↓zzhr, ↓zzhs, ↓zzht, ↓zzhl, zzhu, zzhv, zzhw, zzhx, zzhy, zzhz, zzia, zzib, zzic, zzid, zzie, zzif, zzig, zzih, zzii, zzij, zzik, zzil, zzim, zzin, zzio, zzip, zziq, zzir, zzis, zzit, zziu, zziv, zziw, zzix, zziy, zziz, zzja, zzjb, zzjc, zzjd, zzje, zzjf, zzjg, zzjh, zzji, zzjj, zzjk, zzjl, zzjm, zzjn, zzjo, zzjp, zzjq, zzjr, zzjs, zzjt, zzju, zzjv, zzjw, zzjx, zzjy, zzjz, zzka, zzkb, zzkc, zzkd, zzke, zzkf, zzkg, zzkh, zzki, zzkj, zzkk, zzkl, zzkm, zzkn, zzko, zzkp, zzkq, zzkr, zzks, zzkt, zzku, zzkv, zzkw, zzkx, zzky, zzkz, zzla, zzlb, zzlc, zzld, zzle, zzlf, zzlg, zzlh, zzli, zzlj, zzlk, zzll, zzlm, zzln, zzlo, ↓zzlp, ↓zzlq, ↓zzlr, ↓zzls, ↓zzlt, ↓zzlu, ↓zzlv, ↓zzlw, ↓zzlx, ↓zzly, ↓zzlz, ↓zzma, zzmb, zzmc, ↓zzmd, ↓zzme, ↓zzmf, ↓zzmg, ↓zzmh, zzmi, zzmj, zzmk, zzml, zzmm, zzmn, zzmo, zzmp, zzmq, zzmr, zzms, Option.bind_some, Option.map_some, ↓zzmt, ↓zzmu, ↓zzmv, ↓zzmw, ↓zzmx, ↓zzmy, ↓zzmz, ↓zzna, ↓zznb, ↓zznc, ↓zznd, ↓zzne, ↓zznf, ↓zzng, ↓zznh, ↓zzni, ↓zznj, ↓zznk, ↓zznl, Row.ow, Row.nob, Row.nfz, Row.fz]
          refine ⟨by omega, lc_map (h := fun r : Row => T.bl r.falls) (fun x hx Q' q' => ?_) ?_⟩
          · simp only [↓zzaa, ↓zzab, ↓zzac, ↓zzad, ↓zzae, ↓zzaf, ↓zzag, ↓zzah, ↓zzai, ↓zzaj, ↓zzak, ↓zzal, ↓zzam, ↓zzan, ↓zzao, ↓zzap, ↓zzaq, ↓zzar, ↓zzas, ↓zzat, ↓zzau, ↓zzav, ↓zzaw, ↓zzax, ↓zzay, ↓zzaz, ↓zzba, ↓zzbb, ↓zzbc, ↓zzbd, ↓zzbe, ↓zzbf, ↓zzbg, ↓zzbh, ↓zzbi, ↓zzbj, ↓zzbk, ↓zzbl, ↓zzbm, ↓zzbn, ↓zzbo, ↓zzbp, ↓zzbq, ↓zzbr, ↓zzbs, ↓zzbt, ↓zzbu, ↓zzbv, ↓zzbw, ↓zzbx, ↓zzby, ↓zzbz, ↓zzca, ↓zzcb, ↓zzcc, ↓zzcd, ↓zzce, ↓zzcf, ↓zzcg, ↓zzch, ↓zzci, ↓zzcj, ↓zzck, ↓zzcl, ↓zzcm, ↓zzcn, ↓zzco, ↓zzcp, ↓zzcq, ↓zzcr, ↓zzcs, ↓zzct, ↓zzcu, ↓zzcv, ↓zzcw, ↓zzcx, ↓zzcy, ↓zzcz, ↓zzda, ↓zzdb, ↓zzdc, ↓zzdd, zzde, ↓zzdf, ↓zzdg, ↓zzdh, ↓zzdi, ↓zzdj, ↓zzdk, ↓zzdl, ↓zzdm, ↓zzdn, ↓zzdo, ↓zzdp, ↓zzdq, zzdr, zzds, zzdt, zzdu, zzdv, zzdw, zzdx, zzdy, zzdz, zzea, zzeb, oEq, oNe, eqT, oAdd, oNeg, oAbs, oMax2, oMin2, oInt, oLen, oIsN, oNotN, oIn, oNin, inT, eqF, oIsi, oIsi2, oList, oTuple, seqT, zp, enm, two, three, ioFind, ioCount, brOk, Bop.still, Bop.isI, T.ow, T.owl, T.nob, T.nobl, T.nfz, T.nfzl, T.fz, T.fzl, Bop.fit, Bop.res, Bop.bo, zzec, zzed, zzee, zzef, zzeg, zzeh, zzei, zzej, zzef, zzeg, zzeh, zzei, zzek, zzel, List.all_cons, List.all_nil, List.any_cons, List.any_nil, zzem, zzen, zzeo, zzep, zzeq, zzer, zzes, zzet, Bool.not_false, Bool.not_true, Bool.or_false, Bool.false_or, Bool.and_true, Bool.true_and, Bool.or_true, Bool.true_or, Bool.and_false, Bool.false_and, Bool.not_not, Bool.not_eq_true', decide_eq_false_iff_not, Bool.and_eq_true, Bool.or_eq_true, true_or, or_true, false_or, or_false, true_and, and_true, false_and, and_false, Bool.false_eq_true, false_imp_iff, if_true, if_false, forall_const, implies_true, Option.some.injEq, Option.isSome_some, forall_eq', reduceCtorEq, List.cons_append, List.nil_append, List.length_cons, List.length_nil, List.length_map, List.length_append, List.length_range, zzeu, zzev, zzew, List.replicate, List.flatten_cons, List.flatten_nil, List.append_nil, Nat.reduceAdd, Nat.reduceSub, Nat.reduceLT, Nat.reduceLeDiff, List.set_cons_zero, List.set_cons_succ, decide_eq_true_eq, decide_true, decide_false, Int.reduceLT, Int.reduceLE, Int.reduceMul, Int.reducePow, Int.reduceToNat, Int.reduceAdd, Int.reduceSub, Int.reduceNeg, Int.reduceEq, Nat.reducePow, zzex, zzey, zzez, Nat.zero_add, big, zzfa, zzfb, String.reduceEq, wipeE, zzfc, zzfd, zzah, zzai, Option.getD_some, ↓zzfe, ↓zzff, ↓zzfg, ↓zzfh, ↓zzfi, ↓zzfj, ↓zzfk, ↓zzfl, ↓zzfm, ↓zzfn, ↓zzfo, ↓zzfp, ↓zzfq, ↓zzfr, ↓zzfs, ↓zzft, ↓zzfu, ↓zzfv, ↓zzfw, ↓zzfx, ↓zzfy, ↓zzfz, ↓zzga, ↓zzgb, ↓zzgc, ↓zzgd, ↓zzge, ↓zzgf, ↓zzgg, ↓zzgh, ↓zzgi, ↓zzgj, ↓zzgk, ↓zzgl, ↓zzgm, ↓zzgn, ↓zzgo, ↓zzgp, ↓zzgq, ↓zzgr, ↓zzgs, ↓zzgt, ↓zzgu, ↓zzgv, ↓zzgw, ↓zzgx, ↓zzgy, ↓zzgz, ↓zzha, ↓zzhb, ↓zzhc, ↓zzhd, ↓zzhe, ↓zzhf, ↓zzhg, ↓zzhh, ↓zzhi, ↓zzhj, ↓zzhk, ↓zzhl, ↓zzhm, ↓zzhn, ↓zzho, ↓zzhp, ↓zzhq, ↓zzhr, ↓zzhs, ↓zzht, ↓zzhl, zzhu, zzhv, zzhw, zzhx, zzhy, zzhz, zzia, zzib, zzic, zzid, zzie, zzif, zzig, zzih, zzii, zzij, zzik, zzil, zzim, zzin, zzio, zzip, zziq, zzir, zzis, zzit, zziu, zziv, zziw, zzix, zziy, zziz, zzja, zzjb, zzjc, zzjd, zzje, zzjf, zzjg, zzjh, zzji, zzjj, zzjk, zzjl, zzjm, zzjn, zzjo, zzjp, zzjq, zzjr, zzjs, zzjt, zzju, zzjv, zzjw, zzjx, zzjy, zzjz, zzka, zzkb, zzkc, zzkd, zzke, zzkf, zzkg, zzkh, zzki, zzkj, zzkk, zzkl, zzkm, zzkn, zzko, zzkp, zzkq, zzkr, zzks, zzkt, zzku, zzkv, zzkw, zzkx, zzky, zzkz, zzla, zzlb, zzlc, zzld, zzle, zzlf, zzlg, zzlh, zzli, zzlj, zzlk, zzll, zzlm, zzln, zzlo, ↓zzlp, ↓zzlq, ↓zzlr, ↓zzls, ↓zzlt, ↓zzlu, ↓zzlv, ↓zzlw, ↓zzlx, ↓zzly, ↓zzlz, ↓zzma, zzmb, zzmc, ↓zzmd, ↓zzme, ↓zzmf, ↓zzmg, ↓zzmh, zzmi, zzmj, zzmk, zzml, zzmm, zzmn, zzmo, zzmp, zzmq, zzmr, zzms, Option.bind_some, Option.map_some, ↓zzmt, ↓zzmu, ↓zzmv, ↓zzmw, ↓zzmx, ↓zzmy, ↓zzmz, ↓zzna, ↓zznb, ↓zznc, ↓zznd, ↓zzne, ↓zznf, ↓zzng, ↓zznh, ↓zzni, ↓zznj, ↓zznk, ↓zznl, ↓falls_eq, Row.ow, Row.nob, Row.nfz, Row.fz]
            exact q'
          simp only [↓zzaa, ↓zzab, ↓zzac, ↓zzad, ↓zzae, ↓zzaf, ↓zzag, ↓zzah, ↓zzai, ↓zzaj, ↓zzak, ↓zzal, ↓zzam, ↓zzan, ↓zzao, ↓zzap, ↓zzaq, ↓zzar, ↓zzas, ↓zzat, ↓zzau, ↓zzav, ↓zzaw, ↓zzax, ↓zzay, ↓zzaz, ↓zzba, ↓zzbb, ↓zzbc, ↓zzbd, ↓zzbe, ↓zzbf, ↓zzbg, ↓zzbh, ↓zzbi, ↓zzbj, ↓zzbk, ↓zzbl, ↓zzbm, ↓zzbn, ↓zzbo, ↓zzbp, ↓zzbq, ↓zzbr, ↓zzbs, ↓zzbt, ↓zzbu, ↓zzbv, ↓zzbw, ↓zzbx, ↓zzby, ↓zzbz, ↓zzca, ↓zzcb, ↓zzcc, ↓zzcd, ↓zzce, ↓zzcf, ↓zzcg, ↓zzch, ↓zzci, ↓zzcj, ↓zzck, ↓zzcl, ↓zzcm, ↓zzcn, ↓zzco, ↓zzcp, ↓zzcq, ↓zzcr, ↓zzcs, ↓zzct, ↓zzcu, ↓zzcv, ↓zzcw, ↓zzcx, ↓zzcy, ↓zzcz, ↓zzda, ↓zzdb, ↓zzdc, ↓zzdd, zzde, ↓zzdf, ↓zzdg, ↓zzdh, ↓zzdi, ↓zzdj, ↓zzdk, ↓zzdl, ↓zzdm, ↓zzdn, ↓zzdo, ↓zzdp, ↓zzdq, zzdr, zzds, zzdt, zzdu, zzdv, zzdw, zzdx, zzdy, zzdz, zzea, zzeb, oEq, oNe, eqT, oAdd, oNeg, oAbs, oMax2, oMin2, oInt, oLen, oIsN, oNotN, oIn, oNin, inT, eqF, oIsi, oIsi2, oList, oTuple, seqT, zp, enm, two, three, ioFind, ioCount, brOk, Bop.still, Bop.isI, T.ow, T.owl, T.nob, T.nobl, T.nfz, T.nfzl, T.fz, T.fzl, Bop.fit, Bop.res, Bop.bo, zzec, zzed, zzee, zzef, zzeg, zzeh, zzei, zzej, zzef, zzeg, zzeh, zzei, zzek, zzel, List.all_cons, List.all_nil, List.any_cons, List.any_nil, zzem, zzen, zzeo, zzep, zzeq, zzer, zzes, zzet, Bool.not_false, Bool.not_true, Bool.or_false, Bool.false_or, Bool.and_true, Bool.true_and, Bool.or_true, Bool.true_or, Bool.and_false, Bool.false_and, Bool.not_not, Bool.not_eq_true', decide_eq_false_iff_not, Bool.and_eq_true, Bool.or_eq_true, true_or, or_true, false_or, or_false, true_and, and_true, false_and, and_false, Bool.false_eq_true, false_imp_iff, if_true, if_false, forall_const, implies_true, Option.some.injEq, Option.isSome_some, forall_eq', reduceCtorEq, List.cons_append, List.nil_append, List.length_cons, List.length_nil, List.length_map, List.length_append, List.length_range, zzeu, zzev, zzew, List.replicate, List.flatten_cons, List.flatten_nil, List.append_nil, Nat.reduceAdd, Nat.reduceSub, Nat.reduceLT, Nat.reduceLeDiff, List.set_cons_zero, List.set_cons_succ, decide_eq_true_eq, decide_true, decide_false, Int.reduceLT, Int.reduceLE, Int.reduceMul, Int.reducePow, Int.reduceToNat, Int.reduceAdd, Int.reduceSub, Int.reduceNeg, Int.reduceEq, Nat.reducePow, zzex, zzey, zzez, Nat.zero_add, big, zzfa, zzfb, String.reduceEq, wipeE, zzfc, zzfd, zzah, zzai, Option.getD_some, ↓zzfe, ↓zzff, ↓zzfg, ↓zzfh, ↓zzfi, ↓zzfj, ↓zzfk, ↓zzfl, ↓zzfm, ↓zzfn, ↓zzfo, ↓zzfp, ↓zzfq, ↓zzfr, ↓zzfs, ↓zzft, ↓zzfu, ↓zzfv, ↓zzfw, ↓zzfx, ↓zzfy, ↓zzfz, ↓zzga, ↓zzgb, ↓zzgc, ↓zzgd, ↓zzge, ↓zzgf, ↓zzgg, ↓zzgh, ↓zzgi, ↓zzgj, ↓zzgk, ↓zzgl, ↓zzgm, ↓zzgn, ↓zzgo, ↓zzgp, ↓zzgq, ↓zzgr, ↓zzgs, ↓zzgt, ↓zzgu, ↓zzgv, ↓zzgw, ↓zzgx, ↓zzgy, ↓zzgz, ↓zzha, ↓zzhb, ↓zzhc, ↓zzhd, ↓zzhe, ↓zzhf, ↓zzhg, ↓zzhh, ↓zzhi, ↓zzhj, ↓zzhk, ↓zzhl, ↓zzhm, ↓zzhn, ↓zzho, ↓zzhp, ↓zzhq, ↓zzhr, ↓zzhs, ↓zzht, ↓zzhl, zzhu, zzhv, zzhw, zzhx, zzhy, zzhz, zzia, zzib, zzic, zzid, zzie, zzif, zzig, zzih, zzii, zzij, zzik, zzil, zzim, zzin, zzio, zzip, zziq, zzir, zzis, zzit, zziu, zziv, zziw, zzix, zziy, zziz, zzja, zzjb, zzjc, zzjd, zzje, zzjf, zzjg, zzjh, zzji, zzjj, zzjk, zzjl, zzjm, zzjn, zzjo, zzjp, zzjq, zzjr, zzjs, zzjt, zzju, zzjv, zzjw, zzjx, zzjy, zzjz, zzka, zzkb, zzkc, zzkd, zzke, zzkf, zzkg, zzkh, zzki, zzkj, zzkk, zzkl, zzkm, zzkn, zzko, zzkp, zzkq, zzkr, zzks, zzkt, zzku, zzkv, zzkw, zzkx, zzky, zzkz, zzla, zzlb, zzlc, zzld, zzle, zzlf, zzlg, zzlh, zzli, zzlj, zzlk, zzll, zzlm, zzln, zzlo, ↓zzlp, ↓zzlq, ↓zzlr, ↓zzls, ↓zzlt, ↓zzlu, ↓zzlv, ↓zzlw, ↓zzlx, ↓zzly, ↓zzlz, ↓zzma, zzmb, zzmc, ↓zzmd, ↓zzme, ↓zzmf, ↓zzmg, ↓zzmh, zzmi, zzmj, zzmk, zzml, zzmm, zzmn, zzmo, zzmp, zzmq, zzmr, zzms, Option.bind_some, Option.map_some, ↓zzmt, ↓zzmu, ↓zzmv, ↓zzmw, ↓zzmx, ↓zzmy, ↓zzmz, ↓zzna, ↓zznb, ↓zznc, ↓zznd, ↓zzne, ↓zznf, ↓zzng, ↓zznh, ↓zzni, ↓zznj, ↓zznk, ↓zznl]
          refine same12 (pl_lst (by simp [big]; omega) fun x hx => by obtain ⟨r, _, rfl⟩ := List.mem_map.mp hx; exact pl_bl) ?_
          simp only [↓zzaa, ↓zzab, ↓zzac, ↓zzad, ↓zzae, ↓zzaf, ↓zzag, ↓zzah, ↓zzai, ↓zzaj, ↓zzak, ↓zzal, ↓zzam, ↓zzan, ↓zzao, ↓zzap, ↓zzaq, ↓zzar, ↓zzas, ↓zzat, ↓zzau, ↓zzav, ↓zzaw, ↓zzax, ↓zzay, ↓zzaz, ↓zzba, ↓zzbb, ↓zzbc, ↓zzbd, ↓zzbe, ↓zzbf, ↓zzbg, ↓zzbh, ↓zzbi, ↓zzbj, ↓zzbk, ↓zzbl, ↓zzbm, ↓zzbn, ↓zzbo, ↓zzbp, ↓zzbq, ↓zzbr, ↓zzbs, ↓zzbt, ↓zzbu, ↓zzbv, ↓zzbw, ↓zzbx, ↓zzby, ↓zzbz, ↓zzca, ↓zzcb, ↓zzcc, ↓zzcd, ↓zzce, ↓zzcf, ↓zzcg, ↓zzch, ↓zzci, ↓zzcj, ↓zzck, ↓zzcl, ↓zzcm, ↓zzcn, ↓zzco, ↓zzcp, ↓zzcq, ↓zzcr, ↓zzcs, ↓zzct, ↓zzcu, ↓zzcv, ↓zzcw, ↓zzcx, ↓zzcy, ↓zzcz, ↓zzda, ↓zzdb, ↓zzdc, ↓zzdd, zzde, ↓zzdf, ↓zzdg, ↓zzdh, ↓zzdi, ↓zzdj, ↓zzdk, ↓zzdl, ↓zzdm, ↓zzdn, ↓zzdo, ↓zzdp, ↓zzdq, zzdr, zzds, zzdt, zzdu, zzdv, zzdw, zzdx, zzdy, zzdz, zzea, zzeb, oEq, oNe, eqT, oAdd, oNeg, oAbs, oMax2, oMin2, oInt, oLen, oIsN, oNotN, oIn, oNin, inT, eqF, oIsi, oIsi2, oList, oTuple, seqT, zp, enm, two, three, ioFind, ioCount, brOk, Bop.still, Bop.isI, T.ow, T.owl, T.nob, T.nobl, T.nfz, T.nfzl, T.fz, T.fzl, Bop.fit, Bop.res, Bop.bo, zzec, zzed, zzee, zzef, zzeg, zzeh, zzei, zzej, zzef, zzeg, zzeh, zzei, zzek, zzel, List.all_cons, List.all_nil, List.any_cons, List.any_nil, zzem, zzen, zzeo, zzep, zzeq, zzer, zzes, zzet, Bool.not_false, Bool.not_true, Bool.or_false, Bool.false_or, Bool.and_true, Bool.true_and, Bool.or_true, Bool.true_or, Bool.and_false, Bool.false_and, Bool.not_not, Bool.not_eq_true', decide_eq_false_iff_not, Bool.and_eq_true, Bool.or_eq_true, true_or, or_true, false_or, or_false, true_and, and_true, false_and, and_false, Bool.false_eq_true, false_imp_iff, if_true, if_false, forall_const, implies_true, Option.some.injEq, Option.isSome_some, forall_eq', reduceCtorEq, List.cons_append, List.nil_append, List.length_cons, List.length_nil, List.length_map, List.length_append, List.length_range, zzeu, zzev, zzew, List.replicate, List.flatten_cons, List.flatten_nil, List.append_nil, Nat.reduceAdd, Nat.reduceSub, Nat.reduceLT, Nat.reduceLeDiff, List.set_cons_zero, List.set_cons_succ, decide_eq_true_eq, decide_true, decide_false, Int.reduceLT, Int.reduceLE, Int.reduceMul, Int.reducePow, Int.reduceToNat, Int.reduceAdd, Int.reduceSub, Int.reduceNeg, Int.reduceEq, Nat.reducePow, zzex, zzey, zzez, Nat.zero_add, big, zzfa, zzfb, String.reduceEq, wipeE, zzfc, zzfd, zzah, zzai, Option.getD_some, ↓zzfe, ↓zzff, ↓zzfg, ↓zzfh, ↓zzfi, ↓zzfj, ↓zzfk, ↓zzfl, ↓zzfm, ↓zzfn, ↓zzfo, ↓zzfp, ↓zzfq, ↓zzfr, ↓zzfs, ↓zzft, ↓zzfu, ↓zzfv, ↓zzfw, ↓zzfx, ↓zzfy, ↓zzfz, ↓zzga, ↓zzgb, ↓zzgc, ↓zzgd, ↓zzge, ↓zzgf, ↓zzgg, ↓zzgh, ↓zzgi, ↓zzgj, ↓zzgk, ↓zzgl, ↓zzgm, ↓zzgn, ↓zzgo, ↓zzgp, ↓zzgq, ↓zzgr, ↓zzgs, ↓zzgt, ↓zzgu, ↓zzgv, ↓zzgw, ↓zzgx, ↓zzgy, ↓zzgz, ↓zzha, ↓zzhb, ↓zzhc, ↓zzhd, ↓zzhe, ↓zzhf, ↓zzhg, ↓zzhh, ↓zzhi, ↓zzhj, ↓zzhk, ↓zzhl, ↓zzhm, ↓zzhn, ↓zzho, ↓zzhp, ↓zzhq, ↓zzhr, ↓zzhs, ↓zzht, ↓zzhl, zzhu, zzhv, zzhw, zzhx, zzhy, zzhz, zzia, zzib, zzic, zzid, zzie, zzif, zzig, zzih, zzii, zzij, zzik, zzil, zzim, zzin, zzio, zzip, zziq, zzir, zzis, zzit, zziu, zziv, zziw, zzix, zziy, zziz, zzja, zzjb, zzjc, zzjd, zzje, zzjf, zzjg, zzjh, zzji, zzjj, zzjk, zzjl, zzjm, zzjn, zzjo, zzjp, zzjq, zzjr, zzjs, zzjt, zzju, zzjv, zzjw, zzjx, zzjy, zzjz, zzka, zzkb, zzkc, zzkd, zzke, zzkf, zzkg, zzkh, zzki, zzkj, zzkk, zzkl, zzkm, zzkn, zzko, zzkp, zzkq, zzkr, zzks, zzkt, zzku, zzkv, zzkw, zzkx, zzky, zzkz, zzla, zzlb, zzlc, zzld, zzle, zzlf, zzlg, zzlh, zzli, zzlj, zzlk, zzll, zzlm, zzln, zzlo, ↓zzlp, ↓zzlq, ↓zzlr, ↓zzls, ↓zzlt, ↓zzlu, ↓zzlv, ↓zzlw, ↓zzlx, ↓zzly, ↓zzlz, ↓zzma, zzmb, zzmc, ↓zzmd, ↓zzme, ↓zzmf, ↓zzmg, ↓zzmh, zzmi, zzmj, zzmk, zzml, zzmm, zzmn, zzmo, zzmp, zzmq, zzmr, zzms, Option.bind_some, Option.map_some, ↓zzmt, ↓zzmu, ↓zzmv, ↓zzmw, ↓zzmx, ↓zzmy, ↓zzmz, ↓zzna, ↓zznb, ↓zznc, ↓zznd, ↓zzne, ↓zznf, ↓zzng, ↓zznh, ↓zzni, ↓zznj, ↓zznk, ↓zznl]
          exact ⟨_, _, _, _, _, _, _, _, _, _, _, rfl⟩
  · rintro _ ⟨x1, x2, x3, x4, x5, x6, x7, x8, x9, x10, x11, rfl⟩
    simp only [↓zzaa, ↓zzab, ↓zzac, ↓zzad, ↓zzae, ↓zzaf, ↓zzag, ↓zzah, ↓zzai, ↓zzaj, ↓zzak, ↓zzal, ↓zzam, ↓zzan, ↓zzao, ↓zzap, ↓zzaq, ↓zzar, ↓zzas, ↓zzat, ↓zzau, ↓zzav, ↓zzaw, ↓zzax, ↓zzay, ↓zzaz, ↓zzba, ↓zzbb, ↓zzbc, ↓zzbd, ↓zzbe, ↓zzbf, ↓zzbg, ↓zzbh, ↓zzbi, ↓zzbj, ↓zzbk, ↓zzbl, ↓zzbm, ↓zzbn, ↓zzbo, ↓zzbp, ↓zzbq, ↓zzbr, ↓zzbs, ↓zzbt, ↓zzbu, ↓zzbv, ↓zzbw, ↓zzbx, ↓zzby, ↓zzbz, ↓zzca, ↓zzcb, ↓zzcc, ↓zzcd, ↓zzce, ↓zzcf, ↓zzcg, ↓zzch, ↓zzci, ↓zzcj, ↓zzck, ↓zzcl, ↓zzcm, ↓zzcn, ↓zzco, ↓zzcp, ↓zzcq, ↓zzcr, ↓zzcs, ↓zzct, ↓zzcu, ↓zzcv, ↓zzcw, ↓zzcx, ↓zzcy, ↓zzcz, ↓zzda, ↓zzdb, ↓zzdc, ↓zzdd, zzde, ↓zzdf, ↓zzdg, ↓zzdh, ↓zzdi, ↓zzdj, ↓zzdk, ↓zzdl, ↓zzdm, ↓zzdn, ↓zzdo, ↓zzdp, ↓zzdq, zzdr, zzds, zzdt, zzdu, zzdv, zzdw, zzdx, zzdy, zzdz, zzea, zzeb, oEq, oNe, eqT, oAdd, oNeg, oAbs, oMax2, oMin2, oInt, oLen, oIsN, oNotN, oIn, oNin, inT, eqF, oIsi, oIsi2, oList, oTuple, seqT, zp, enm, two, three, ioFind, ioCount, brOk, Bop.still, Bop.isI, T.ow, T.owl, T.nob, T.nobl, T.nfz, T.nfzl, T.fz, T.fzl, Bop.fit, Bop.res, Bop.bo, zzec, zzed, zzee, zzef, zzeg, zzeh, zzei, zzej, zzef, zzeg, zzeh, zzei, zzek, zzel, List.all_cons, List.all_nil, List.any_cons, List.any_nil, zzem, zzen, zzeo, zzep, zzeq, zzer, zzes, zzet, Bool.not_false, Bool.not_true, Bool.or_false, Bool.false_or, Bool.and_true, Bool.true_and, Bool.or_true, Bool.true_or, Bool.and_false, Bool.false_and, Bool.not_not, Bool.not_eq_true', decide_eq_false_iff_not, Bool.and_eq_true, Bool.or_eq_true, true_or, or_true, false_or, or_false, true_and, and_true, false_and, and_false, Bool.false_eq_true, false_imp_iff, if_true, if_false, forall_const, implies_true, Option.some.injEq, Option.isSome_some, forall_eq', reduceCtorEq, List.cons_append, List.nil_append, List.length_cons, List.length_nil, List.length_map, List.length_append, List.length_range, zzeu, zzev, zzew, List.replicate, List.flatten_cons, List.flatten_nil, List.append_nil, Nat.reduceAdd, Nat.reduceSub, Nat.reduceLT, Nat.reduceLeDiff, List.set_cons_zero, List.set_cons_succ, decide_eq_true_eq, decide_true, decide_false, Int.reduceLT, Int.reduceLE, Int.reduceMul, Int.reducePow, Int.reduceToNat, Int.reduceAdd, Int.reduceSub, Int.reduceNeg, Int.reduceEq, Nat.reducePow, zzex, zzey, zzez, Nat.zero_add, big, zzfa, zzfb, String.reduceEq, wipeE, zzfc, zzfd, zzah, zzai, Option.getD_some, ↓zzfe, ↓zzff, ↓zzfg, ↓zzfh, ↓zzfi, ↓zzfj, ↓zzfk, ↓zzfl, ↓zzfm, ↓zzfn, ↓zzfo, ↓zzfp, ↓zzfq, ↓zzfr, ↓zzfs, ↓zzft, ↓zzfu, ↓zzfv, ↓zzfw, ↓zzfx, ↓zzfy, ↓zzfz, ↓zzga, ↓zzgb, ↓zzgc, ↓zzgd, ↓zzge, ↓zzgf, ↓zzgg, ↓zzgh, ↓zzgi, ↓zzgj, ↓zzgk, ↓zzgl, ↓zzgm, ↓zzgn, ↓zzgo, ↓zzgp, ↓zzgq, ↓zzgr, ↓zzgs, ↓zzgt, ↓zzgu, ↓zzgv, ↓zzgw, ↓zzgx, ↓zzgy, ↓zzgz, ↓zzha, ↓zzhb, ↓zzhc, ↓zzhd, ↓zzhe, ↓zzhf, ↓zzhg, ↓zzhh, ↓zzhi, ↓zzhj, ↓zzhk, ↓zzhl, ↓zzhm, ↓zzhn, ↓zzho, ↓zzhp, ↓zzhq, ↓zzhr, ↓zzhs, ↓zzht, ↓zzhl, zzhu, zzhv, zzhw, zzhx, zzhy, zzhz, zzia, zzib, zzic, zzid, zzie, zzif, zzig, zzih, zzii, zzij, zzik, zzil, zzim, zzin, zzio, zzip, zziq, zzir, zzis, zzit, zziu, zziv, zziw, zzix, zziy, zziz, zzja, zzjb, zzjc, zzjd, zzje, zzjf, zzjg, zzjh, zzji, zzjj, zzjk, zzjl, zzjm, zzjn, zzjo, zzjp, zzjq, zzjr, zzjs, zzjt, zzju, zzjv, zzjw, zzjx, zzjy, zzjz, zzka, zzkb, zzkc, zzkd, zzke, zzkf, zzkg, zzkh, zzki, zzkj, zzkk, zzkl, zzkm, zzkn, zzko, zzkp, zzkq, zzkr, zzks, zzkt, zzku, zzkv, zzkw, zzkx, zzky, zzkz, zzla, zzlb, zzlc, zzld, zzle, zzlf, zzlg, zzlh, zzli, zzlj, zzlk, zzll, zzlm, zzln, zzlo, ↓zzlp, ↓zzlq, ↓zzlr, ↓zzls, ↓zzlt, ↓zzlu, ↓zzlv, ↓zzlw, ↓zzlx, ↓zzly, ↓zzlz, ↓zzma, zzmb, zzmc, ↓zzmd, ↓zzme, ↓zzmf, ↓zzmg, ↓zzmh, zzmi, zzmj, zzmk, zzml, zzmm, zzmn, zzmo, zzmp, zzmq, zzmr, zzms, Option.bind_some, Option.map_some, ↓zzmt, ↓zzmu, ↓zzmv, ↓zzmw, ↓zzmx, ↓zzmy, ↓zzmz, ↓zzna, ↓zznb, ↓zznc, ↓zznd, ↓zzne, ↓zznf, ↓zzng, ↓zznh, ↓zzni, ↓zznj, ↓zznk, ↓zznl]
end NP
end
set_option maxHeartbeats 0
namespace Lk03
open PySem L2 QL NP
def top (i : Nat) : Stmt := PySem.Challenge.pw_nearpool_k03_greats_jumps_falls.main.body.getD i (.Pass ⟨0, 0, 0, 0⟩)
def dGlob (x : Str) (st : Stmt) : He.DefD := ⟨(x, none), x, x, defArgs st, defBody st, defScope st, [], []⟩
abbrev s_is_great : Stmt := top 3
abbrev s_greats_of : Stmt := top 4
abbrev s_jumps_of : Stmt := top 5
abbrev s_falls : Stmt := top 6
abbrev s__law_cell_at : Stmt := top 8
abbrev s__law_tape : Stmt := top 9
abbrev s__law_take : Stmt := top 10
abbrev s__law_great : Stmt := top 11
abbrev s__law_rows : Stmt := top 12
abbrev s__law_same : Stmt := top 13
abbrev s_law : Stmt := top 14
def fn : List He.DefD := [dGlob "is_great" s_is_great, dGlob "greats_of" s_greats_of, dGlob "jumps_of" s_jumps_of, dGlob "falls" s_falls, dGlob "_law_cell_at" s__law_cell_at, dGlob "_law_tape" s__law_tape, dGlob "_law_take" s__law_take, dGlob "_law_great" s__law_great, dGlob "_law_rows" s__law_rows, dGlob "_law_same" s__law_same, dGlob "law" s_law]
def fa : List He.Fa := [.glo "is_great", .glo "greats_of", .glo "jumps_of", .glo "falls", .glo "_law_cell_at", .glo "_law_tape", .glo "_law_take", .glo "_law_great", .glo "_law_rows", .glo "_law_same", .glo "law", .free "abs", .free "all", .free "bool", .free "enumerate", .free "int", .free "isinstance", .free "len", .free "list", .free "max", .free "min", .free "range", .free "str", .free "tuple", .free "zip"]
def gl : List (Str × T) := [("JUMPS", .tup [(.str "go"), (.str "nil")]), ("MOST_SMALL", .int 99)]
structure Tx (K : PySem.W.Frag) (mg : Str → Option Value) : Prop where
  c : SaysQ fa gl fn K
  at_is_great : mg "is_great" = some (.ref (He.ga K "is_great"))
  at_greats_of : mg "greats_of" = some (.ref (He.ga K "greats_of"))
  at_jumps_of : mg "jumps_of" = some (.ref (He.ga K "jumps_of"))
  at_falls : mg "falls" = some (.ref (He.ga K "falls"))
  at__law_cell_at : mg "_law_cell_at" = some (.ref (He.ga K "_law_cell_at"))
  at__law_tape : mg "_law_tape" = some (.ref (He.ga K "_law_tape"))
  at__law_take : mg "_law_take" = some (.ref (He.ga K "_law_take"))
  at__law_great : mg "_law_great" = some (.ref (He.ga K "_law_great"))
  at__law_rows : mg "_law_rows" = some (.ref (He.ga K "_law_rows"))
  at__law_same : mg "_law_same" = some (.ref (He.ga K "_law_same"))
  at_law : mg "law" = some (.ref (He.ga K "law"))
  f_abs : mg "abs" = none
  f_all : mg "all" = none
  f_bool : mg "bool" = none
  f_enumerate : mg "enumerate" = none
  f_int : mg "int" = none
  f_isinstance : mg "isinstance" = none
  f_len : mg "len" = none
  f_list : mg "list" = none
  f_max : mg "max" = none
  f_min : mg "min" = none
  f_range : mg "range" = none
  f_str : mg "str" = none
  f_tuple : mg "tuple" = none
  f_zip : mg "zip" = none
  g_JUMPS : ∀ al, Glb ⟨He.ga K, al⟩ K mg "JUMPS" (.tup [(.str "go"), (.str "nil")])
  g_MOST_SMALL : ∀ al, Glb ⟨He.ga K, al⟩ K mg "MOST_SMALL" (.int 99)
theorem tx_mk {K : PySem.W.Frag} {h : Heap} {mg : Str → Option Value} (X : K.In h) (G : h.Ns mainGlobals mg) (c : SaysQ fa gl fn K) : Tx K mg :=
  ⟨c, He.glo_ok X G (c.fact 0 (f := .glo "is_great")), He.glo_ok X G (c.fact 1 (f := .glo "greats_of")), He.glo_ok X G (c.fact 2 (f := .glo "jumps_of")), He.glo_ok X G (c.fact 3 (f := .glo "falls")), He.glo_ok X G (c.fact 4 (f := .glo "_law_cell_at")), He.glo_ok X G (c.fact 5 (f := .glo "_law_tape")), He.glo_ok X G (c.fact 6 (f := .glo "_law_take")), He.glo_ok X G (c.fact 7 (f := .glo "_law_great")), He.glo_ok X G (c.fact 8 (f := .glo "_law_rows")), He.glo_ok X G (c.fact 9 (f := .glo "_law_same")), He.glo_ok X G (c.fact 10 (f := .glo "law")), He.free_ok X G (c.fact 11 (f := .free "abs")), He.free_ok X G (c.fact 12 (f := .free "all")), He.free_ok X G (c.fact 13 (f := .free "bool")), He.free_ok X G (c.fact 14 (f := .free "enumerate")), He.free_ok X G (c.fact 15 (f := .free "int")), He.free_ok X G (c.fact 16 (f := .free "isinstance")), He.free_ok X G (c.fact 17 (f := .free "len")), He.free_ok X G (c.fact 18 (f := .free "list")), He.free_ok X G (c.fact 19 (f := .free "max")), He.free_ok X G (c.fact 20 (f := .free "min")), He.free_ok X G (c.fact 21 (f := .free "range")), He.free_ok X G (c.fact 22 (f := .free "str")), He.free_ok X G (c.fact 23 (f := .free "tuple")), He.free_ok X G (c.fact 24 (f := .free "zip")), fun _ => glB_ok X G (c.glob 0 (p := ("JUMPS", .tup [(.str "go"), (.str "nil")]))), fun _ => glB_ok X G (c.glob 1 (p := ("MOST_SMALL", .int 99)))⟩
section
variable {P : Program} {w : World} {K : PySem.W.Frag} {mg : Str → Option Value} {base : Heap} {al : Addr}
theorem sc_is_great : FnScope ["row"] ["row"] (defScope s_is_great) := ⟨rfl, rfl, rfl, by decide +kernel, rfl, by decide +kernel, by decide +kernel⟩
theorem D_is_great (tx : Tx K mg) : Def ⟨He.ga K, al⟩ P w K mg base 1 "is_great" ["row"] none f_is_great := by
    obtain ⟨fd, F⟩ := tx.c.def_ 0 (d := dGlob "is_great" s_is_great)
    have hN := sc_is_great.nd
    refine def_mk (k := 0) F tx.at_is_great sc_is_great rfl rfl (fun _ _ _ _ _ _ us hl => match us, hl with | [_], _ => rfl) fun cdv A outer s H E hr => ?_
    delta b_is_great
    exact (ss_one (s_ret (md := []) (d_and (d_cmp (op_eqA hr.units) s_eq (b_e (d_ix (b_v 0) (b_e (d_int)))) (b_e (d_str))) (d_one (d_cmp op_gt s_gt (b_e (d_ix (b_v 0) (b_e (d_int)))) (b_e (d_gl (tx.g_MOST_SMALL _))))))))
theorem sc_greats_of : FnScope ["rows", "number", "row"] ["rows"] (defScope s_greats_of) := ⟨rfl, rfl, rfl, by decide +kernel, rfl, by decide +kernel, by decide +kernel⟩
theorem D_greats_of (tx : Tx K mg) : Def ⟨He.ga K, al⟩ P w K mg base 2 "greats_of" ["rows"] none f_greats_of := by
    obtain ⟨fd, F⟩ := tx.c.def_ 1 (d := dGlob "greats_of" s_greats_of)
    have D_is_great := D_is_great (P := P) (w := w) (base := base) (al := al) tx
    have hN := sc_greats_of.nd
    refine def_mk (k := 1) F tx.at_greats_of sc_greats_of rfl rfl (fun _ _ _ _ _ _ us hl => match us, hl with | [_], _ => rfl) fun cdv A outer s H E hr => ?_
    delta b_greats_of
    exact (ss_one (s_ret (md := []) (d_lc [("number", 1), ("row", 2)] hN (i_enum tx.f_enumerate (a_cons (b_v 0) (a_nil))) (by show blkC ["rows", "number", "row"] (defScope s_greats_of) _ _ = true; decide +kernel) (fun _ _ _ _ _ => g_tup (gs_cons (g_name 1 hN) (gs_cons (g_name 2 hN) (gs_nil)))) (fun _ _ _ _ _ => c_if (t_val (d_call D_is_great hr [] none (a_cons (b_v 2) (a_nil))))) (fun _ _ _ _ _ => d_var 1))))
theorem sc_jumps_of : FnScope ["rows", "number", "row"] ["rows"] (defScope s_jumps_of) := ⟨rfl, rfl, rfl, by decide +kernel, rfl, by decide +kernel, by decide +kernel⟩
theorem D_jumps_of (tx : Tx K mg) : Def ⟨He.ga K, al⟩ P w K mg base 1 "jumps_of" ["rows"] none f_jumps_of := by
    obtain ⟨fd, F⟩ := tx.c.def_ 2 (d := dGlob "jumps_of" s_jumps_of)
    have hN := sc_jumps_of.nd
    refine def_mk (k := 0) F tx.at_jumps_of sc_jumps_of rfl rfl (fun _ _ _ _ _ _ us hl => match us, hl with | [_], _ => rfl) fun cdv A outer s H E hr => ?_
    delta b_jumps_of
    exact (ss_one (s_ret (md := []) (d_lc [("number", 1), ("row", 2)] hN (i_enum tx.f_enumerate (a_cons (b_v 0) (a_nil))) (by show blkC ["rows", "number", "row"] (defScope s_jumps_of) _ _ = true; decide +kernel) (fun _ _ _ _ _ => g_tup (gs_cons (g_name 1 hN) (gs_cons (g_name 2 hN) (gs_nil)))) (fun _ _ _ _ _ => c_if (t_cmp op_inA s_in (b_e (d_ix (b_v 2) (b_e (d_int)))) (b_e (d_gl (tx.g_JUMPS _))))) (fun _ _ _ _ _ => d_var 1))))
theorem sc_falls : FnScope ["row"] ["row"] (defScope s_falls) := ⟨rfl, rfl, rfl, by decide +kernel, rfl, by decide +kernel, by decide +kernel⟩
theorem D_falls (tx : Tx K mg) : Def ⟨He.ga K, al⟩ P w K mg base 1 "falls" ["row"] none f_falls := by
    obtain ⟨fd, F⟩ := tx.c.def_ 3 (d := dGlob "falls" s_falls)
    have hN := sc_falls.nd
    refine def_mk (k := 0) F tx.at_falls sc_falls rfl rfl (fun _ _ _ _ _ _ us hl => match us, hl with | [_], _ => rfl) fun cdv A outer s H E hr => ?_
    delta b_falls
    exact (ss_one (s_ret (md := []) (d_cmp op_ninA s_nin (b_e (d_ix (b_v 0) (b_e (d_int)))) (b_e (d_tup (a_cons (b_e (d_str)) (a_cons (b_e (d_str)) (a_nil))))))))
theorem sc__law_cell_at : FnScope ["_law_script", "_law_k"] ["_law_script", "_law_k"] (defScope s__law_cell_at) := ⟨rfl, rfl, rfl, by decide +kernel, rfl, by decide +kernel, by decide +kernel⟩
theorem D__law_cell_at (tx : Tx K mg) : Def ⟨He.ga K, al⟩ P w K mg base 1 "_law_cell_at" ["_law_script", "_law_k"] none f__law_cell_at := by
    obtain ⟨fd, F⟩ := tx.c.def_ 4 (d := dGlob "_law_cell_at" s__law_cell_at)
    have hN := sc__law_cell_at.nd
    refine def_mk (k := 0) F tx.at__law_cell_at sc__law_cell_at rfl rfl (fun _ _ _ _ _ _ us hl => match us, hl with | [_, _], _ => rfl) fun cdv A outer s H E hr => ?_
    delta b__law_cell_at
    exact (ss_one (s_ret (md := []) (d_if (t_cmp op_lt s_lt (b_v 1) (b_e (d_callB call_len s_len boot_len_ tx.f_len (a_cons (b_v 0) (a_nil))))) (d_ix (b_v 0) (b_v 1)) (d_int))))
theorem sc__law_tape : FnScope ["_law_script", "_law_k", "_law_cell"] ["_law_script", "_law_k"] (defScope s__law_tape) := ⟨rfl, rfl, rfl, by decide +kernel, rfl, by decide +kernel, by decide +kernel⟩
theorem D__law_tape (tx : Tx K mg) : Def ⟨He.ga K, al⟩ P w K mg base 2 "_law_tape" ["_law_script", "_law_k"] none f__law_tape := by
    obtain ⟨fd, F⟩ := tx.c.def_ 5 (d := dGlob "_law_tape" s__law_tape)
    have D__law_cell_at := D__law_cell_at (P := P) (w := w) (base := base) (al := al) tx
    have hN := sc__law_tape.nd
    refine def_mk (k := 1) F tx.at__law_tape sc__law_tape rfl rfl (fun _ _ _ _ _ _ us hl => match us, hl with | [_, _], _ => rfl) fun cdv A outer s H E hr => ?_
    delta b__law_tape
    exact (ss_cons (s_set (md := []) 2 hN (d_call D__law_cell_at hr [] none (a_cons (b_v 0) (a_cons (b_v 1) (a_nil)))))
    (ss_one (s_ret (md := []) (d_lst (a_cons (b_e (d_bin op_mulA s_mul (b_e (d_callB call_abs s_abs boot_abs_ tx.f_abs (a_cons (b_v 2) (a_nil)))) (b_e (d_callTy call_int1 s_int boot_int_ tx.f_int (a_cons (b_e (d_cmp op_ge s_ge (b_e (d_callB call_abs s_abs boot_abs_ tx.f_abs (a_cons (b_v 2) (a_nil)))) (b_e (d_bin op_pow s_pow (b_e (d_int)) (b_e (d_int)))))) (a_nil)))))) (a_cons (b_e (d_bin op_mod s_mod (b_e (d_bin op_mulA s_mul (b_e (d_bin op_addA s_add (b_e (d_bin op_addA s_add (b_e (d_bin op_mod s_mod (b_v 2) (b_e (d_int)))) (b_e (d_bin op_mulA s_mul (b_e (d_int)) (b_v 1))))) (b_e (d_int)))) (b_e (d_int)))) (b_e (d_int)))) (a_cons (b_e (d_int)) (a_nil))))))))
theorem sc__law_take : FnScope ["_law_tape_here", "_law_many", "_law_once", "_law_found"] ["_law_tape_here", "_law_many"] (defScope s__law_take) := ⟨rfl, rfl, rfl, by decide +kernel, rfl, by decide +kernel, by decide +kernel⟩
theorem D__law_take (tx : Tx K mg) : Def ⟨He.ga K, al⟩ P w K mg base 1 "_law_take" ["_law_tape_here", "_law_many"] (some 0) f__law_take := by
    obtain ⟨fd, F⟩ := tx.c.def_ 6 (d := dGlob "_law_take" s__law_take)
    have hN := sc__law_take.nd
    refine def_mk (k := 0) F tx.at__law_take sc__law_take rfl rfl (fun _ _ _ _ _ _ us hl => match us, hl with | [_, _], _ => rfl) fun cdv A outer s H E hr => ?_
    delta b__law_take
    exact (ss_cons (s_if (md := []) (t_cmp op_gt s_gt (b_e (d_ix (b_v 0) (b_e (d_int)))) (b_e (d_int))) (ss_cons (s_set (md := []) 3 hN (d_bin op_mod s_mod (b_e (d_ix (b_v 0) (b_e (d_int)))) (b_v 1)))
    (ss_cons (s_setix (md := []) 0 (d_int) (d_bin op_fdiv s_fdiv (b_e (d_ix (b_v 0) (b_e (d_int)))) (b_v 1)))
    (ss_one (s_ret (md := []) (d_var 3))))) (ss_nil))
    (ss_cons (s_setix (md := []) 0 (d_int) (d_bin op_addA s_add (b_e (d_ix (b_v 0) (b_e (d_int)))) (b_e (d_int))))
    (ss_cons (s_set (md := []) 2 hN (d_bin op_mod s_mod (b_e (d_bin op_mulA s_mul (b_e (d_bin op_addA s_add (b_e (d_ix (b_v 0) (b_e (d_int)))) (b_e (d_bin op_mulA s_mul (b_e (d_int)) (b_e (d_ix (b_v 0) (b_e (d_int)))))))) (b_e (d_bin op_addA s_add (b_e (d_int)) (b_e (d_ix (b_v 0) (b_e (d_int)))))))) (b_e (d_int))))
    (ss_cons (s_setix (md := []) 0 (d_int) (d_bin op_mod s_mod (b_e (d_bin op_addA s_add (b_e (d_bin op_mulA s_mul (b_v 2) (b_e (d_bin op_addA s_add (b_e (d_bin op_mod s_mod (b_v 2) (b_e (d_int)))) (b_e (d_int)))))) (b_e (d_ix (b_v 0) (b_e (d_int)))))) (b_e (d_int))))
    (ss_one (s_ret (md := []) (d_bin op_mod s_mod (b_e (d_bin op_fdiv s_fdiv (b_e (d_bin op_mod s_mod (b_e (d_bin op_mulA s_mul (b_e (d_ix (b_v 0) (b_e (d_int)))) (b_e (d_bin op_addA s_add (b_e (d_bin op_mod s_mod (b_e (d_ix (b_v 0) (b_e (d_int)))) (b_e (d_int)))) (b_e (d_int)))))) (b_e (d_int)))) (b_e (d_int)))) (b_v 1))))))))
theorem sc__law_great : FnScope ["_law_tape_here", "_law_way", "_law_any_one"] ["_law_tape_here"] (defScope s__law_great) := ⟨rfl, rfl, rfl, by decide +kernel, rfl, by decide +kernel, by decide +kernel⟩
theorem D__law_great (tx : Tx K mg) : Def ⟨He.ga K, al⟩ P w K mg base 2 "_law_great" ["_law_tape_here"] (some 0) f__law_great := by
    obtain ⟨fd, F⟩ := tx.c.def_ 7 (d := dGlob "_law_great" s__law_great)
    have D__law_take := D__law_take (P := P) (w := w) (base := base) (al := al) tx
    have hN := sc__law_great.nd
    refine def_mk (k := 1) F tx.at__law_great sc__law_great rfl rfl (fun _ _ _ _ _ _ us hl => match us, hl with | [_], _ => rfl) fun cdv A outer s H E hr => ?_
    delta b__law_great
    exact (ss_cons (s_set (md := [0]) 1 hN (d_call D__law_take hr [] (some 0) (a_cons (b_io 0) (a_cons (b_e (d_int)) (a_nil)))))
    (ss_cons (s_set (md := [0]) 2 hN (d_bin op_addA s_add (b_e (d_int)) (b_e (d_call D__law_take hr [] (some 0) (a_cons (b_io 0) (a_cons (b_e (d_int)) (a_nil)))))))
    (ss_one (s_ret (md := [0]) (d_ix (b_e (d_lst (a_cons (b_e (d_ix (b_e (d_lst (a_cons (b_e (d_int)) (a_cons (b_e (d_int)) (a_cons (b_e (d_int)) (a_cons (b_e (d_int)) (a_cons (b_e (d_int)) (a_nil)))))))) (b_e (d_call D__law_take hr [] (some 0) (a_cons (b_io 0) (a_cons (b_e (d_int)) (a_nil))))))) (a_cons (b_e (d_bin op_addA s_add (b_e (d_int)) (b_e (d_call D__law_take hr [] (some 0) (a_cons (b_io 0) (a_cons (b_e (d_int)) (a_nil))))))) (a_cons (b_e (d_var 2)) (a_cons (b_e (d_int)) (a_nil))))))) (b_v 1))))))
theorem sc__law_rows : FnScope ["_law_tape_here", "_law_many", "_law_share", "_law_made_rows", "_law_number", "_law_way", "_law_near", "_law_some", "_law_r", "_law_s", "_law_t"] ["_law_tape_here"] (defScope s__law_rows) := ⟨rfl, rfl, rfl, by decide +kernel, rfl, by decide +kernel, by decide +kernel⟩
theorem D__law_rows (tx : Tx K mg) : Def ⟨He.ga K, al⟩ P w K mg base 3 "_law_rows" ["_law_tape_here"] (some 0) f__law_rows := by
    obtain ⟨fd, F⟩ := tx.c.def_ 8 (d := dGlob "_law_rows" s__law_rows)
    have D__law_take := D__law_take (P := P) (w := w) (base := base) (al := al) tx
    have D__law_great := D__law_great (P := P) (w := w) (base := base) (al := al) tx
    have hN := sc__law_rows.nd
    refine def_mk (k := 2) F tx.at__law_rows sc__law_rows rfl rfl (fun _ _ _ _ _ _ us hl => match us, hl with | [_], _ => rfl) fun cdv A outer s H E hr => ?_
    delta b__law_rows
    exact (ss_cons (s_set (md := [0]) 1 hN (d_if (t_cmp (op_eqA hr.units) s_eq (b_e (d_call D__law_take hr [] (some 0) (a_cons (b_io 0) (a_cons (b_e (d_int)) (a_nil))))) (b_e (d_int))) (d_bin op_addA s_add (b_e (d_int)) (b_e (d_call D__law_take hr [] (some 0) (a_cons (b_io 0) (a_cons (b_e (d_int)) (a_nil)))))) (d_call D__law_take hr [] (some 0) (a_cons (b_io 0) (a_cons (b_e (d_int)) (a_nil))))))
    (ss_cons (s_set (md := [0]) 2 hN (d_ix (b_e (d_lst (a_cons (b_e (d_int)) (a_cons (b_e (d_int)) (a_cons (b_e (d_int)) (a_nil)))))) (b_e (d_call D__law_take hr [] (some 0) (a_cons (b_io 0) (a_cons (b_e (d_int)) (a_nil)))))))
    (ss_cons (s_set (md := []) 3 hN (d_lst (a_nil)))
    (ss_cons (s_for (md := []) [4] PassesOwn.never (i_rng1 tx.f_range (a_cons (b_v 1) (a_nil))) (g_name 4 hN)
    (ss_cons (s_par (md := [0]) 5 8 hN (a_cons (b_e (d_call D__law_take hr [] (some 0) (a_cons (b_io 0) (a_cons (b_e (d_int)) (a_nil))))) (a_cons (b_e (d_call D__law_take hr [] (some 0) (a_cons (b_io 0) (a_cons (b_e (d_int)) (a_nil))))) (a_nil))))
    (ss_cons (s_if (md := []) (t_cmp op_lt s_lt (b_v 5) (b_v 2)) (ss_cons (s_expr (md := [0, 3]) (d_mut 3 PySem.F.slot_list_append PySem.F.type_list_append mt_append s_append [0] (a_cons (b_e (d_tup (a_cons (b_e (d_str)) (a_cons (b_e (d_var 8)) (a_cons (b_e (d_call D__law_great hr [] (some 0) (a_cons (b_io 0) (a_nil)))) (a_nil)))))) (a_nil))))
    (ss_one (s_cont))) (ss_nil))
    (ss_cons (s_set (md := [0]) 5 hN (d_call D__law_take hr [] (some 0) (a_cons (b_io 0) (a_cons (b_e (d_int)) (a_nil)))))
    (ss_cons (s_par (md := [0]) 9 10 hN (a_cons (b_e (d_call D__law_take hr [] (some 0) (a_cons (b_io 0) (a_cons (b_e (d_int)) (a_nil))))) (a_cons (b_e (d_call D__law_take hr [] (some 0) (a_cons (b_io 0) (a_cons (b_e (d_bin op_addA s_add (b_v 1) (b_e (d_int)))) (a_nil))))) (a_nil))))
    (ss_cons (s_set (md := [0]) 6 hN (d_callB (call_max2 rfl) s_max2 boot_max_ tx.f_max (a_cons (b_e (d_int)) (a_cons (b_e (d_callB (call_min2 rfl) s_min2 boot_min_ tx.f_min (a_cons (b_v 1) (a_cons (b_e (d_bin op_sub s_sub (b_e (d_bin op_addA s_add (b_v 4) (b_e (d_call D__law_take hr [] (some 0) (a_cons (b_io 0) (a_cons (b_e (d_int)) (a_nil))))))) (b_e (d_int)))) (a_nil))))) (a_nil)))))
    (ss_cons (s_set (md := [0]) 7 hN (d_lst (a_cons (b_e (d_tup (a_cons (b_e (d_str)) (a_cons (b_e (d_var 8)) (a_cons (b_e (d_call D__law_take hr [] (some 0) (a_cons (b_io 0) (a_cons (b_e (d_int)) (a_nil))))) (a_nil)))))) (a_cons (b_e (d_tup (a_cons (b_e (d_str)) (a_cons (b_e (d_var 8)) (a_cons (b_e (d_var 9)) (a_nil)))))) (a_cons (b_e (d_tup (a_cons (b_e (d_str)) (a_cons (b_e (d_var 8)) (a_cons (b_e (d_var 9)) (a_nil)))))) (a_cons (b_e (d_tup (a_cons (b_e (d_str)) (a_cons (b_e (d_var 8)) (a_nil))))) (a_cons (b_e (d_tup (a_cons (b_e (d_str)) (a_cons (b_e (d_var 6)) (a_nil))))) (a_nil))))))))
    (ss_cons (s_set (md := [0]) 7 hN (d_bin op_addA s_add (b_v 7) (b_e (d_lst (a_cons (b_e (d_tup (a_cons (b_e (d_str)) (a_cons (b_e (d_var 8)) (a_cons (b_e (d_var 6)) (a_nil)))))) (a_cons (b_e (d_tup (a_cons (b_e (d_str)) (a_cons (b_e (d_var 8)) (a_cons (b_e (d_var 10)) (a_nil)))))) (a_cons (b_e (d_tup (a_cons (b_e (d_str)) (a_cons (b_e (d_var 8)) (a_nil))))) (a_cons (b_e (d_ix (b_e (d_lst (a_cons (b_e (d_tup (a_cons (b_e (d_str)) (a_cons (b_e (d_var 10)) (a_nil))))) (a_cons (b_e (d_tup (a_cons (b_e (d_str)) (a_nil)))) (a_nil))))) (b_e (d_call D__law_take hr [] (some 0) (a_cons (b_io 0) (a_cons (b_e (d_int)) (a_nil))))))) (a_nil)))))))))
    (ss_one (s_expr (md := [3]) (d_mut 3 PySem.F.slot_list_append PySem.F.type_list_append mt_append s_append [] (a_cons (b_e (d_ix (b_v 7) (b_v 5))) (a_nil)))))))))))))
    (ss_one (s_ret (md := [3]) (d_mv 3)))))))
theorem sc__law_same : FnScope ["_law_found", "_law_due", "_law_one", "_law_other"] ["_law_found", "_law_due"] (defScope s__law_same) := ⟨rfl, rfl, rfl, by decide +kernel, rfl, by decide +kernel, by decide +kernel⟩
theorem D__law_same (tx : Tx K mg) : ∀ k : Nat, Def ⟨He.ga K, al⟩ P w K mg base (1 + k) "_law_same" ["_law_found", "_law_due"] none (f__law_same k)
  | 0 => by
    obtain ⟨fd, F⟩ := tx.c.def_ 9 (d := dGlob "_law_same" s__law_same)
    exact def_stk F tx.at__law_same (fun _ _ _ _ _ _ us hl => match us, hl with | [_, _], _ => rfl)
  | k + 1 => by
    obtain ⟨fd, F⟩ := tx.c.def_ 9 (d := dGlob "_law_same" s__law_same)
    have Drec := D__law_same tx k
    have hN := sc__law_same.nd
    refine def_mk (k := 1 + k) F tx.at__law_same sc__law_same rfl rfl (fun _ _ _ _ _ _ us hl => match us, hl with | [_, _], _ => rfl) fun cdv A outer s H E hr => ?_
    delta b__law_same
    exact (ss_cons (s_if (md := []) (t_val (d_isi2 .list .tuple tx.f_isinstance tx.f_list tx.f_tuple (by decide +kernel) (by decide +kernel) (b_v 1))) (ss_cons (s_if (md := []) (t_w (w_or (t_cmp (op_neA hr.units) s_ne (b_e (d_isi .list tx.f_isinstance tx.f_list (by decide +kernel) (b_v 0))) (b_e (d_isi .list tx.f_isinstance tx.f_list (by decide +kernel) (b_v 1)))) (w_or1 (t_cmp (op_neA hr.units) s_ne (b_e (d_isi .tuple tx.f_isinstance tx.f_tuple (by decide +kernel) (b_v 0))) (b_e (d_isi .tuple tx.f_isinstance tx.f_tuple (by decide +kernel) (b_v 1))))))) (ss_one (s_ret (md := []) (d_bl))) (ss_nil))
    (ss_cons (s_if (md := []) (t_cmp (op_neA hr.units) s_ne (b_e (d_callB call_len s_len boot_len_ tx.f_len (a_cons (b_v 0) (a_nil)))) (b_e (d_callB call_len s_len boot_len_ tx.f_len (a_cons (b_v 1) (a_nil))))) (ss_one (s_ret (md := []) (d_bl))) (ss_nil))
    (ss_one (s_ret (md := []) (d_callB (cr_all rfl) s_all boot_all_ tx.f_all (a_cons (b_e (d_lc [("_law_one", 2), ("_law_other", 3)] hN (i_zip tx.f_zip (a_cons (b_v 0) (a_cons (b_v 1) (a_nil)))) (by show blkC ["_law_found", "_law_due", "_law_one", "_law_other"] (defScope s__law_same) _ _ = true; decide +kernel) (fun _ _ _ _ _ => g_tup (gs_cons (g_name 2 hN) (gs_cons (g_name 3 hN) (gs_nil)))) (fun _ _ _ _ _ => c_yes) (fun _ _ _ _ _ => d_call Drec hr [] none (a_cons (b_v 2) (a_cons (b_v 3) (a_nil)))))) (a_nil))))))) (ss_nil))
    (ss_cons (s_if (md := []) (t_w (w_or (t_cmp op_isN s_isN (b_v 1) (b_e (d_non))) (w_or1 (t_val (d_isi .str tx.f_isinstance tx.f_str (by decide +kernel) (b_v 1)))))) (ss_one (s_ret (md := []) (d_and (d_cmp (op_eqA hr.units) s_eq (b_v 0) (b_v 1)) (d_one (d_cmp (op_eqA hr.units) s_eq (b_e (d_isi .str tx.f_isinstance tx.f_str (by decide +kernel) (b_v 0))) (b_e (d_isi .str tx.f_isinstance tx.f_str (by decide +kernel) (b_v 1)))))))) (ss_nil))
    (ss_cons (s_if (md := []) (t_val (d_isi .bool tx.f_isinstance tx.f_bool (by decide +kernel) (b_v 1))) (ss_one (s_ret (md := []) (d_and (d_isi .bool tx.f_isinstance tx.f_bool (by decide +kernel) (b_v 0)) (d_one (d_cmp (op_eqA hr.units) s_eq (b_v 0) (b_v 1)))))) (ss_nil))
    (ss_one (s_ret (md := []) (d_and (d_isi .int tx.f_isinstance tx.f_int (by decide +kernel) (b_v 0)) (d_and (d_not (d_isi .bool tx.f_isinstance tx.f_bool (by decide +kernel) (b_v 0))) (d_one (d_cmp (op_eqA hr.units) s_eq (b_v 0) (b_v 1))))))))))
theorem sc_law : FnScope ["_law_script", "_law_k", "_law_tape_here", "_law_rows_here", "_law_many", "_law_number", "_law_kept", "_law_greats", "_law_jumps", "_law_turn", "_law_due", "_law_found", "_law_at", "_law_row"] ["_law_script"] (defScope s_law) := ⟨rfl, rfl, rfl, by decide +kernel, rfl, by decide +kernel, by decide +kernel⟩
theorem D_law (tx : Tx K mg) : Def ⟨He.ga K, al⟩ P w K mg base 14 "law" ["_law_script"] none f_law_k03 := by
    obtain ⟨fd, F⟩ := tx.c.def_ 10 (d := dGlob "law" s_law)
    have D__law_tape := D__law_tape (P := P) (w := w) (base := base) (al := al) tx
    have D__law_rows := D__law_rows (P := P) (w := w) (base := base) (al := al) tx
    have D__law_same := D__law_same (P := P) (w := w) (base := base) (al := al) tx 12
    have D__law_take := D__law_take (P := P) (w := w) (base := base) (al := al) tx
    have D_greats_of := D_greats_of (P := P) (w := w) (base := base) (al := al) tx
    have D_jumps_of := D_jumps_of (P := P) (w := w) (base := base) (al := al) tx
    have D_falls := D_falls (P := P) (w := w) (base := base) (al := al) tx
    have hN := sc_law.nd
    refine def_mk (k := 13) F tx.at_law sc_law rfl rfl (fun _ _ _ _ _ _ us hl => match us, hl with | [_], _ => rfl) fun cdv A outer s H E hr => ?_
    delta b_law_k03
    exact (ss_cons (s_for (md := []) [1] PassesOwn.never (i_rng1 tx.f_range (a_cons (b_e (d_bin op_addA s_add (b_e (d_int)) (b_e (d_callB (call_min2 rfl) s_min2 boot_min_ tx.f_min (a_cons (b_e (d_int)) (a_cons (b_e (d_callB call_len s_len boot_len_ tx.f_len (a_cons (b_v 0) (a_nil)))) (a_nil))))))) (a_nil))) (g_name 1 hN)
    (ss_cons (s_set (md := []) 2 hN (d_call D__law_tape hr [] none (a_cons (b_v 0) (a_cons (b_v 1) (a_nil)))))
    (ss_cons (s_set (md := [2]) 3 hN (d_call D__law_rows hr [] (some 2) (a_cons (b_io 2) (a_nil))))
    (ss_cons (s_set (md := []) 4 hN (d_ld 3 (d_callB call_len s_len boot_len_ tx.f_len (a_cons (b_e (d_lc [("_law_row", 13)] hN (i_seq (b_v 3)) (by show blkC ["_law_script", "_law_k", "_law_tape_here", "_law_rows_here", "_law_many", "_law_number", "_law_kept", "_law_greats", "_law_jumps", "_law_turn", "_law_due", "_law_found", "_law_at", "_law_row"] (defScope s_law) _ _ = true; decide +kernel) (fun _ _ _ _ _ => g_name 13 hN) (fun _ _ _ _ _ => c_if (t_w (w_and (t_cmp (op_eqA hr.units) s_eq (b_e (d_ix (b_v 13) (b_e (d_int)))) (b_e (d_str))) (w_and1 (t_cmp op_gt s_gt (b_e (d_ix (b_v 13) (b_e (d_int)))) (b_e (d_int))))))) (fun _ _ _ _ _ => d_var 13))) (a_nil)))))
    (ss_cons (s_for (md := []) [5] PassesOwn.never (i_seq (b_e (d_bin op_addA s_add (b_e (d_lst (a_cons (b_e (d_int)) (a_cons (b_e (d_int)) (a_nil))))) (b_e (d_bin op_mulA s_mul (b_e (d_lst (a_cons (b_e (d_int)) (a_cons (b_e (d_int)) (a_nil))))) (b_e (d_callTy call_int1 s_int boot_int_ tx.f_int (a_cons (b_e (d_cmp op_lt s_lt (b_v 4) (b_e (d_int)))) (a_nil))))))))) (g_name 5 hN)
    (ss_one (s_expr (md := [2, 3]) (d_mut 3 PySem.F.slot_list_insert PySem.F.type_list_insert mt_insert s_insert [2] (a_cons (b_e (d_call D__law_take hr [] (some 2) (a_cons (b_io 2) (a_cons (b_e (d_bin op_addA s_add (b_e (d_callB call_len s_len boot_len_ tx.f_len (a_cons (b_v 3) (a_nil)))) (b_e (d_int)))) (a_nil))))) (a_cons (b_e (d_tup (a_cons (b_e (d_str)) (a_cons (b_e (d_call D__law_take hr [] (some 2) (a_cons (b_io 2) (a_cons (b_e (d_int)) (a_nil))))) (a_cons (b_e (d_var 5)) (a_nil)))))) (a_nil)))))))
    (ss_cons (s_set (md := []) 6 hN (d_callTy call_list_of s_list boot_list_ tx.f_list (a_cons (b_v 3) (a_nil))))
    (ss_cons (s_setLc (md := []) 7 [("_law_at", 12)] hN (i_rng1 tx.f_range (a_cons (b_e (d_callB call_len s_len boot_len_ tx.f_len (a_cons (b_v 3) (a_nil)))) (a_nil))) (by show blkC ["_law_script", "_law_k", "_law_tape_here", "_law_rows_here", "_law_many", "_law_number", "_law_kept", "_law_greats", "_law_jumps", "_law_turn", "_law_due", "_law_found", "_law_at", "_law_row"] (defScope s_law) _ _ = true; decide +kernel) (fun _ _ _ _ _ => g_name 12 hN) (fun _ _ _ _ _ => c_if (t_w (w_and (t_cmp (op_eqA hr.units) s_eq (b_e (d_ix (b_e (d_ix (b_v 3) (b_v 12))) (b_e (d_int)))) (b_e (d_str))) (w_and1 (t_cmp op_ge s_ge (b_e (d_ix (b_e (d_ix (b_v 3) (b_v 12))) (b_e (d_int)))) (b_e (d_int))))))) (fun _ _ _ _ _ => d_var 12) (sw_true rfl rfl rfl (by decide +kernel)))
    (ss_cons (s_setLc (md := []) 8 [("_law_at", 12)] hN (i_rng1 tx.f_range (a_cons (b_e (d_callB call_len s_len boot_len_ tx.f_len (a_cons (b_v 3) (a_nil)))) (a_nil))) (by show blkC ["_law_script", "_law_k", "_law_tape_here", "_law_rows_here", "_law_many", "_law_number", "_law_kept", "_law_greats", "_law_jumps", "_law_turn", "_law_due", "_law_found", "_law_at", "_law_row"] (defScope s_law) _ _ = true; decide +kernel) (fun _ _ _ _ _ => g_name 12 hN) (fun _ _ _ _ _ => c_if (t_w (w_or (t_cmp (op_eqA hr.units) s_eq (b_e (d_ix (b_e (d_ix (b_v 3) (b_v 12))) (b_e (d_int)))) (b_e (d_str))) (w_or1 (t_cmp (op_eqA hr.units) s_eq (b_e (d_ix (b_e (d_ix (b_v 3) (b_v 12))) (b_e (d_int)))) (b_e (d_str))))))) (fun _ _ _ _ _ => d_var 12) (sw_true rfl rfl rfl (by decide +kernel)))
    (ss_cons (s_for (md := []) [9] PassesOwn.never (i_rng1 tx.f_range (a_cons (b_e (d_int)) (a_nil))) (g_name 9 hN)
    (ss_cons (s_set (md := [3]) 11 hN (d_lst (a_cons (b_e (d_call D_greats_of hr [3] none (a_cons (b_e (d_al 3)) (a_nil)))) (a_cons (b_e (d_call D_jumps_of hr [3] none (a_cons (b_e (d_al 3)) (a_nil)))) (a_nil)))))
    (ss_cons (s_if (md := [7, 8]) (t_w (w_or (t_not (t_val (d_call D__law_same hr [7, 8] none (a_cons (b_v 11) (a_cons (b_e (d_lst (a_cons (b_e (d_al 7)) (a_cons (b_e (d_al 8)) (a_nil))))) (a_nil)))))) (w_or1 (t_cmp (op_neA hr.units) s_ne (b_v 3) (b_v 6))))) (ss_one (s_ret (md := []) (d_bl))) (ss_nil))
    (ss_cons (s_expr (md := [11]) (d_mutP PySem.F.slot_list_append PySem.F.type_list_append mt_append s_append [] (p_ix (p_name 11)) (a_cons (b_e (d_un un_neg s_neg (b_e (d_int)))) (a_nil))))
    (ss_cons (s_expr (md := [11]) (d_mutP0 PySem.F.slot_list_reverse PySem.F.type_list_reverse mt_reverse s_reverse (p_ix (p_name 11))))
    (ss_one (s_expr (md := [11]) (d_mutP PySem.F.slot_list_append PySem.F.type_list_append mt_append s_append [] (p_ix (p_name 11)) (a_cons (b_e (d_int)) (a_nil))))))))))
    (ss_cons (s_setLc (md := [3]) 10 [("_law_row", 13)] hN (i_seq (b_e (d_al 3))) (by show blkC ["_law_script", "_law_k", "_law_tape_here", "_law_rows_here", "_law_many", "_law_number", "_law_kept", "_law_greats", "_law_jumps", "_law_turn", "_law_due", "_law_found", "_law_at", "_law_row"] (defScope s_law) _ _ = true; decide +kernel) (fun _ _ _ _ _ => g_name 13 hN) (fun _ _ _ _ _ => c_yes) (fun _ _ _ _ _ => d_cmp op_inA s_in (b_e (d_ix (b_v 13) (b_e (d_int)))) (b_e (d_tup (a_cons (b_e (d_str)) (a_cons (b_e (d_str)) (a_cons (b_e (d_str)) (a_cons (b_e (d_str)) (a_cons (b_e (d_str)) (a_nil))))))))) (sw_true rfl rfl rfl (by decide +kernel)))
    (ss_one (s_if (md := [3, 10]) (t_not (t_val (d_call D__law_same hr [3, 10] none (a_cons (b_e (d_lc [("_law_row", 13)] hN (i_seq (b_e (d_al 3))) (by show blkC ["_law_script", "_law_k", "_law_tape_here", "_law_rows_here", "_law_many", "_law_number", "_law_kept", "_law_greats", "_law_jumps", "_law_turn", "_law_due", "_law_found", "_law_at", "_law_row"] (defScope s_law) _ _ = true; decide +kernel) (fun _ _ _ _ _ => g_name 13 hN) (fun _ _ _ _ _ => c_yes) (fun _ _ _ _ _ => d_call D_falls hr [] none (a_cons (b_v 13) (a_nil))))) (a_cons (b_e (d_al 10)) (a_nil)))))) (ss_one (s_ret (md := []) (d_bl))) (ss_nil)))))))))))))
    (ss_one (s_ret (md := []) (d_bl))))
end
end Lk03
set_option maxHeartbeats 0
namespace Lk03
open PySem PySem.Spec PyProof.Rows L2 QL NP
def names0 : List PySem.Str := ["JUMPS", "MOST_SMALL", "__name__", "_law_cell_at", "_law_great", "_law_rows", "_law_same", "_law_take", "_law_tape", "falls", "greats_of", "is_great", "jumps_of"]
def names : List PySem.Str := names0
abbrev Rw : PySem.W.OpenRow := PySem.W.OpenLaw.row PySem.Challenge.rw_nearpool_k03_greats_jumps_falls
abbrev hk : PySem.W.Hook := hookQ 5 fa gl fn
def ob (s : PySem.W.SharedT) : AlQ := obsQG 5 fa gl fn (HandSHeadRun.getT s)
theorem ob_eq (s : PySem.W.SharedT) : ob s = hk.obs s.abs := obsQG_eq (HandSHeadRun.getT_eq s)
theorem run (w : World) : HandSHeadRun.RunEq Rw (PySem.W.view Rw.prog [14]) hk ob 6000 names w := by
  intro os
  kernel_rfl
end Lk03
set_option maxHeartbeats 0
open PySem PySem.W PySem.Calls PyProof.Rows
theorem PySem.Challenge.cw_nearpool_k03_greats_jumps_falls_holds : PySem.Challenge.rw_nearpool_k03_greats_jumps_falls.Holds := by
  w_on; o_law
  refine HandSHeadRun.head_any (r := OpenLaw.row PySem.Challenge.rw_nearpool_k03_greats_jumps_falls) (q := view (OpenLaw.row PySem.Challenge.rw_nearpool_k03_greats_jumps_falls).prog [14]) (H := Lk03.hk) (ob := Lk03.ob) (M := 6000) (loose := Lk03.names) (d := HandSHeadRun.topDef (OpenLaw.row PySem.Challenge.rw_nearpool_k03_greats_jumps_falls).prog 14) (kwd := []) Lk03.ob_eq
    (by kernel_rfl) (fun s => by kernel_rfl) Lk03.run (by kernel_rfl) (by kernel_rfl) (by kernel_rfl) (by rfl) (by first | assumption | decide +kernel) (by decide +kernel) ⟨rfl, rfl, rfl, rfl, rfl, by decide +kernel⟩ ?hw ?hc
  case hw => w_witness2
  case hc =>
    refine L2.walk_ofE (l := PySem.Challenge.rw_nearpool_k03_greats_jumps_falls) (n := 63) (k := 14) (x := "_law_script") (CX := L2.CX0) rfl (by decide) (by kernel_rfl) ⟨rfl, by decide, by decide⟩ ?F (fun _ _ _ _ z => z)
    intro w mg fa h Y G hmg0
    obtain ⟨K, KX, c⟩ := Y
    have hmg : mg ("law" : PySem.Str) = some (.ref fa) := by
      have e : (HandSHeadRun.topDef (OpenLaw.row PySem.Challenge.rw_nearpool_k03_greats_jumps_falls).prog 14).name = ("law" : PySem.Str) := by kernel_rfl
      rw [← e]
      exact hmg0
    have tx := Lk03.tx_mk KX G c
    have ef := hmg.symm.trans tx.at_law
    cases ef
    obtain ⟨fd, F⟩ := tx.c.def_ 10 (d := Lk03.dGlob "law" Lk03.s_law)
    have b := L2.FunD.bindsA (ps := ["_law_script"]) F fun _ _ _ _ _ _ us hl => match us, hl with | [_], _ => rfl
    refine ⟨K, fd, QL.spOf K ⟨He.ga K, 0⟩ none NP.f_law_k03, KX, fun s v => b s [v] rfl, fun H a ns hl _ hS => QL.law_sp hS (NP.law_true ns hl), fun base _ _ => ?_⟩
    exact (Lk03.D_law (P := (PySem.Challenge.rw_nearpool_k03_greats_jumps_falls).prog) (w := w) (base := base) (al := 0) tx).of F
