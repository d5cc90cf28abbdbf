import PyProof.Rows.All
import Wide.All
import OpenK.AllK
import Wide.FinOn
import KE.KStateDown
import HandS.ForMost
import HandS.Wide
import HandS.IsInst
import HandS.Deep
import HandS.Walk
import HandS.Defaults
import HandS.TryOnly
import HandS.List
import HandS.More
import HandS.TupAny
import HandS.SortInts
import HandS.Zip
import KE.GoesZip
import KE.GoesMore
import KE.KTurns
import HandS.HeadHook2
import HandS.Style
import HandS.HeadEnd
import HandS.Conv
import HandS.Head0
import HandS.Head1
import HandS.Head2
import HandS.Small
import KE.KDictZip
import HandS.SetFor
import HandS.Strs
import PyProof.Rows.ReprR
import PyProof.CallStr
import PyProof.CallFns
import KE.KTupSum
import HandS.MapJoin
import PyProof.MaxThree
import HandS.Flt
import KE.KIndexOf
import HandS.Codes
import HandS.Replace
import HandS.Dict
import PyProof.DictUpdate
import PySem.Challenge.RW_nearpool_k40_texts_read
set_option Elab.async false
set_option linter.all false
set_option maxRecDepth 100000
namespace QL
open PySem L2

inductive T where
  | non | bl (b : Bool) | int (i : Int) | str (s : Str)
  | tup (xs : List T) | pr (xs : List T) | lst (o : Bool) (xs : List T) | lk (xs : List T)
  | dct (o : Bool) (kvs : List (Key × T))
  | obj (c : Str) (fs : List (Str × T))
  | hole
/-- where classes stand; where the list stands that a name of the def was lent -/
structure Ca where
  cl : Str → Addr
  al : Addr

mutual
/-- has owned parts -/
def T.ow : T → Bool
  | .tup xs => T.owl xs
  | .pr xs => T.owl xs
  | .lk xs => T.owl xs
  | .lst o xs => o || T.owl xs
  | .dct o kvs => o || T.owk kvs
  | .obj _ _ => true
  | _ => false
def T.owl : List T → Bool
  | [] => false
  | t :: ts => T.ow t || T.owl ts
def T.owk : List (Key × T) → Bool
  | [] => false
  | (_, t) :: ts => T.ow t || T.owk ts
end
mutual
/-- no instance within -/
def T.nob : T → Bool
  | .tup xs => T.nobl xs
  | .pr xs => T.nobl xs
  | .lk xs => T.nobl xs
  | .lst _ xs => T.nobl xs
  | .dct _ kvs => T.nobk kvs
  | .obj _ _ => false
  | _ => true
def T.nobl : List T → Bool
  | [] => true
  | t :: ts => T.nob t && T.nobl ts
def T.nobk : List (Key × T) → Bool
  | [] => true
  | (_, t) :: ts => T.nob t && T.nobk ts
end
mutual
/-- no frozen list or dict within -/
def T.nfz : T → Bool
  | .tup xs => T.nfzl xs
  | .pr xs => T.nfzl xs
  | .lk _ => false
  | .lst o xs => o && T.nfzl xs
  | .dct o kvs => o && T.nfzk kvs
  | .obj _ fs => T.nfzf fs
  | _ => true
def T.nfzl : List T → Bool
  | [] => true
  | t :: ts => T.nfz t && T.nfzl ts
def T.nfzk : List (Key × T) → Bool
  | [] => true
  | (_, t) :: ts => T.nfz t && T.nfzk ts
def T.nfzf : List (Str × T) → Bool
  | [] => true
  | (_, t) :: ts => T.nfz t && T.nfzf ts
end
mutual
/-- frozen -/
def T.fz : T → T
  | .tup xs => .tup (T.fzl xs)
  | .pr xs => .pr (T.fzl xs)
  | .lk xs => .lk (T.fzl xs)
  | .lst _ xs => .lst false (T.fzl xs)
  | .dct _ kvs => .dct false (T.fzk kvs)
  | .obj c fs => .obj c fs
  | .hole => .hole
  | .non => .non
  | .bl b => .bl b
  | .int i => .int i
  | .str s => .str s
def T.fzl : List T → List T
  | [] => []
  | t :: ts => T.fz t :: T.fzl ts
def T.fzk : List (Key × T) → List (Key × T)
  | [] => []
  | (k, t) :: ts => (k, T.fz t) :: T.fzk ts
end

/-- a part of an abstract heap -/
def Sub (F H : Hp) : Prop := ∀ a o, F a = some o → H a = some o
theorem Sub.refl (H : Hp) : Sub H H := fun _ _ h => h
theorem Sub.trans {F G H : Hp} (a : Sub F G) (b : Sub G H) : Sub F H := fun x o h => b x o (a x o h)
theorem Sub.rd {F H : Hp} {a : Addr} {u : HO} (s : Sub F H) (h : Rd F a u) : Rd H a u := by
  rcases h with h | ⟨o, h⟩
  · exact .inl (s _ _ h)
  · exact .inr ⟨o, s _ _ h⟩
theorem Sub.sqL {K : PySem.W.Frag} {F H : Hp} {a : Addr} {xs : List V} (s : Sub F H) (h : SqL K F a xs) : SqL K H a xs := by
  rcases h with h | h
  · exact .inl (s.rd h)
  · exact .inr h
/-- a tuple that has no dict of its own -/
def SqN (K : PySem.W.Frag) (H : Hp) (a : Addr) (xs : List V) : Prop :=
  (∃ o : Obj, H a = some (.frz o (.tup xs)) ∧ o.dict = none) ∨
    ∃ (o : Obj) (its : Array Value) (n : Nat), K.lookup a = some o ∧ o.cls = .type "tuple" ∧ o.data = .seq its n ∧ its.size ≤ sizeLine ∧ Vals xs its.toList ∧ o.dict = none
theorem SqN.of {K : PySem.W.Frag} {H : Hp} {a : Addr} {xs : List V} {o : Obj} (h : H a = some (.frz o (.tup xs))) (d : o.dict = none) : SqN K H a xs := .inl ⟨o, h, d⟩
theorem SqN.t {K : PySem.W.Frag} {H : Hp} {a : Addr} {xs : List V} (h : SqN K H a xs) : SqT K H a xs := by
  rcases h with ⟨o, h, _⟩ | ⟨o, its, n, h1, h2, h3, h4, h5, _⟩
  · exact .inl (.inr ⟨o, h⟩)
  · exact .inr ⟨o, its, n, h1, h2, h3, h4, h5⟩
theorem Sub.sqN {K : PySem.W.Frag} {F H : Hp} {a : Addr} {xs : List V} (s : Sub F H) (h : SqN K F a xs) : SqN K H a xs := h.imp (fun ⟨o, z, d⟩ => ⟨o, s _ _ z, d⟩) id
theorem Sub.sqT {K : PySem.W.Frag} {F H : Hp} {a : Addr} {xs : List V} (s : Sub F H) (h : SqT K F a xs) : SqT K H a xs := by
  rcases h with h | h
  · exact .inl (s.rd h)
  · exact .inr h

mutual
/-- the value v stands for t; F: what is frozen; fp: the owned addresses -/
def Rep (K : PySem.W.Frag) (ca : Ca) (F H : Hp) : T → V → List Addr → Prop
  | .non, v, fp => v = .non ∧ fp = []
  | .bl b, v, fp => v = .bl b ∧ fp = []
  | .int i, v, fp => v = .int i ∧ fp = []
  | .str s, v, fp => v = .str s ∧ fp = []
  | .tup xs, v, fp => ∃ a vs, v = .ref a ∧ SqN K F a vs ∧ Reps K ca F H xs vs fp
  | .pr xs, v, fp => ∃ a vs, v = .ref a ∧ SqT K F a vs ∧ Reps K ca F H xs vs fp
  | .lk xs, v, fp => ∃ a vs, v = .ref a ∧ SqL K F a vs ∧ Reps K ca F H xs vs [] ∧ fp = []
  | .lst false xs, v, fp => ∃ a vs, v = .ref a ∧ F a = some (.lst vs) ∧ Reps K ca F H xs vs [] ∧ fp = []
  | .lst true xs, v, fp => ∃ a vs f, v = .ref a ∧ H a = some (.lst vs) ∧ F a = none ∧ Reps K ca F H xs vs f ∧ fp = a :: f
  | .dct false kvs, v, fp => ∃ a ks, v = .ref a ∧ Rd F a (.dK ks) ∧ Repk K ca F H kvs ks [] ∧ fp = []
  | .dct true kvs, v, fp => ∃ a ks f, v = .ref a ∧ H a = some (.dK ks) ∧ F a = none ∧ Repk K ca F H kvs ks f ∧ fp = a :: f
  | .obj c fs, v, fp => ∃ a dx gs f, v = .ref a ∧ H a = some (.ins (ca.cl c) dx gs) ∧ F a = none ∧ Repf K ca F H fs gs f ∧ fp = a :: f
  | .hole, v, fp => v = .ref ca.al ∧ fp = []
def Reps (K : PySem.W.Frag) (ca : Ca) (F H : Hp) : List T → List V → List Addr → Prop
  | [], vs, fp => vs = [] ∧ fp = []
  | t :: ts, vs, fp => ∃ v us f g, vs = v :: us ∧ Rep K ca F H t v f ∧ Reps K ca F H ts us g ∧ fp = f ++ g
def Repk (K : PySem.W.Frag) (ca : Ca) (F H : Hp) : List (Key × T) → List (Key × V) → List Addr → Prop
  | [], vs, fp => vs = [] ∧ fp = []
  | (k, t) :: ts, vs, fp => ∃ v us f g, vs = (k, v) :: us ∧ Rep K ca F H t v f ∧ Repk K ca F H ts us g ∧ fp = f ++ g
def Repf (K : PySem.W.Frag) (ca : Ca) (F H : Hp) : List (Str × T) → List (Str × V) → List Addr → Prop
  | [], vs, fp => vs = [] ∧ fp = []
  | (k, t) :: ts, vs, fp => ∃ v us f g, vs = (k, v) :: us ∧ Rep K ca F H t v f ∧ Repf K ca F H ts us g ∧ fp = f ++ g
end

section
variable {K : PySem.W.Frag} {ca : Ca} {F F' H H' : Hp}

mutual
theorem Rep.go (e : Sub F F') : ∀ (t : T) {v : V} {fp : List Addr}, Rep K ca F H t v fp → (∀ a ∈ fp, H' a = H a) → (∀ a ∈ fp, F' a = none) → Rep K ca F' H' t v fp
  | .non, _, _, h, _, _ => by simpa only [Rep] using h
  | .bl _, _, _, h, _, _ => by simpa only [Rep] using h
  | .int _, _, _, h, _, _ => by simpa only [Rep] using h
  | .str _, _, _, h, _, _ => by simpa only [Rep] using h
  | .hole, _, _, h, _, _ => by simpa only [Rep] using h
  | .tup xs, _, _, h, h1, h2 => by
    simp only [Rep] at h ⊢
    obtain ⟨a, vs, e1, s, r⟩ := h
    exact ⟨a, vs, e1, e.sqN s, Reps.go e xs r h1 h2⟩
  | .pr xs, _, _, h, h1, h2 => by
    simp only [Rep] at h ⊢
    obtain ⟨a, vs, e1, s, r⟩ := h
    exact ⟨a, vs, e1, e.sqT s, Reps.go e xs r h1 h2⟩
  | .lk xs, _, _, h, h1, h2 => by
    simp only [Rep] at h ⊢
    obtain ⟨a, vs, e1, s, r, e2⟩ := h
    exact ⟨a, vs, e1, e.sqL s, Reps.go e xs r (fun _ z => nomatch z) (fun _ z => nomatch z), e2⟩
  | .lst false xs, _, _, h, h1, h2 => by
    simp only [Rep] at h ⊢
    obtain ⟨a, vs, e1, s, r, e2⟩ := h
    exact ⟨a, vs, e1, e _ _ s, Reps.go e xs r (fun _ z => nomatch z) (fun _ z => nomatch z), e2⟩
  | .lst true xs, _, _, h, h1, h2 => by
    simp only [Rep] at h ⊢
    obtain ⟨a, vs, f, e1, s, n, r, e2⟩ := h
    subst e2
    exact ⟨a, vs, f, e1, (h1 a List.mem_cons_self).trans s, h2 a List.mem_cons_self, Reps.go e xs r (fun b hb => h1 b (List.mem_cons_of_mem _ hb)) (fun b hb => h2 b (List.mem_cons_of_mem _ hb)), rfl⟩
  | .dct false kvs, _, _, h, h1, h2 => by
    simp only [Rep] at h ⊢
    obtain ⟨a, ks, e1, s, r, e2⟩ := h
    exact ⟨a, ks, e1, e.rd s, Repk.go e kvs r (fun _ z => nomatch z) (fun _ z => nomatch z), e2⟩
  | .dct true kvs, _, _, h, h1, h2 => by
    simp only [Rep] at h ⊢
    obtain ⟨a, ks, f, e1, s, n, r, e2⟩ := h
    subst e2
    exact ⟨a, ks, f, e1, (h1 a List.mem_cons_self).trans s, h2 a List.mem_cons_self, Repk.go e kvs r (fun b hb => h1 b (List.mem_cons_of_mem _ hb)) (fun b hb => h2 b (List.mem_cons_of_mem _ hb)), rfl⟩
  | .obj c fs, _, _, h, h1, h2 => by
    simp only [Rep] at h ⊢
    obtain ⟨a, dx, gs, f, e1, s, n, r, e2⟩ := h
    subst e2
    exact ⟨a, dx, gs, f, e1, (h1 a List.mem_cons_self).trans s, h2 a List.mem_cons_self, Repf.go e fs r (fun b hb => h1 b (List.mem_cons_of_mem _ hb)) (fun b hb => h2 b (List.mem_cons_of_mem _ hb)), rfl⟩
theorem Reps.go (e : Sub F F') : ∀ (ts : List T) {vs : List V} {fp : List Addr}, Reps K ca F H ts vs fp → (∀ a ∈ fp, H' a = H a) → (∀ a ∈ fp, F' a = none) → Reps K ca F' H' ts vs fp
  | [], _, _, h, _, _ => by simpa only [Reps] using h
  | t :: ts, _, _, h, h1, h2 => by
    simp only [Reps] at h ⊢
    obtain ⟨v, us, f, g, e1, r, rs, e2⟩ := h
    subst e2
    exact ⟨v, us, f, g, e1, Rep.go e t r (fun b hb => h1 b (List.mem_append_left _ hb)) (fun b hb => h2 b (List.mem_append_left _ hb)), Reps.go e ts rs (fun b hb => h1 b (List.mem_append_right _ hb)) (fun b hb => h2 b (List.mem_append_right _ hb)), rfl⟩
theorem Repk.go (e : Sub F F') : ∀ (ts : List (Key × T)) {vs : List (Key × V)} {fp : List Addr}, Repk K ca F H ts vs fp → (∀ a ∈ fp, H' a = H a) → (∀ a ∈ fp, F' a = none) → Repk K ca F' H' ts vs fp
  | [], _, _, h, _, _ => by simpa only [Repk] using h
  | (k, t) :: ts, _, _, h, h1, h2 => by
    simp only [Repk] at h ⊢
    obtain ⟨v, us, f, g, e1, r, rs, e2⟩ := h
    subst e2
    exact ⟨v, us, f, g, e1, Rep.go e t r (fun b hb => h1 b (List.mem_append_left _ hb)) (fun b hb => h2 b (List.mem_append_left _ hb)), Repk.go e ts rs (fun b hb => h1 b (List.mem_append_right _ hb)) (fun b hb => h2 b (List.mem_append_right _ hb)), rfl⟩
theorem Repf.go (e : Sub F F') : ∀ (ts : List (Str × T)) {vs : List (Str × V)} {fp : List Addr}, Repf K ca F H ts vs fp → (∀ a ∈ fp, H' a = H a) → (∀ a ∈ fp, F' a = none) → Repf K ca F' H' ts vs fp
  | [], _, _, h, _, _ => by simpa only [Repf] using h
  | (k, t) :: ts, _, _, h, h1, h2 => by
    simp only [Repf] at h ⊢
    obtain ⟨v, us, f, g, e1, r, rs, e2⟩ := h
    subst e2
    exact ⟨v, us, f, g, e1, Rep.go e t r (fun b hb => h1 b (List.mem_append_left _ hb)) (fun b hb => h2 b (List.mem_append_left _ hb)), Repf.go e ts rs (fun b hb => h1 b (List.mem_append_right _ hb)) (fun b hb => h2 b (List.mem_append_right _ hb)), rfl⟩
end

mutual
/-- frozen: what it owned is now known as it stands -/
theorem Rep.frz (e : Sub F F') : ∀ (t : T) {v : V} {fp : List Addr}, t.nob = true → Rep K ca F H t v fp → (∀ a ∈ fp, F' a = H a) → Rep K ca F' H' t.fz v []
  | .non, _, _, _, h, _ => by simp only [Rep, T.fz] at h ⊢; exact ⟨h.1, by trivial⟩
  | .bl _, _, _, _, h, _ => by simp only [Rep, T.fz] at h ⊢; exact ⟨h.1, by trivial⟩
  | .int _, _, _, _, h, _ => by simp only [Rep, T.fz] at h ⊢; exact ⟨h.1, by trivial⟩
  | .str _, _, _, _, h, _ => by simp only [Rep, T.fz] at h ⊢; exact ⟨h.1, by trivial⟩
  | .tup xs, _, _, n, h, h1 => by
    simp only [Rep, T.fz, T.nob] at h n ⊢
    obtain ⟨a, vs, e1, s, r⟩ := h
    exact ⟨a, vs, e1, e.sqN s, Reps.frz e xs n r h1⟩
  | .pr xs, _, _, n, h, h1 => by
    simp only [Rep, T.fz, T.nob] at h n ⊢
    obtain ⟨a, vs, e1, s, r⟩ := h
    exact ⟨a, vs, e1, e.sqT s, Reps.frz e xs n r h1⟩
  | .lk xs, _, _, n, h, h1 => by
    simp only [Rep, T.fz, T.nob] at h n ⊢
    obtain ⟨a, vs, e1, s, r, e2⟩ := h
    exact ⟨a, vs, e1, e.sqL s, Reps.frz e xs n r (fun _ z => nomatch z), by trivial⟩
  | .lst false xs, _, _, n, h, h1 => by
    simp only [Rep, T.fz, T.nob] at h n ⊢
    obtain ⟨a, vs, e1, s, r, e2⟩ := h
    exact ⟨a, vs, e1, e _ _ s, Reps.frz e xs n r (fun _ z => nomatch z), by trivial⟩
  | .lst true xs, _, _, n, h, h1 => by
    simp only [Rep, T.fz, T.nob] at h n ⊢
    obtain ⟨a, vs, f, e1, s, _, r, e2⟩ := h
    subst e2
    exact ⟨a, vs, e1, (h1 a List.mem_cons_self).trans s, Reps.frz e xs n r (fun b hb => h1 b (List.mem_cons_of_mem _ hb)), by trivial⟩
  | .dct false kvs, _, _, n, h, h1 => by
    simp only [Rep, T.fz, T.nob] at h n ⊢
    obtain ⟨a, ks, e1, s, r, e2⟩ := h
    exact ⟨a, ks, e1, e.rd s, Repk.frz e kvs n r (fun _ z => nomatch z), by trivial⟩
  | .dct true kvs, _, _, n, h, h1 => by
    simp only [Rep, T.fz, T.nob] at h n ⊢
    obtain ⟨a, ks, f, e1, s, _, r, e2⟩ := h
    subst e2
    exact ⟨a, ks, e1, Rd.of ((h1 a List.mem_cons_self).trans s), Repk.frz e kvs n r (fun b hb => h1 b (List.mem_cons_of_mem _ hb)), by trivial⟩
  | .obj c fs, _, _, n, h, h1 => by simp [T.nob] at n
  | .hole, _, _, n, h, h1 => by
    simp only [Rep, T.fz] at h ⊢
    exact ⟨h.1, by trivial⟩
theorem Reps.frz (e : Sub F F') : ∀ (ts : List T) {vs : List V} {fp : List Addr}, T.nobl ts = true → Reps K ca F H ts vs fp → (∀ a ∈ fp, F' a = H a) → Reps K ca F' H' (T.fzl ts) vs []
  | [], _, _, _, h, _ => by simp only [Reps, T.fzl] at h ⊢; exact ⟨h.1, by trivial⟩
  | t :: ts, _, _, n, h, h1 => by
    simp only [Reps, T.fzl, T.nobl, Bool.and_eq_true] at h n ⊢
    obtain ⟨v, us, f, g, e1, r, rs, e2⟩ := h
    subst e2
    exact ⟨v, us, [], [], e1, Rep.frz e t n.1 r (fun b hb => h1 b (List.mem_append_left _ hb)), Reps.frz e ts n.2 rs (fun b hb => h1 b (List.mem_append_right _ hb)), by trivial⟩
theorem Repk.frz (e : Sub F F') : ∀ (ts : List (Key × T)) {vs : List (Key × V)} {fp : List Addr}, T.nobk ts = true → Repk K ca F H ts vs fp → (∀ a ∈ fp, F' a = H a) → Repk K ca F' H' (T.fzk ts) vs []
  | [], _, _, _, h, _ => by simp only [Repk, T.fzk] at h ⊢; exact ⟨h.1, by trivial⟩
  | (k, t) :: ts, _, _, n, h, h1 => by
    simp only [Repk, T.fzk, T.nobk, Bool.and_eq_true] at h n ⊢
    obtain ⟨v, us, f, g, e1, r, rs, e2⟩ := h
    subst e2
    exact ⟨v, us, [], [], e1, Rep.frz e t n.1 r (fun b hb => h1 b (List.mem_append_left _ hb)), Repk.frz e ts n.2 rs (fun b hb => h1 b (List.mem_append_right _ hb)), by trivial⟩
end

mutual
/-- nothing owned -/
theorem Rep.pure_fp : ∀ (t : T) {v : V} {fp : List Addr}, t.ow = false → Rep K ca F H t v fp → fp = []
  | .non, _, _, _, h => by simp only [Rep] at h; exact h.2
  | .bl _, _, _, _, h => by simp only [Rep] at h; exact h.2
  | .int _, _, _, _, h => by simp only [Rep] at h; exact h.2
  | .str _, _, _, _, h => by simp only [Rep] at h; exact h.2
  | .hole, _, _, _, h => by simp only [Rep] at h; exact h.2
  | .tup xs, _, _, n, h => by
    simp only [Rep, T.ow] at h n
    obtain ⟨a, vs, e1, s, r⟩ := h
    exact Reps.pure_fp xs n r
  | .pr xs, _, _, n, h => by
    simp only [Rep, T.ow] at h n
    obtain ⟨a, vs, e1, s, r⟩ := h
    exact Reps.pure_fp xs n r
  | .lk xs, _, _, n, h => by
    simp only [Rep] at h
    obtain ⟨a, vs, e1, s, r, e2⟩ := h
    exact e2
  | .lst false xs, _, _, n, h => by
    simp only [Rep] at h
    obtain ⟨a, vs, e1, s, r, e2⟩ := h
    exact e2
  | .lst true xs, _, _, n, h => by simp [T.ow] at n
  | .dct false kvs, _, _, n, h => by
    simp only [Rep] at h
    obtain ⟨a, vs, e1, s, r, e2⟩ := h
    exact e2
  | .dct true xs, _, _, n, h => by simp [T.ow] at n
  | .obj _ _, _, _, n, h => by simp [T.ow] at n
theorem Reps.pure_fp : ∀ (ts : List T) {vs : List V} {fp : List Addr}, T.owl ts = false → Reps K ca F H ts vs fp → fp = []
  | [], _, _, _, h => by simp only [Reps] at h; exact h.2
  | t :: ts, _, _, n, h => by
    simp only [Reps, T.owl, Bool.or_eq_false_iff] at h n
    obtain ⟨v, us, f, g, e1, r, rs, e2⟩ := h
    rw [e2, Rep.pure_fp t n.1 r, Reps.pure_fp ts n.2 rs]
    rfl
end

mutual
/-- what is owned is tracked and not frozen -/
theorem Rep.alive : ∀ (t : T) {v : V} {fp : List Addr}, Rep K ca F H t v fp → ∀ a ∈ fp, H a ≠ none ∧ F a = none
  | .non, _, _, h, a, ha => by simp only [Rep] at h; rw [h.2] at ha; cases ha
  | .bl _, _, _, h, a, ha => by simp only [Rep] at h; rw [h.2] at ha; cases ha
  | .int _, _, _, h, a, ha => by simp only [Rep] at h; rw [h.2] at ha; cases ha
  | .str _, _, _, h, a, ha => by simp only [Rep] at h; rw [h.2] at ha; cases ha
  | .hole, _, _, h, a, ha => by simp only [Rep] at h; rw [h.2] at ha; cases ha
  | .tup xs, _, _, h, b, hb => by
    simp only [Rep] at h
    obtain ⟨a, vs, e1, s, r⟩ := h
    exact Reps.alive xs r b hb
  | .pr xs, _, _, h, b, hb => by
    simp only [Rep] at h
    obtain ⟨a, vs, e1, s, r⟩ := h
    exact Reps.alive xs r b hb
  | .lk xs, _, _, h, b, hb => by
    simp only [Rep] at h
    obtain ⟨a, vs, e1, s, r, e2⟩ := h
    rw [e2] at hb; cases hb
  | .lst false xs, _, _, h, b, hb => by
    simp only [Rep] at h
    obtain ⟨a, vs, e1, s, r, e2⟩ := h
    rw [e2] at hb; cases hb
  | .lst true xs, _, _, h, b, hb => by
    simp only [Rep] at h
    obtain ⟨a, vs, f, e1, s, n, r, e2⟩ := h
    rw [e2] at hb
    rcases List.mem_cons.mp hb with rfl | hb
    · exact ⟨by rw [s]; simp, n⟩
    · exact Reps.alive xs r b hb
  | .dct false xs, _, _, h, b, hb => by
    simp only [Rep] at h
    obtain ⟨a, vs, e1, s, r, e2⟩ := h
    rw [e2] at hb; cases hb
  | .dct true xs, _, _, h, b, hb => by
    simp only [Rep] at h
    obtain ⟨a, vs, f, e1, s, n, r, e2⟩ := h
    rw [e2] at hb
    rcases List.mem_cons.mp hb with rfl | hb
    · exact ⟨by rw [s]; simp, n⟩
    · exact Repk.alive xs r b hb
  | .obj _ fs, _, _, h, b, hb => by
    simp only [Rep] at h
    obtain ⟨a, dx, vs, f, e1, s, n, r, e2⟩ := h
    rw [e2] at hb
    rcases List.mem_cons.mp hb with rfl | hb
    · exact ⟨by rw [s]; simp, n⟩
    · exact Repf.alive fs r b hb
theorem Reps.alive : ∀ (ts : List T) {vs : List V} {fp : List Addr}, Reps K ca F H ts vs fp → ∀ a ∈ fp, H a ≠ none ∧ F a = none
  | [], _, _, h, a, ha => by simp only [Reps] at h; rw [h.2] at ha; cases ha
  | t :: ts, _, _, h, b, hb => by
    simp only [Reps] at h
    obtain ⟨v, us, f, g, e1, r, rs, e2⟩ := h
    rw [e2] at hb
    rcases List.mem_append.mp hb with hb | hb
    · exact Rep.alive t r b hb
    · exact Reps.alive ts rs b hb
theorem Repk.alive : ∀ (ts : List (Key × T)) {vs : List (Key × V)} {fp : List Addr}, Repk K ca F H ts vs fp → ∀ a ∈ fp, H a ≠ none ∧ F a = none
  | [], _, _, h, a, ha => by simp only [Repk] at h; rw [h.2] at ha; cases ha
  | (k, t) :: ts, _, _, h, b, hb => by
    simp only [Repk] at h
    obtain ⟨v, us, f, g, e1, r, rs, e2⟩ := h
    rw [e2] at hb
    rcases List.mem_append.mp hb with hb | hb
    · exact Rep.alive t r b hb
    · exact Repk.alive ts rs b hb
theorem Repf.alive : ∀ (ts : List (Str × T)) {vs : List (Str × V)} {fp : List Addr}, Repf K ca F H ts vs fp → ∀ a ∈ fp, H a ≠ none ∧ F a = none
  | [], _, _, h, a, ha => by simp only [Repf] at h; rw [h.2] at ha; cases ha
  | (k, t) :: ts, _, _, h, b, hb => by
    simp only [Repf] at h
    obtain ⟨v, us, f, g, e1, r, rs, e2⟩ := h
    rw [e2] at hb
    rcases List.mem_append.mp hb with hb | hb
    · exact Rep.alive t r b hb
    · exact Repf.alive ts rs b hb
end

mutual
/-- what holds no frozen list leans on tuples alone -/
theorem Rep.unb (e : ∀ a xs o, F a = some o → (o = .tup xs ∨ ∃ ob, o = .frz ob (.tup xs)) → F' a = some o) : ∀ (t : T) {v : V} {fp : List Addr}, t.nfz = true → Rep K ca F H t v fp → (∀ a ∈ fp, F' a = none) → Rep K ca F' H t v fp
  | .non, _, _, _, h, _ => by simpa only [Rep] using h
  | .bl _, _, _, _, h, _ => by simpa only [Rep] using h
  | .int _, _, _, _, h, _ => by simpa only [Rep] using h
  | .str _, _, _, _, h, _ => by simpa only [Rep] using h
  | .hole, _, _, _, h, _ => by simpa only [Rep] using h
  | .tup xs, _, _, n, h, h2 => by
    simp only [Rep, T.nfz] at h n ⊢
    obtain ⟨a, vs, e1, s, r⟩ := h
    exact ⟨a, vs, e1, s.imp (fun ⟨o, z, d⟩ => ⟨o, e _ _ _ z (.inr ⟨_, rfl⟩), d⟩) id, Reps.unb e xs n r h2⟩
  | .pr xs, _, _, n, h, h2 => by
    simp only [Rep, T.nfz] at h n ⊢
    obtain ⟨a, vs, e1, s, r⟩ := h
    exact ⟨a, vs, e1, s.imp (fun z => z.imp (fun z => e _ _ _ z (.inl rfl)) fun ⟨o, z⟩ => ⟨o, e _ _ _ z (.inr ⟨_, rfl⟩)⟩) id, Reps.unb e xs n r h2⟩
  | .lk xs, _, _, n, h, h2 => by simp [T.nfz] at n
  | .lst false xs, _, _, n, h, h2 => by simp [T.nfz] at n
  | .lst true xs, _, _, n, h, h2 => by
    simp only [Rep, T.nfz, Bool.true_and] at h n ⊢
    obtain ⟨a, vs, f, e1, s, _, r, e2⟩ := h
    subst e2
    exact ⟨a, vs, f, e1, s, h2 a List.mem_cons_self, Reps.unb e xs n r (fun b hb => h2 b (List.mem_cons_of_mem _ hb)), rfl⟩
  | .dct false kvs, _, _, n, h, h2 => by simp [T.nfz] at n
  | .dct true kvs, _, _, n, h, h2 => by
    simp only [Rep, T.nfz, Bool.true_and] at h n ⊢
    obtain ⟨a, ks, f, e1, s, _, r, e2⟩ := h
    subst e2
    exact ⟨a, ks, f, e1, s, h2 a List.mem_cons_self, Repk.unb e kvs n r (fun b hb => h2 b (List.mem_cons_of_mem _ hb)), rfl⟩
  | .obj c fs, _, _, n, h, h2 => by
    simp only [Rep, T.nfz] at h n ⊢
    obtain ⟨a, dx, gs, f, e1, s, _, r, e2⟩ := h
    subst e2
    exact ⟨a, dx, gs, f, e1, s, h2 a List.mem_cons_self, Repf.unb e fs n r (fun b hb => h2 b (List.mem_cons_of_mem _ hb)), rfl⟩
theorem Reps.unb (e : ∀ a xs o, F a = some o → (o = .tup xs ∨ ∃ ob, o = .frz ob (.tup xs)) → F' a = some o) : ∀ (ts : List T) {vs : List V} {fp : List Addr}, T.nfzl ts = true → Reps K ca F H ts vs fp → (∀ a ∈ fp, F' a = none) → Reps K ca F' H ts vs fp
  | [], _, _, _, h, _ => by simpa only [Reps] using h
  | t :: ts, _, _, n, h, h2 => by
    simp only [Reps, T.nfzl, Bool.and_eq_true] at h n ⊢
    obtain ⟨v, us, f, g, e1, r, rs, e2⟩ := h
    subst e2
    exact ⟨v, us, f, g, e1, Rep.unb e t n.1 r (fun b hb => h2 b (List.mem_append_left _ hb)), Reps.unb e ts n.2 rs (fun b hb => h2 b (List.mem_append_right _ hb)), rfl⟩
theorem Repk.unb (e : ∀ a xs o, F a = some o → (o = .tup xs ∨ ∃ ob, o = .frz ob (.tup xs)) → F' a = some o) : ∀ (ts : List (Key × T)) {vs : List (Key × V)} {fp : List Addr}, T.nfzk ts = true → Repk K ca F H ts vs fp → (∀ a ∈ fp, F' a = none) → Repk K ca F' H ts vs fp
  | [], _, _, _, h, _ => by simpa only [Repk] using h
  | (k, t) :: ts, _, _, n, h, h2 => by
    simp only [Repk, T.nfzk, Bool.and_eq_true] at h n ⊢
    obtain ⟨v, us, f, g, e1, r, rs, e2⟩ := h
    subst e2
    exact ⟨v, us, f, g, e1, Rep.unb e t n.1 r (fun b hb => h2 b (List.mem_append_left _ hb)), Repk.unb e ts n.2 rs (fun b hb => h2 b (List.mem_append_right _ hb)), rfl⟩
theorem Repf.unb (e : ∀ a xs o, F a = some o → (o = .tup xs ∨ ∃ ob, o = .frz ob (.tup xs)) → F' a = some o) : ∀ (ts : List (Str × T)) {vs : List (Str × V)} {fp : List Addr}, T.nfzf ts = true → Repf K ca F H ts vs fp → (∀ a ∈ fp, F' a = none) → Repf K ca F' H ts vs fp
  | [], _, _, _, h, _ => by simpa only [Repf] using h
  | (k, t) :: ts, _, _, n, h, h2 => by
    simp only [Repf, T.nfzf, Bool.and_eq_true] at h n ⊢
    obtain ⟨v, us, f, g, e1, r, rs, e2⟩ := h
    subst e2
    exact ⟨v, us, f, g, e1, Rep.unb e t n.1 r (fun b hb => h2 b (List.mem_append_left _ hb)), Repf.unb e ts n.2 rs (fun b hb => h2 b (List.mem_append_right _ hb)), rfl⟩
end

theorem Reps.length : ∀ {ts : List T} {vs : List V} {fp : List Addr}, Reps K ca F H ts vs fp → vs.length = ts.length
  | [], _, _, h => by simp only [Reps] at h; rw [h.1]; rfl
  | t :: ts, _, _, h => by
    simp only [Reps] at h
    obtain ⟨v, us, f, g, e1, r, rs, e2⟩ := h
    rw [e1, List.length_cons, List.length_cons, Reps.length rs]
theorem Reps.append : ∀ {ts : List T} {vs : List V} {fp : List Addr} {ts' : List T} {vs' : List V} {fp' : List Addr}, Reps K ca F H ts vs fp → Reps K ca F H ts' vs' fp' → Reps K ca F H (ts ++ ts') (vs ++ vs') (fp ++ fp')
  | [], _, _, _, _, _, h, h' => by
    simp only [Reps] at h
    rw [h.1, h.2]
    exact h'
  | t :: ts, _, _, _, _, _, h, h' => by
    simp only [Reps, List.cons_append] at h ⊢
    obtain ⟨v, us, f, g, e1, r, rs, e2⟩ := h
    exact ⟨v, _, f, _, by rw [e1]; rfl, r, rs.append h', by rw [e2, List.append_assoc]⟩
end
end QL
namespace QL
open PySem L2

inductive Er where
  | stuck | exc (c : Str) (fs : List (Str × T))
abbrev R (α : Type) := Except Er α
abbrev En := List (Option T)
abbrev Fp := Nat → List Addr
def stk {α : Type} : R α := .error .stuck
/-- an operand: a value of its own, or what stands in a slot (or within it) -/
inductive Bop where
  | tmp (t : T) | br (t : T) (i : Nat) | io (i : Nat)
abbrev EM := En → R (T × En)
abbrev BM := En → R (Bop × En)
abbrev AM := En → R (List Bop × En)

def Ow (fp : Fp) (a : Addr) : Prop := ∃ i, a ∈ fp i
def OwM (md : List Nat) (fp : Fp) (a : Addr) : Prop := ∃ i, i ∈ md ∧ a ∈ fp i
theorem OwM.ow {md : List Nat} {fp : Fp} {a : Addr} (h : OwM md fp a) : Ow fp a := let ⟨i, _, z⟩ := h; ⟨i, z⟩

structure SR (K : PySem.W.Frag) (ca : Ca) (F H : Hp) (σ : St) (env : En) (fp : Fp) : Prop where
  sub : Sub F H
  slot : ∀ i t, env[i]? = some (some t) → ∃ v, σ[i]? = some (some v) ∧ Rep K ca F H t v (fp i)
  alive : ∀ a, Ow fp a → H a ≠ none ∧ F a = none
  one : ∀ i j a, a ∈ fp i → a ∈ fp j → i = j
  nd : ∀ i, (fp i).Nodup
  len : env.length = σ.length

/-- a step of the heap: O may be changed, O' is owned behind -/
structure Go (F H : Hp) (O : Addr → Prop) (F' H' : Hp) (O' : Addr → Prop) : Prop where
  ext : Sub F F'
  sub : Sub F' H'
  frame : ∀ b o, H b = some o → ¬ O b → H' b = some o
  nofz : ∀ b, F' b ≠ none → F b ≠ none ∨ O b ∨ H b = none
  fresh : ∀ b, O' b → O b ∨ H b = none
theorem Go.refl {F H : Hp} {O O' : Addr → Prop} (s : Sub F H) (h : ∀ b, O' b → O b) : Go F H O F H O' :=
  ⟨Sub.refl F, s, fun _ _ e _ => e, fun _ e => .inl e, fun b e => .inl (h b e)⟩
theorem Go.trans {F H F1 H1 F2 H2 : Hp} {O O1 O1' O2 P : Addr → Prop} (a : Go F H O F1 H1 O1) (b : Go F1 H1 O1' F2 H2 O2) (h1 : ∀ x, O1' x → O1 x) (hP : ∀ x, P x → O2 x ∨ O1 x) : Go F H O F2 H2 P where
  ext := a.ext.trans b.ext
  sub := b.sub
  frame := fun x o e n => b.frame x o (a.frame x o e n) fun z => by
    rcases a.fresh x (h1 x z) with q | q
    · exact n q
    · rw [q] at e; cases e
  nofz := fun x e => by
    rcases b.nofz x e with q | q | q
    · exact a.nofz x q
    · exact .inr (a.fresh x (h1 x q))
    · by_cases z : O x
      · exact .inr (.inl z)
      · refine .inr (.inr ?_)
        cases w : H x with
        | none => rfl
        | some o => rw [a.frame x o w z] at q; cases q
  fresh := fun x e => by
    rcases hP x e with q | q
    · rcases b.fresh x q with q | q
      · exact a.fresh x (h1 x q)
      · by_cases z : O x
        · exact .inl z
        · refine .inr ?_
          cases w : H x with
          | none => rfl
          | some o => rw [a.frame x o w z] at q; cases q
    · exact a.fresh x q
theorem Go.weak {F H F' H' : Hp} {O P O' P' : Addr → Prop} (g : Go F H O F' H' O') (h : ∀ x, O x → P x) (h' : ∀ x, P' x → O' x) : Go F H P F' H' P' :=
  ⟨g.ext, g.sub, fun b o e n => g.frame b o e fun z => n (h b z), fun b e => (g.nofz b e).imp id (Or.imp (h b) id), fun b e => (g.fresh b (h' b e)).imp (h b) id⟩
/-- one new object, known as it stands -/
theorem Go.newF {F H : Hp} {p : Addr} {o : HO} {O O' : Addr → Prop} (s : Sub F H) (hp : H p = none) (hO : ∀ b, O' b → O b ∨ H b = none) : Go F H O (upd F p o) (upd H p o) O' where
  ext := fun a u e => by rw [upd_ne (fun z => by subst z; rw [s _ _ e] at hp; cases hp)]; exact e
  sub := fun a u e => by
    by_cases z : a = p
    · subst z; rw [upd_same] at e ⊢; exact e
    · rw [upd_ne z] at e ⊢; exact s _ _ e
  frame := fun b u e _ => by rw [upd_ne (fun z => by subst z; rw [hp] at e; cases e)]; exact e
  nofz := fun b e => by
    by_cases z : b = p
    · subst z; exact .inr (.inr hp)
    · rw [upd_ne z] at e; exact .inl e
  fresh := hO
/-- one new object, owned -/
theorem Go.newO {F H : Hp} {p : Addr} {o : HO} {O O' : Addr → Prop} (s : Sub F H) (hp : H p = none) (hO : ∀ b, O' b → O b ∨ H b = none) : Go F H O F (upd H p o) O' where
  ext := Sub.refl F
  sub := fun a u e => by rw [upd_ne (fun z => by subst z; rw [s _ _ e] at hp; cases hp)]; exact s _ _ e
  frame := fun b u e _ => by rw [upd_ne (fun z => by subst z; rw [hp] at e; cases e)]; exact e
  nofz := fun b e => .inl e
  fresh := hO
/-- an owned object is changed -/
theorem Go.write {F H : Hp} {p : Addr} {o : HO} {O O' : Addr → Prop} (s : Sub F H) (hp : O p) (hF : F p = none) (hO : ∀ b, O' b → O b ∨ H b = none) : Go F H O F (upd H p o) O' where
  ext := Sub.refl F
  sub := fun a u e => by rw [upd_ne (fun z => by subst z; rw [hF] at e; cases e)]; exact s _ _ e
  frame := fun b u e n => by rw [upd_ne (fun z => n (by rw [z]; exact hp))]; exact e
  nofz := fun b e => .inl e
  fresh := hO

section
variable {K : PySem.W.Frag} {ca : Ca} {F F' F1 H H' H1 : Hp} {O O' : Addr → Prop} {σ : St} {env : En} {fp : Fp} {t : T} {v : V} {fv : List Addr} {ts : List T} {vs : List V}

theorem Rep.of_go (h : Rep K ca F H t v fv) (g : Go F H O F' H' O') (d : ∀ a ∈ fv, ¬ O a) : Rep K ca F' H' t v fv := by
  have al := Rep.alive t h
  refine Rep.go g.ext t h (fun a ha => ?_) (fun a ha => ?_)
  · cases w : H a with
    | none => exact absurd w (al a ha).1
    | some o => exact g.frame a o w (d a ha)
  · cases w : F' a with
    | none => rfl
    | some o =>
      exfalso
      rcases g.nofz a (by rw [w]; simp) with q | q | q
      · exact q (al a ha).2
      · exact d a ha q
      · exact (al a ha).1 q
theorem Reps.of_go (h : Reps K ca F H ts vs fv) (g : Go F H O F' H' O') (d : ∀ a ∈ fv, ¬ O a) : Reps K ca F' H' ts vs fv := by
  have al := Reps.alive ts h
  refine Reps.go g.ext ts h (fun a ha => ?_) (fun a ha => ?_)
  · cases w : H a with
    | none => exact absurd w (al a ha).1
    | some o => exact g.frame a o w (d a ha)
  · cases w : F' a with
    | none => rfl
    | some o =>
      exfalso
      rcases g.nofz a (by rw [w]; simp) with q | q | q
      · exact q (al a ha).2
      · exact d a ha q
      · exact (al a ha).1 q
theorem SR.of_go (s : SR K ca F H σ env fp) (g : Go F H O F' H' O') (d : ∀ a, Ow fp a → ¬ O a) : SR K ca F' H' σ env fp where
  sub := g.sub
  slot := fun i t e => by
    obtain ⟨v, e1, r⟩ := s.slot i t e
    exact ⟨v, e1, r.of_go g fun a ha => d a ⟨i, ha⟩⟩
  alive := fun a ha => by
    obtain ⟨h1, h2⟩ := s.alive a ha
    constructor
    · cases w : H a with
      | none => exact absurd w h1
      | some o => rw [g.frame a o w (d a ha)]; simp
    · cases w : F' a with
      | none => rfl
      | some o =>
        exfalso
        rcases g.nofz a (by rw [w]; simp) with q | q | q
        · exact q h2
        · exact d a ha q
        · exact h1 q
  one := s.one
  nd := s.nd
  len := s.len

/-- a value of its own -/
structure Tm (K : PySem.W.Frag) (ca : Ca) (F H : Hp) (fp : Fp) (t : T) (v : V) (fv : List Addr) : Prop where
  rep : Rep K ca F H t v fv
  nd : fv.Nodup
  off : ∀ a ∈ fv, ¬ Ow fp a
/-- operands: ft what they own -/
def Op1 (K : PySem.W.Frag) (ca : Ca) (md : List Nat) (F H : Hp) (σ : St) (fp : Fp) (v : V) (f : List Addr) : Bop → Prop
  | .tmp t => Rep K ca F H t v f
  | .br t i => i ∉ md ∧ f = [] ∧ ∃ fb, Rep K ca F H t v fb ∧ ∀ a ∈ fb, a ∈ fp i
  | .io i => f = [] ∧ σ[i]? = some (some v)
def Ops (K : PySem.W.Frag) (ca : Ca) (md : List Nat) (F H : Hp) (σ : St) (fp : Fp) : List Bop → List V → List Addr → Prop
  | [], vs, ft => vs = [] ∧ ft = []
  | b :: bs, vs, ft => ∃ v us f g, vs = v :: us ∧ Op1 K ca md F H σ fp v f b ∧ Ops K ca md F H σ fp bs us g ∧ ft = f ++ g
structure Keep (md : List Nat) (env : En) (fp : Fp) (env' : En) (fp' : Fp) : Prop where
  fp : ∀ i, i ∉ md → fp' i = fp i
  env : ∀ i, i ∉ md → env'[i]? = env[i]?
theorem Keep.refl {md : List Nat} : Keep md env fp env fp := ⟨fun _ _ => rfl, fun _ _ => rfl⟩
theorem Keep.trans {md : List Nat} {env1 env2 : En} {fp1 fp2 : Fp} (a : Keep md env fp env1 fp1) (b : Keep md env1 fp1 env2 fp2) : Keep md env fp env2 fp2 :=
  ⟨fun i h => (b.fp i h).trans (a.fp i h), fun i h => (b.env i h).trans (a.env i h)⟩
theorem Keep.mono {md md' : List Nat} {env1 : En} {fp1 : Fp} (a : Keep md env fp env1 fp1) (h : ∀ i, i ∈ md → i ∈ md') : Keep md' env fp env1 fp1 :=
  ⟨fun i n => a.fp i fun z => n (h i z), fun i n => a.env i fun z => n (h i z)⟩

def TEof (K : PySem.W.Frag) (ca : Ca) (md : List Nat) (f : EM) : TE := fun σ H Q => ∃ F env fp t env', SR K ca F H σ env fp ∧ f env = .ok (t, env') ∧
  ∀ v H' F' fp' fv, Go F H (OwM md fp) F' H' (fun a => OwM md fp' a ∨ a ∈ fv) → Keep md env fp env' fp' → SR K ca F' H' σ env' fp' → Tm K ca F' H' fp' t v fv → Q v H'
def TBof (K : PySem.W.Frag) (ca : Ca) (md : List Nat) (f : BM) : TE := fun σ H Q => ∃ F env fp b env', SR K ca F H σ env fp ∧ f env = .ok (b, env') ∧
  ∀ v H' F' fp' ft, Go F H (OwM md fp) F' H' (fun a => OwM md fp' a ∨ a ∈ ft) → Keep md env fp env' fp' → SR K ca F' H' σ env' fp' → Ops K ca md F' H' σ fp' [b] [v] ft → ft.Nodup → (∀ a ∈ ft, ¬ Ow fp' a) → Q v H'
def TAof (K : PySem.W.Frag) (ca : Ca) (md : List Nat) (f : AM) : TA := fun σ H Q => ∃ F env fp bs env', SR K ca F H σ env fp ∧ f env = .ok (bs, env') ∧
  ∀ vs H' F' fp' ft, Go F H (OwM md fp) F' H' (fun a => OwM md fp' a ∨ a ∈ ft) → Keep md env fp env' fp' → SR K ca F' H' σ env' fp' → Ops K ca md F' H' σ fp' bs vs ft → ft.Nodup → (∀ a ∈ ft, ¬ Ow fp' a) → Q vs H'
def TTof (K : PySem.W.Frag) (ca : Ca) (md : List Nat) (f : En → R (Bool × En)) : TT := fun σ H Q => ∃ F env fp b env', SR K ca F H σ env fp ∧ f env = .ok (b, env') ∧
  ∀ H' F' fp', Go F H (OwM md fp) F' H' (OwM md fp') → Keep md env fp env' fp' → SR K ca F' H' σ env' fp' → Q b H'

/-- operands stay while others are reckoned -/
theorem Ops.of_go {md : List Nat} {env1 : En} {fp1 : Fp} (g : Go F H (OwM md fp) F' H' O') (k : Keep md env fp env1 fp1) : ∀ {bs : List Bop} {vs : List V} {ft : List Addr}, Ops K ca md F H σ fp bs vs ft → (∀ i j a, a ∈ fp i → a ∈ fp j → i = j) → (∀ a ∈ ft, ¬ OwM md fp a) →
    Ops K ca md F' H' σ fp1 bs vs ft
  | [], _, _, h, _, _ => h
  | b :: bs, _, _, h, on, d => by
    simp only [Ops] at h ⊢
    obtain ⟨v, us, f, g', e1, r, rs, e2⟩ := h
    subst e2
    refine ⟨v, us, f, g', e1, ?_, Ops.of_go g k rs on (fun a ha => d a (List.mem_append_right _ ha)), rfl⟩
    cases b with
    | tmp t => exact Rep.of_go (show Rep K ca F H t v f from r) g fun a ha => d a (List.mem_append_left _ ha)
    | br t i =>
      obtain ⟨r1, r2, fb, r3, r4⟩ := r
      refine ⟨r1, r2, fb, r3.of_go g fun a ha ⟨j, hj, hj2⟩ => ?_, fun a ha => ?_⟩
      · have := on i j a (r4 a ha) hj2
        subst this
        exact r1 hj
      · rw [k.fp i r1]
        exact r4 a ha
    | io i => exact r

/-- a check -/
def ck (b : Bool) : R Unit := if b then .ok () else stk
theorem ck_ok {b : Bool} {u : Unit} (h : ck b = .ok u) : b = true := by
  cases b with
  | true => rfl
  | false => cases h
/-- lists of operands, from the left -/
def aNil : AM := fun env => .ok ([], env)
def aCons (f : BM) (g : AM) : AM := fun env => do
  let (b, env1) ← f env
  let (bs, env2) ← g env1
  .ok (b :: bs, env2)
theorem bind_ok {α β : Type} {x : R α} {f : α → R β} {z : β} (h : (x >>= f) = .ok z) : ∃ a, x = .ok a ∧ f a = .ok z := by
  cases x with
  | error e => cases h
  | ok a => exact ⟨a, rfl, h⟩
theorem ta_nil {md : List Nat} {Q : List V → Hp → Prop} (h : TAof K ca md aNil σ H Q) : tNil σ H Q := by
  obtain ⟨F, env, fp, bs, env', s, e, k⟩ := h
  cases e
  exact k [] H F fp [] (Go.refl s.sub fun b z => z.elim id (fun z => nomatch z)) Keep.refl s ⟨rfl, rfl⟩ List.nodup_nil (fun _ z => nomatch z)
theorem ta_cons {md : List Nat} {f : BM} {g : AM} {Q : List V → Hp → Prop} (h : TAof K ca md (aCons f g) σ H Q) : tCons (TBof K ca md f) (TAof K ca md g) σ H Q := by
  obtain ⟨F, env, fp, bs, env', s, e, k⟩ := h
  obtain ⟨⟨b, env1⟩, e1, e⟩ := bind_ok e
  obtain ⟨⟨bs2, env2⟩, e2, e⟩ := bind_ok e
  cases e
  refine ⟨F, env, fp, b, env1, s, e1, fun v H1 F1 fp1 ft1 g1 k1 s1 o1 n1 d1 => ?_⟩
  refine ⟨F1, env1, fp1, bs2, env', s1, e2, fun vs H2 F2 fp2 ft2 g2 k2 s2 o2 n2 d2 => ?_⟩
  have o1' := Ops.of_go g2 k2 o1 s1.one (fun a ha z => d1 a ha z.ow)
  simp only [Ops] at o1'
  obtain ⟨v', us, f1, f2, h1, r, ⟨h2, h3⟩, h4⟩ := o1'
  injection h1 with h1 h1'
  subst h1 h1' h3 h4
  rw [List.append_nil] at *
  have al1 : ∀ a ∈ f1, H1 a ≠ none := fun a ha => by
    simp only [Ops] at o1
    obtain ⟨v', us, f3, f4, q1, r', ⟨q2, q3⟩, q4⟩ := o1
    subst q3
    rw [List.append_nil] at q4
    subst q4
    cases b with
    | tmp t => exact (Rep.alive t r' a ha).1
    | br t i => rw [r'.2.1] at ha; cases ha
    | io i => rw [r'.1] at ha; cases ha
  have off1 : ∀ a ∈ f1, ¬ Ow fp2 a := fun a ha ⟨i, hi⟩ => by
    by_cases hm : i ∈ md
    · rcases g2.fresh a (.inl ⟨i, hm, hi⟩) with q | q
      · exact d1 a ha q.ow
      · exact al1 a ha q
    · rw [k2.fp i hm] at hi
      exact d1 a ha ⟨i, hi⟩
  refine k (v :: vs) H2 F2 fp2 (f1 ++ ft2) (g1.trans g2 (fun a z => .inl z) fun a z => ?_) (k1.trans k2) s2 ?_ ?_ ?_
  · rcases z with z | z
    · exact .inl (.inl z)
    · rcases List.mem_append.mp z with z | z
      · exact .inr (.inr z)
      · exact .inl (.inr z)
  · simp only [Ops]
    exact ⟨v, vs, f1, ft2, rfl, r, o2, rfl⟩
  · refine List.nodup_append.mpr ⟨n1, n2, fun a ha c hc z => ?_⟩
    subst z
    rcases g2.fresh a (.inr hc) with q | q
    · exact d1 a ha q.ow
    · exact al1 a ha q
  · intro a ha
    rcases List.mem_append.mp ha with ha | ha
    · exact off1 a ha
    · exact d2 a ha
/-- a value as an operand -/
def bE (f : EM) : BM := fun env => do
  let (t, env1) ← f env
  .ok (.tmp t, env1)
theorem tb_e {md : List Nat} {f : EM} {Q : VK} (h : TBof K ca md (bE f) σ H Q) : TEof K ca md f σ H Q := by
  obtain ⟨F, env, fp, b, env', s, e, k⟩ := h
  obtain ⟨⟨t, env1⟩, e1, e⟩ := bind_ok e
  cases e
  refine ⟨F, env, fp, t, env', s, e1, fun v H' F' fp' fv g kp s' tm => k v H' F' fp' fv g kp s' ?_ tm.nd tm.off⟩
  simp only [Ops]
  exact ⟨v, [], fv, [], rfl, tm.rep, ⟨rfl, rfl⟩, by rw [List.append_nil]⟩
/-- what stands in a slot as an operand -/
def bV (i : Nat) : BM := fun env => match env[i]? with
  | some (some t) => .ok (.br t i, env)
  | _ => stk
theorem tb_v {md : List Nat} {i : Nat} {Q : VK} (hi : i ∉ md) (h : TBof K ca md (bV i) σ H Q) : tVar i σ H Q := by
  obtain ⟨F, env, fp, b, env', s, e, k⟩ := h
  unfold bV at e
  split at e
  case h_2 => cases e
  case h_1 t et =>
    cases e
    obtain ⟨v, e1, r⟩ := s.slot i t et
    refine ⟨v, e1, k v H F fp [] (Go.refl s.sub fun b z => z.elim id (fun z => nomatch z)) Keep.refl s ?_ List.nodup_nil (fun _ z => nomatch z)⟩
    simp only [Ops]
    exact ⟨v, [], [], [], rfl, ⟨hi, rfl, fp i, r, fun _ z => z⟩, ⟨rfl, rfl⟩, rfl⟩

def Bop.res : Bop → T
  | .tmp t => t
  | .br t _ => if t.ow then t.fz else t
  | .io _ => .non
/-- borrowed and owned -/
def Bop.bo : Bop → Bool
  | .br t _ => t.ow
  | _ => false
/-- may be borrowed -/
def Bop.fit : Bop → Bool
  | .tmp _ => true
  | .br t _ => !t.ow || t.nob
  | .io _ => false
def opApp (o : List T → R T) (bs : List Bop) : R T := do
  let _ ← ck (bs.all Bop.fit)
  let t ← o (bs.map Bop.res)
  let _ ← ck (!bs.any Bop.bo || t.nfz)
  .ok t
/-- what is asked of a call of values -/
def CallS (K : PySem.W.Frag) (ca : Ca) (r : List V → Hp → VK → Prop) (o : List T → R T) : Prop :=
  ∀ (F H : Hp) (ts : List T) (vs : List V) (f : List Addr) (t : T) (Q : VK), Sub F H → Reps K ca F H ts vs f → f.Nodup → o ts = .ok t →
    (∀ v H' F' k, Go F H (· ∈ f) F' H' (· ∈ k) → Rep K ca F' H' t v k → k.Nodup → Q v H') → r vs H Q

mutual
theorem Rep.kind : ∀ (t : T) {v : V} {fp : List Addr}, Rep K ca F H t v fp → ∀ a ∈ fp, ∀ o, H a = some o → (∀ xs, o ≠ .tup xs) ∧ ∀ ob u, o ≠ .frz ob u
  | .non, _, _, h, a, ha, _, _ => by simp only [Rep] at h; rw [h.2] at ha; cases ha
  | .bl _, _, _, h, a, ha, _, _ => by simp only [Rep] at h; rw [h.2] at ha; cases ha
  | .int _, _, _, h, a, ha, _, _ => by simp only [Rep] at h; rw [h.2] at ha; cases ha
  | .str _, _, _, h, a, ha, _, _ => by simp only [Rep] at h; rw [h.2] at ha; cases ha
  | .hole, _, _, h, a, ha, _, _ => by simp only [Rep] at h; rw [h.2] at ha; cases ha
  | .tup xs, _, _, h, b, hb, o, eo => by
    simp only [Rep] at h
    obtain ⟨a, vs, e1, s, r⟩ := h
    exact Reps.kind xs r b hb o eo
  | .pr xs, _, _, h, b, hb, o, eo => by
    simp only [Rep] at h
    obtain ⟨a, vs, e1, s, r⟩ := h
    exact Reps.kind xs r b hb o eo
  | .lk xs, _, _, h, b, hb, o, eo => by
    simp only [Rep] at h
    obtain ⟨a, vs, e1, s, r, e2⟩ := h
    rw [e2] at hb; cases hb
  | .lst false xs, _, _, h, b, hb, o, eo => by
    simp only [Rep] at h
    obtain ⟨a, vs, e1, s, r, e2⟩ := h
    rw [e2] at hb; cases hb
  | .lst true xs, _, _, h, b, hb, o, eo => by
    simp only [Rep] at h
    obtain ⟨a, vs, f, e1, s, n, r, e2⟩ := h
    rw [e2] at hb
    rcases List.mem_cons.mp hb with rfl | hb
    · (rw [s] at eo; cases eo; exact ⟨fun _ => by simp, fun _ _ => by simp⟩)
    · exact Reps.kind xs r b hb o eo
  | .dct false xs, _, _, h, b, hb, o, eo => by
    simp only [Rep] at h
    obtain ⟨a, vs, e1, s, r, e2⟩ := h
    rw [e2] at hb; cases hb
  | .dct true xs, _, _, h, b, hb, o, eo => by
    simp only [Rep] at h
    obtain ⟨a, vs, f, e1, s, n, r, e2⟩ := h
    rw [e2] at hb
    rcases List.mem_cons.mp hb with rfl | hb
    · (rw [s] at eo; cases eo; exact ⟨fun _ => by simp, fun _ _ => by simp⟩)
    · exact Repk.kind xs r b hb o eo
  | .obj _ fs, _, _, h, b, hb, o, eo => by
    simp only [Rep] at h
    obtain ⟨a, dx, vs, f, e1, s, n, r, e2⟩ := h
    rw [e2] at hb
    rcases List.mem_cons.mp hb with rfl | hb
    · (rw [s] at eo; cases eo; exact ⟨fun _ => by simp, fun _ _ => by simp⟩)
    · exact Repf.kind fs r b hb o eo
theorem Reps.kind : ∀ (ts : List T) {vs : List V} {fp : List Addr}, Reps K ca F H ts vs fp → ∀ a ∈ fp, ∀ o, H a = some o → (∀ xs, o ≠ .tup xs) ∧ ∀ ob u, o ≠ .frz ob u
  | [], _, _, h, a, ha, _, _ => by simp only [Reps] at h; rw [h.2] at ha; cases ha
  | t :: ts, _, _, h, b, hb, o, eo => by
    simp only [Reps] at h
    obtain ⟨v, us, f, g, e1, r, rs, e2⟩ := h
    rw [e2] at hb
    rcases List.mem_append.mp hb with hb | hb
    · exact Rep.kind t r b hb o eo
    · exact Reps.kind ts rs b hb o eo
theorem Repk.kind : ∀ (ts : List (Key × T)) {vs : List (Key × V)} {fp : List Addr}, Repk K ca F H ts vs fp → ∀ a ∈ fp, ∀ o, H a = some o → (∀ xs, o ≠ .tup xs) ∧ ∀ ob u, o ≠ .frz ob u
  | [], _, _, h, a, ha, _, _ => by simp only [Repk] at h; rw [h.2] at ha; cases ha
  | (k, t) :: ts, _, _, h, b, hb, o, eo => by
    simp only [Repk] at h
    obtain ⟨v, us, f, g, e1, r, rs, e2⟩ := h
    rw [e2] at hb
    rcases List.mem_append.mp hb with hb | hb
    · exact Rep.kind t r b hb o eo
    · exact Repk.kind ts rs b hb o eo
theorem Repf.kind : ∀ (ts : List (Str × T)) {vs : List (Str × V)} {fp : List Addr}, Repf K ca F H ts vs fp → ∀ a ∈ fp, ∀ o, H a = some o → (∀ xs, o ≠ .tup xs) ∧ ∀ ob u, o ≠ .frz ob u
  | [], _, _, h, a, ha, _, _ => by simp only [Repf] at h; rw [h.2] at ha; cases ha
  | (k, t) :: ts, _, _, h, b, hb, o, eo => by
    simp only [Repf] at h
    obtain ⟨v, us, f, g, e1, r, rs, e2⟩ := h
    rw [e2] at hb
    rcases List.mem_append.mp hb with hb | hb
    · exact Rep.kind t r b hb o eo
    · exact Repf.kind ts rs b hb o eo
end

/-- the borrowed addresses -/
theorem Ops.view {md : List Nat} (hs : SR K ca F H σ env fp) : ∀ {bs : List Bop} {vs : List V} {ft : List Addr}, Ops K ca md F H σ fp bs vs ft → bs.all Bop.fit = true →
    ∃ B : List Addr, (∀ a ∈ B, Ow fp a ∧ ∀ o, H a = some o → (∀ xs, o ≠ .tup xs) ∧ ∀ ob u, o ≠ .frz ob u) ∧ (bs.any Bop.bo = false → B = []) ∧
      ∀ F1, Sub F F1 → (∀ a ∈ B, F1 a = H a) → (∀ a ∈ ft, F1 a = none) → Reps K ca F1 H (bs.map Bop.res) vs ft
  | [], _, _, h, _ => ⟨[], fun _ z => absurd z (by simp), fun _ => rfl, fun F1 _ _ _ => by simpa only [Ops, Reps, List.map] using h⟩
  | b :: bs, _, _, h, hn => by
    simp only [Ops] at h
    obtain ⟨v, us, f, g, e1, r, rs, e2⟩ := h
    rw [List.all_cons, Bool.and_eq_true] at hn
    obtain ⟨B, hB1, hB2, hB3⟩ := Ops.view hs rs hn.2
    subst e2
    cases b with
    | io i => exact absurd hn.1 (by simp [Bop.fit])
    | tmp t =>
      have r' : Rep K ca F H t v f := r
      refine ⟨B, hB1, fun z => hB2 ?_, fun F1 s1 q1 q2 => ?_⟩
      · rw [List.any_cons, Bool.or_eq_false_iff] at z; exact z.2
      · simp only [List.map, Reps]
        exact ⟨v, us, f, g, e1, Rep.go s1 t r' (fun _ _ => rfl) fun a ha => q2 a (List.mem_append_left _ ha), hB3 F1 s1 q1 (fun a ha => q2 a (List.mem_append_right _ ha)), rfl⟩
    | br t i =>
      obtain ⟨r1, r2, fb, r3, r4⟩ := r
      subst r2
      by_cases how : t.ow = true
      · have hnob : t.nob = true := by
          have := hn.1
          simp only [Bop.fit, how, Bool.not_true, Bool.false_or] at this
          exact this
        refine ⟨fb ++ B, fun a ha => ?_, fun z => ?_, fun F1 s1 q1 q2 => ?_⟩
        · rcases List.mem_append.mp ha with ha | ha
          · exact ⟨⟨i, r4 a ha⟩, Rep.kind t r3 a ha⟩
          · exact hB1 a ha
        · rw [List.any_cons, show Bop.bo (.br t i) = t.ow from rfl, how] at z; cases z
        · simp only [List.map, Reps]
          refine ⟨v, us, [], g, e1, ?_, hB3 F1 s1 (fun a ha => q1 a (List.mem_append_right _ ha)) (fun a ha => q2 a (List.mem_append_right _ ha)), rfl⟩
          have : Bop.res (.br t i) = t.fz := by unfold Bop.res; simp [how]
          rw [this]
          exact Rep.frz s1 t hnob r3 fun a ha => q1 a (List.mem_append_left _ ha)
      · have how : t.ow = false := by simpa using how
        have hfb := Rep.pure_fp t how r3
        subst hfb
        refine ⟨B, hB1, fun z => hB2 ?_, fun F1 s1 q1 q2 => ?_⟩
        · rw [List.any_cons, Bool.or_eq_false_iff] at z; exact z.2
        · simp only [List.map, Reps]
          refine ⟨v, us, [], g, e1, ?_, hB3 F1 s1 q1 (fun a ha => q2 a (List.mem_append_right _ ha)), rfl⟩
          have : Bop.res (.br t i) = t := by unfold Bop.res; simp [how]
          rw [this]
          exact Rep.go s1 t r3 (fun _ z => nomatch z) (fun _ z => nomatch z)

theorem Ops.alive {md : List Nat} : ∀ {bs : List Bop} {vs : List V} {ft : List Addr}, Ops K ca md F H σ fp bs vs ft → ∀ a ∈ ft, H a ≠ none ∧ F a = none
  | [], _, _, h, a, ha => by simp only [Ops] at h; rw [h.2] at ha; cases ha
  | b :: bs, _, _, h, a, ha => by
    simp only [Ops] at h
    obtain ⟨v, us, f, g, q1, r, rs, q2⟩ := h
    subst q2
    rcases List.mem_append.mp ha with ha | ha
    · cases b with
      | tmp t => exact Rep.alive t r a ha
      | br t i => rw [r.2.1] at ha; cases ha
      | io i => rw [r.1] at ha; cases ha
    · exact Ops.alive rs a ha
def eOp (o : List T → R T) (f : AM) : EM := fun env => do
  let (bs, env1) ← f env
  let t ← opApp o bs
  .ok (t, env1)
open Classical in
/-- an operation's answer on operands: back to the holder's view -/
theorem op_back {md : List Nat} {r : List V → Hp → VK → Prop} {o : List T → R T} (hc : CallS K ca r o) {bs : List Bop} {vs : List V} {ft : List Addr} {t : T} {Q : VK} (s : SR K ca F H σ env fp) (h : Ops K ca md F H σ fp bs vs ft)
    (nd : ft.Nodup) (off : ∀ a ∈ ft, ¬ Ow fp a) (e : opApp o bs = .ok t) (q : ∀ v H' F' k, Go F H (· ∈ ft) F' H' (· ∈ k) → Tm K ca F' H' fp t v k → SR K ca F' H' σ env fp → Q v H') : r vs H Q := by
  unfold opApp at e
  obtain ⟨_, c1, e⟩ := bind_ok e
  have hnob := ck_ok c1
  obtain ⟨t', e1, e⟩ := bind_ok e
  obtain ⟨_, c2, e⟩ := bind_ok e
  have hnfz := ck_ok c2
  cases e
  obtain ⟨B, hB1, hB2, hB3⟩ := Ops.view s h hnob
  have alft := h.alive
  -- the view
  have hv := hB3 (fun a => if a ∈ B then H a else F a) (fun a o ea => by
      show (if a ∈ B then H a else F a) = some o
      by_cases z : a ∈ B
      · rw [if_pos z]; exact s.sub a o ea
      · rw [if_neg z]; exact ea) (fun a ha => if_pos ha) (fun a ha => by
      show (if a ∈ B then H a else F a) = none
      rw [if_neg (fun z => off a ha (hB1 a z).1)]
      exact (alft a ha).2)
  refine hc _ H _ vs ft t Q (fun a o ea => ?_) hv nd e1 fun v H' F' k g rp nk => ?_
  · have ea : (if a ∈ B then H a else F a) = some o := ea
    by_cases z : a ∈ B
    · rw [if_pos z] at ea; exact ea
    · rw [if_neg z] at ea; exact s.sub a o ea
  -- back
  have gB : ∀ a ∈ B, F' a = H a := fun a ha => by
    cases w : H a with
    | none => exact absurd w (s.alive a (hB1 a ha).1).1
    | some o => exact g.ext a o (by show (if a ∈ B then H a else F a) = some o; rw [if_pos ha]; exact w)
  have kB : ∀ a ∈ k, a ∉ B := fun a ha z => by
    have := (Rep.alive t rp a ha).2
    rw [gB a z] at this
    exact (s.alive a (hB1 a z).1).1 this
  have g2 : Go F H (· ∈ ft) (fun a => if a ∈ B then none else F' a) H' (· ∈ k) := by
    refine ⟨fun a o ea => ?_, fun a o ea => ?_, g.frame, fun b eb => ?_, g.fresh⟩
    · show (if a ∈ B then none else F' a) = some o
      have nB : a ∉ B := fun z => by
        have := (s.alive a (hB1 a z).1).2
        rw [this] at ea; cases ea
      rw [if_neg nB]
      exact g.ext a o (by show (if a ∈ B then H a else F a) = some o; rw [if_neg nB]; exact ea)
    · have ea : (if a ∈ B then none else F' a) = some o := ea
      by_cases z : a ∈ B
      · rw [if_pos z] at ea; cases ea
      · rw [if_neg z] at ea; exact g.sub a o ea
    · have eb : (if b ∈ B then none else F' b) ≠ none := eb
      by_cases z : b ∈ B
      · rw [if_pos z] at eb; exact absurd rfl eb
      · rw [if_neg z] at eb
        rcases g.nofz b eb with q | q | q
        · have q : (if b ∈ B then H b else F b) ≠ none := q
          rw [if_neg z] at q
          exact .inl q
        · exact .inr (.inl q)
        · exact .inr (.inr q)
  have rp2 : Rep K ca (fun a => if a ∈ B then none else F' a) H' t v k := by
    by_cases hB : B = []
    · subst hB
      have : (fun a => if a ∈ ([] : List Addr) then none else F' a) = F' := funext fun a => if_neg (fun z => nomatch z)
      rw [this]
      exact rp
    · have hn : t.nfz = true := by
        have : bs.any Bop.bo = true := by
          cases w : bs.any Bop.bo with
          | true => rfl
          | false => exact absurd (hB2 w) hB
        rw [this] at hnfz
        simpa using hnfz
      refine Rep.unb (fun a xs o z hz => ?_) t hn rp (fun a ha => ?_)
      · have nB : a ∉ B := fun zb => by
          have := (hB1 a zb).2 o ((gB a zb).symm.trans z)
          rcases hz with rfl | ⟨ob, rfl⟩
          · exact this.1 xs rfl
          · exact this.2 ob _ rfl
        show (if a ∈ B then none else F' a) = _
        rw [if_neg nB]; exact z
      · show (if a ∈ B then none else F' a) = none
        by_cases z : a ∈ B
        · rw [if_pos z]
        · rw [if_neg z]; exact (Rep.alive t rp a ha).2
  refine q v H' _ k g2 ⟨rp2, nk, fun a ha z => ?_⟩ (s.of_go g2 fun a ha z => off a z ha)
  rcases g.fresh a ha with w | w
  · exact off a w z
  · exact (s.alive a z).1 w
theorem te_op {md : List Nat} {r : List V → Hp → VK → Prop} {o : List T → R T} {f : AM} {Q : VK} (hc : CallS K ca r o) (h : TEof K ca md (eOp o f) σ H Q) : TAof K ca md f σ H (fun vs H1 => r vs H1 Q) := by
  obtain ⟨F, env, fp, t, env', s, e, k⟩ := h
  obtain ⟨⟨bs, env1⟩, e1, e⟩ := bind_ok e
  obtain ⟨t', e2, e⟩ := bind_ok e
  cases e
  refine ⟨F, env, fp, bs, env', s, e1, fun vs H1 F1 fp1 ft g1 k1 s1 o1 n1 d1 => ?_⟩
  refine op_back hc s1 o1 n1 d1 e2 fun v H2 F2 kk g2 tm s2 => ?_
  refine k v H2 F2 fp1 kk (g1.trans g2 (fun a z => .inr z) fun a z => ?_) k1 s2 tm
  rcases z with z | z
  · exact .inr (.inl z)
  · exact .inl z
end
end QL
namespace QL
open PySem L2

inductive Fl where
  | nx | bk | ct | rt (t : T)
abbrev SM := En → R (Fl × En)
def fpSet (fp : Fp) (i : Nat) (f : List Addr) : Fp := fun j => if j = i then f else fp j
theorem fpSet_same {fp : Fp} {i : Nat} {f : List Addr} : fpSet fp i f i = f := if_pos rfl
theorem fpSet_ne {fp : Fp} {i j : Nat} {f : List Addr} (h : j ≠ i) : fpSet fp i f j = fp j := if_neg h
theorem ow_fpSet {fp : Fp} {i : Nat} {f : List Addr} {a : Addr} (h : Ow (fpSet fp i f) a) : Ow fp a ∨ a ∈ f := by
  obtain ⟨j, hj⟩ := h
  by_cases e : j = i
  · subst e; rw [fpSet_same] at hj; exact .inr hj
  · rw [fpSet_ne e] at hj; exact .inl ⟨j, hj⟩
def Pin (pn : List Nat) (σ σ' : St) : Prop := ∀ i, i ∈ pn → σ'[i]? = σ[i]?
theorem Pin.refl {pn : List Nat} {σ : St} : Pin pn σ σ := fun _ _ => rfl
theorem Pin.trans {pn : List Nat} {σ σ1 σ2 : St} (a : Pin pn σ σ1) (b : Pin pn σ1 σ2) : Pin pn σ σ2 := fun i h => (b i h).trans (a i h)

section
variable {K : PySem.W.Frag} {ca : Ca} {F F' F1 H H' H1 : Hp} {O O' : Addr → Prop} {σ : St} {env : En} {fp : Fp} {t : T} {v : V} {fv : List Addr} {ts : List T} {vs : List V}

theorem SR.put {i : Nat} (s : SR K ca F H σ env fp) (m : Tm K ca F H fp t v fv) (hi : i < env.length) : SR K ca F H (σ.set i (some v)) (env.set i (some t)) (fpSet fp i fv) where
  sub := s.sub
  slot := fun j u e => by
    by_cases h : j = i
    · subst h
      rw [List.getElem?_set_self hi] at e
      cases e
      exact ⟨v, List.getElem?_set_self (by rw [← s.len]; exact hi), by rw [fpSet_same]; exact m.rep⟩
    · rw [List.getElem?_set_ne (Ne.symm h)] at e
      obtain ⟨w, e1, r⟩ := s.slot j u e
      exact ⟨w, by rw [List.getElem?_set_ne (Ne.symm h)]; exact e1, by rw [fpSet_ne h]; exact r⟩
  alive := fun a ha => by
    rcases ow_fpSet ha with h | h
    · exact s.alive a h
    · exact Rep.alive t m.rep a h
  one := fun j k a hj hk => by
    by_cases h : j = i
    · by_cases h' : k = i
      · rw [h, h']
      · subst h
        rw [fpSet_same] at hj
        rw [fpSet_ne h'] at hk
        exact absurd ⟨k, hk⟩ (m.off a hj)
    · by_cases h' : k = i
      · subst h'
        rw [fpSet_same] at hk
        rw [fpSet_ne h] at hj
        exact absurd ⟨j, hj⟩ (m.off a hk)
      · rw [fpSet_ne h] at hj
        rw [fpSet_ne h'] at hk
        exact s.one j k a hj hk
  nd := fun j => by
    by_cases h : j = i
    · subst h; rw [fpSet_same]; exact m.nd
    · rw [fpSet_ne h]; exact s.nd j
  len := by rw [List.length_set, List.length_set]; exact s.len
/-- a slot is no longer told of -/
theorem SR.drop {i : Nat} (s : SR K ca F H σ env fp) : SR K ca F H σ (env.set i none) (fpSet fp i []) where
  sub := s.sub
  slot := fun j u e => by
    by_cases h : j = i
    · subst h
      by_cases hi : j < env.length
      · rw [List.getElem?_set_self hi] at e; cases e
      · rw [List.getElem?_eq_none (by rw [List.length_set]; omega)] at e; cases e
    · rw [List.getElem?_set_ne (Ne.symm h)] at e
      obtain ⟨w, e1, r⟩ := s.slot j u e
      exact ⟨w, e1, by rw [fpSet_ne h]; exact r⟩
  alive := fun a ha => by
    rcases ow_fpSet ha with h | h
    · exact s.alive a h
    · cases h
  one := fun j k a hj hk => by
    by_cases h : j = i
    · subst h; rw [fpSet_same] at hj; cases hj
    · by_cases h' : k = i
      · subst h'; rw [fpSet_same] at hk; cases hk
      · rw [fpSet_ne h] at hj
        rw [fpSet_ne h'] at hk
        exact s.one j k a hj hk
  nd := fun j => by
    by_cases h : j = i
    · subst h; rw [fpSet_same]; exact List.nodup_nil
    · rw [fpSet_ne h]; exact s.nd j
  len := by rw [List.length_set]; exact s.len

/-- the ends of a statement, wanted from a later state -/
def EndsFrom (K : PySem.W.Frag) (ca : Ca) (pn : List Nat) (F H : Hp) (σ : St) (fp : Fp) (D : Ends) (fl : Fl) (env' : En) : Prop :=
  match fl with
  | .nx => ∀ σ' H' F' fp', Go F H (Ow fp) F' H' (Ow fp') → SR K ca F' H' σ' env' fp' → Pin pn σ σ' → D.nx σ' H'
  | .bk => ∀ σ' H' F' fp', Go F H (Ow fp) F' H' (Ow fp') → SR K ca F' H' σ' env' fp' → Pin pn σ σ' → D.bk σ' H'
  | .ct => ∀ σ' H' F' fp', Go F H (Ow fp) F' H' (Ow fp') → SR K ca F' H' σ' env' fp' → Pin pn σ σ' → D.ct σ' H'
  | .rt t => ∀ σ' H' F' fp' v fv, Go F H (Ow fp) F' H' (fun a => Ow fp' a ∨ a ∈ fv) → SR K ca F' H' σ' env' fp' → Pin pn σ σ' → Tm K ca F' H' fp' t v fv → D.rt v H'
theorem EndsFrom.shift {pn : List Nat} {D : Ends} {σ1 : St} {fp1 : Fp} {env' : En} {fl : Fl} (k : EndsFrom K ca pn F H σ fp D fl env') (g1 : Go F H (Ow fp) F1 H1 (Ow fp1)) (p1 : Pin pn σ σ1) : EndsFrom K ca pn F1 H1 σ1 fp1 D fl env' := by
  cases fl with
  | nx => exact fun σ2 H2 F2 fp2 g2 s2 p2 => k σ2 H2 F2 fp2 (g1.trans g2 (fun _ z => z) fun _ z => .inl z) s2 (p1.trans p2)
  | bk => exact fun σ2 H2 F2 fp2 g2 s2 p2 => k σ2 H2 F2 fp2 (g1.trans g2 (fun _ z => z) fun _ z => .inl z) s2 (p1.trans p2)
  | ct => exact fun σ2 H2 F2 fp2 g2 s2 p2 => k σ2 H2 F2 fp2 (g1.trans g2 (fun _ z => z) fun _ z => .inl z) s2 (p1.trans p2)
  | rt t => exact fun σ2 H2 F2 fp2 v fv g2 s2 p2 => k σ2 H2 F2 fp2 v fv (g1.trans g2 (fun _ z => z) fun _ z => .inl z) s2 (p1.trans p2)
def TSof (K : PySem.W.Frag) (ca : Ca) (pn : List Nat) (f : SM) : TS := fun D σ H => ∃ F env fp fl env', SR K ca F H σ env fp ∧ f env = .ok (fl, env') ∧ EndsFrom K ca pn F H σ fp D fl env'

def sNil : SM := fun env => .ok (.nx, env)
def sSeq (f g : SM) : SM := fun env => do
  let (fl, env1) ← f env
  match fl with
  | .nx => g env1
  | fl => .ok (fl, env1)
theorem ts_nil {pn : List Nat} {D : Ends} (h : TSof K ca pn sNil D σ H) : tNext D σ H := by
  obtain ⟨F, env, fp, fl, env', s, e, k⟩ := h
  cases e
  exact k σ H F fp (Go.refl s.sub fun _ z => z) s Pin.refl
def sBreak : SM := fun env => .ok (.bk, env)
def sCont : SM := fun env => .ok (.ct, env)
theorem ts_cont {pn : List Nat} {D : Ends} (h : TSof K ca pn sCont D σ H) : tCont D σ H := by
  obtain ⟨F, env, fp, fl, env', s, e, k⟩ := h
  cases e
  exact k σ H F fp (Go.refl s.sub fun _ z => z) s Pin.refl
theorem ts_seq {pn : List Nat} {f g : SM} {D : Ends} (h : TSof K ca pn (sSeq f g) D σ H) : tSeq (TSof K ca pn f) (TSof K ca pn g) D σ H := by
  obtain ⟨F, env, fp, fl, env', s, e, k⟩ := h
  obtain ⟨⟨fl1, env1⟩, e1, e⟩ := bind_ok e
  refine ⟨F, env, fp, fl1, env1, s, e1, ?_⟩
  cases fl1 with
  | nx =>
    intro σ1 H1 F1 fp1 g1 s1 p1
    exact ⟨F1, env1, fp1, fl, env', s1, e, k.shift g1 p1⟩
  | bk => cases e; exact k
  | ct => cases e; exact k
  | rt t => cases e; exact k
theorem Go.full {md : List Nat} {env' : En} {fp' : Fp} {P : Addr → Prop} (g : Go F H (OwM md fp) F' H' (fun a => OwM md fp' a ∨ P a)) (k : Keep md env fp env' fp') : Go F H (Ow fp) F' H' (fun a => Ow fp' a ∨ P a) where
  ext := g.ext
  sub := g.sub
  frame := fun b o e n => g.frame b o e fun z => n z.ow
  nofz := fun b e => (g.nofz b e).imp id (Or.imp OwM.ow id)
  fresh := fun b e => by
    rcases e with ⟨i, hi⟩ | e
    · by_cases hm : i ∈ md
      · exact (g.fresh b (.inl ⟨i, hm, hi⟩)).imp OwM.ow id
      · rw [k.fp i hm] at hi
        exact .inl ⟨i, hi⟩
    · exact (g.fresh b (.inr e)).imp OwM.ow id
theorem Go.full0 {md : List Nat} {env' : En} {fp' : Fp} (g : Go F H (OwM md fp) F' H' (OwM md fp')) (k : Keep md env fp env' fp') : Go F H (Ow fp) F' H' (Ow fp') :=
  (Go.full (P := fun _ => False) (g.weak (fun _ z => z) fun _ z => z.elim id False.elim) k).weak (fun _ z => z) fun _ z => .inl z

def sIf (c : En → R (Bool × En)) (f g : SM) : SM := fun env => do
  let (b, env1) ← c env
  if b then f env1 else g env1
theorem ts_if {pn md : List Nat} {c : En → R (Bool × En)} {f g : SM} {D : Ends} (h : TSof K ca pn (sIf c f g) D σ H) : tIfS (TTof K ca md c) (TSof K ca pn f) (TSof K ca pn g) D σ H := by
  obtain ⟨F, env, fp, fl, env', s, e, k⟩ := h
  obtain ⟨⟨b, env1⟩, e1, e⟩ := bind_ok e
  refine ⟨F, env, fp, b, env1, s, e1, fun H1 F1 fp1 g1 k1 s1 => ?_⟩
  cases b with
  | true => exact ⟨F1, env1, fp1, fl, env', s1, e, k.shift (g1.full0 k1) Pin.refl⟩
  | false => exact ⟨F1, env1, fp1, fl, env', s1, e, k.shift (g1.full0 k1) Pin.refl⟩
def sDrop (f : EM) : SM := fun env => do
  let (_, env1) ← f env
  .ok (.nx, env1)
theorem ts_drop {pn md : List Nat} {f : EM} {D : Ends} (h : TSof K ca pn (sDrop f) D σ H) : tDrop (TEof K ca md f) D σ H := by
  obtain ⟨F, env, fp, fl, env', s, e, k⟩ := h
  obtain ⟨⟨t, env1⟩, e1, e⟩ := bind_ok e
  cases e
  exact ⟨F, env, fp, t, env', s, e1, fun v H1 F1 fp1 fv g1 k1 s1 _ => k σ H1 F1 fp1 ((g1.full k1).weak (fun _ z => z) fun _ z => .inl z) s1 Pin.refl⟩
def sRet (f : EM) : SM := fun env => do
  let (t, env1) ← f env
  .ok (.rt t, env1)
theorem ts_ret {pn md : List Nat} {f : EM} {D : Ends} (h : TSof K ca pn (sRet f) D σ H) : tRet (TEof K ca md f) D σ H := by
  obtain ⟨F, env, fp, fl, env', s, e, k⟩ := h
  obtain ⟨⟨t, env1⟩, e1, e⟩ := bind_ok e
  cases e
  exact ⟨F, env, fp, t, env', s, e1, fun v H1 F1 fp1 fv g1 k1 s1 m => k σ H1 F1 fp1 v fv (g1.full k1) s1 Pin.refl m⟩
def sRetN : SM := fun env => .ok (.rt .non, env)
theorem ts_retN {pn : List Nat} {D : Ends} (h : TSof K ca pn sRetN D σ H) : tRetN D σ H := by
  obtain ⟨F, env, fp, fl, env', s, e, k⟩ := h
  cases e
  exact k σ H F fp .non [] (Go.refl s.sub fun _ z => z.elim id (fun q => nomatch q)) s Pin.refl ⟨by simp only [Rep]; trivial, List.nodup_nil, fun _ z => nomatch z⟩

def GTof (K : PySem.W.Frag) (ca : Ca) (tv : List Nat) (tg : T → En → R En) : TG := fun v σ H Q => ∃ F env fp t fv env', SR K ca F H σ env fp ∧ Tm K ca F H fp t v fv ∧ tg t env = .ok env' ∧
  ∀ σ' fp', (∀ a, Ow fp' a → Ow fp a ∨ a ∈ fv) → SR K ca F H σ' env' fp' → Keep tv env fp env' fp' → (∀ i, i ∉ tv → σ'[i]? = σ[i]?) → σ'.length = σ.length → Q σ' H
def GLof (K : PySem.W.Frag) (ca : Ca) (tv : List Nat) (tg : List T → En → R En) : TGs := fun vs σ H Q => ∃ F env fp ts fv env', SR K ca F H σ env fp ∧ Reps K ca F H ts vs fv ∧ fv.Nodup ∧ (∀ a ∈ fv, ¬ Ow fp a) ∧ tg ts env = .ok env' ∧
  ∀ σ' fp', (∀ a, Ow fp' a → Ow fp a ∨ a ∈ fv) → SR K ca F H σ' env' fp' → Keep tv env fp env' fp' → (∀ i, i ∉ tv → σ'[i]? = σ[i]?) → σ'.length = σ.length → Q σ' H
def gN (i : Nat) : T → En → R En := fun t env => if i < env.length then .ok (env.set i (some t)) else stk
theorem tg_name {tv : List Nat} {i : Nat} {Q : St → Hp → Prop} (hp : i ∈ tv) (h : GTof K ca tv (gN i) v σ H Q) : gName i v σ H Q := by
  obtain ⟨F, env, fp, t, fv, env', s, m, e, k⟩ := h
  unfold gN at e
  split at e
  case isFalse => cases e
  case isTrue hi =>
    cases e
    exact k (σ.set i (some v)) (fpSet fp i fv) (fun a => ow_fpSet) (s.put m hi) ⟨fun j hj => fpSet_ne fun z => hj (by rw [z]; exact hp), fun j hj => List.getElem?_set_ne fun z => hj (by rw [← z]; exact hp)⟩ (fun j hj => List.getElem?_set_ne fun z => hj (by rw [← z]; exact hp)) (List.length_set ..)
def gsN : List T → En → R En := fun ts env => match ts with
  | [] => .ok env
  | _ => stk
def gsC (g : T → En → R En) (r : List T → En → R En) : List T → En → R En := fun ts env => match ts with
  | t :: ts => do
    let env1 ← g t env
    r ts env1
  | _ => stk
theorem tgs_nil {tv : List Nat} {Q : St → Hp → Prop} (h : GLof K ca tv gsN vs σ H Q) : gNil vs σ H Q := by
  obtain ⟨F, env, fp, ts, fv, env', s, r, n, o, e, k⟩ := h
  cases ts with
  | nil =>
    cases e
    simp only [Reps] at r
    exact ⟨r.1, k σ fp (fun a z => .inl z) s Keep.refl (fun _ _ => rfl) rfl⟩
  | cons t ts => cases e
theorem tgs_cons {tv : List Nat} {g : T → En → R En} {r : List T → En → R En} {Q : St → Hp → Prop} (h : GLof K ca tv (gsC g r) vs σ H Q) : gCons (GTof K ca tv g) (GLof K ca tv r) vs σ H Q := by
  obtain ⟨F, env, fp, ts, fv, env', s, rp, n, o, e, k⟩ := h
  cases ts with
  | nil => cases e
  | cons t ts =>
    obtain ⟨env1, e1, e⟩ := bind_ok e
    simp only [Reps] at rp
    obtain ⟨v, us, f, f', h1, r1, r2, h2⟩ := rp
    subst h2
    have hn := List.nodup_append.mp n
    refine ⟨v, us, h1, F, env, fp, t, f, env1, s, ⟨r1, hn.1, fun a ha => o a (List.mem_append_left _ ha)⟩, e1, fun σ1 fp1 q1 s1 k1 p1 l1 => ?_⟩
    refine ⟨F, env1, fp1, ts, f', env', s1, r2, hn.2.1, fun a ha z => ?_, e, fun σ2 fp2 q2 s2 k2 p2 l2 => k σ2 fp2 (fun a z => ?_) s2 (k1.trans k2) (fun i hi => (p2 i hi).trans (p1 i hi)) (l2.trans l1)⟩
    · rcases q1 a z with w | w
      · exact o a (List.mem_append_right _ ha) w
      · exact hn.2.2 a w a ha rfl
    · rcases q2 a z with w | w
      · exact (q1 a w).imp id fun q => List.mem_append_left _ q
      · exact .inr (List.mem_append_right _ w)
def gT (n : Nat) (r : List T → En → R En) : T → En → R En := fun t env => match t with
  | .tup ts => if ts.length = n then r ts env else stk
  | .pr ts => if ts.length = n then r ts env else stk
  | .lst false ts => if ts.length = n then r ts env else stk
  | _ => stk
/-- a tuple or a list of n parts, taken apart -/
def gSq (K : PySem.W.Frag) (n : Nat) (t : TGs) : TG := fun v σ H Q => gTup K n t v σ H Q ∨ gLst K n t v σ H Q
theorem pg_sq {X : Cx} {pos : Pos} {es : List Expr} {k : Nat} {t : TGs} {n : Nat} (hc : X.calm = true) (h : PGs X es t)
    (hn : (assignEach es X.env).length = n := by rfl) (hst : (assignEach es X.env).findIdx? (·.1) = none := by rfl) : PG X (.Tuple es k pos) (gSq X.K n t) :=
  ⟨fun pins s σ H v u Q I r hw => hw.elim (fun hw => (pg_tup hc h hn hst).run pins s σ H v u Q I r hw) fun hw => (pg_lst hc h hn hst).run pins s σ H v u Q I r hw⟩
theorem tg_tup {tv : List Nat} {n : Nat} {r : List T → En → R En} {Q : St → Hp → Prop} (h : GTof K ca tv (gT n r) v σ H Q) : gSq K n (GLof K ca tv r) v σ H Q := by
  obtain ⟨F, env, fp, t, fv, env', s, m, e, k⟩ := h
  cases t with
  | tup ts =>
    have e : (if ts.length = n then r ts env else stk) = .ok env' := e
    split at e
    case isFalse => cases e
    case isTrue hl =>
      have rp := m.rep
      simp only [Rep] at rp
      obtain ⟨a, us, h1, h2, h3⟩ := rp
      exact .inl ⟨a, us, h1, s.sub.sqT h2.t, by rw [Reps.length h3, hl], F, env, fp, ts, fv, env', s, h3, m.nd, m.off, e, k⟩
  | pr ts =>
    have e : (if ts.length = n then r ts env else stk) = .ok env' := e
    split at e
    case isFalse => cases e
    case isTrue hl =>
      have rp := m.rep
      simp only [Rep] at rp
      obtain ⟨a, us, h1, h2, h3⟩ := rp
      exact .inl ⟨a, us, h1, s.sub.sqT h2, by rw [Reps.length h3, hl], F, env, fp, ts, fv, env', s, h3, m.nd, m.off, e, k⟩
  | lst o ts =>
    cases o with
    | true => cases e
    | false =>
      have e : (if ts.length = n then r ts env else stk) = .ok env' := e
      split at e
      case isFalse => cases e
      case isTrue hl =>
        have rp := m.rep
        simp only [Rep] at rp
        obtain ⟨a, us, h1, h2, h3, hf⟩ := rp
        subst hf
        exact .inr ⟨a, us, h1, s.sub.sqL (SqL.of h2), by rw [Reps.length h3, hl], F, env, fp, ts, [], env', s, h3, m.nd, m.off, e, k⟩
  | _ => cases e
/-- nothing pinned is stored to -/
abbrev Apt (tv pn : List Nat) : Prop := ∀ i, i ∈ pn → i ∉ tv

def sAsg (f : EM) (g : T → En → R En) : SM := fun env => do
  let (t, env1) ← f env
  let env2 ← g t env1
  .ok (.nx, env2)
theorem ts_asg {pn md tv : List Nat} {f : EM} {g : T → En → R En} {D : Ends} (hp : Apt tv pn) (h : TSof K ca pn (sAsg f g) D σ H) : tAsg (TEof K ca md f) (GTof K ca tv g) D σ H := by
  obtain ⟨F, env, fp, fl, env', s, e, k⟩ := h
  obtain ⟨⟨t, env1⟩, e1, e⟩ := bind_ok e
  obtain ⟨env2, e2, e⟩ := bind_ok e
  cases e
  refine ⟨F, env, fp, t, env1, s, e1, fun v H1 F1 fp1 fv g1 k1 s1 m => ?_⟩
  refine ⟨F1, env1, fp1, t, fv, env', s1, m, e2, fun σ2 fp2 q2 s2 _ p2 _ => ?_⟩
  exact k σ2 H1 F1 fp2 ((g1.full k1).weak (fun _ z => z) fun a z => (q2 a z)) s2 fun i hi => p2 i (hp i hi)
def two : List Bop → Option (T × T)
  | [.tmp x, .tmp y] => some (x, y)
  | _ => none
theorem two_some {bs : List Bop} {x y : T} (h : two bs = some (x, y)) : bs = [.tmp x, .tmp y] := by
  unfold two at h
  split at h
  · cases h; rfl
  · cases h
/-- a, b = x, y -/
def sPar (f : AM) (i j : Nat) : SM := fun env => do
  let (bs, env1) ← f env
  match two bs with
  | some (x, y) => if i < env1.length ∧ j < env1.length then .ok (.nx, (env1.set i (some x)).set j (some y)) else stk
  | none => stk
theorem ts_par {pn md : List Nat} {f : AM} {i j : Nat} {D : Ends} (hi : i ∉ pn) (hj : j ∉ pn) (hij : i ≠ j) (h : TSof K ca pn (sPar f i j) D σ H) : tPar i j (TAof K ca md f) D σ H := by
  obtain ⟨F, env, fp, fl, env', s, e, k⟩ := h
  obtain ⟨⟨bs, env1⟩, e1, e⟩ := bind_ok e
  cases hbs : two bs with
  | none => simp only [hbs] at e; cases e
  | some xy =>
    obtain ⟨x, y⟩ := xy
    simp only [hbs] at e
    split at e
    case isFalse => cases e
    case isTrue hl =>
      cases e
      have hbs := two_some hbs
      subst hbs
      refine ⟨F, env, fp, _, env1, s, e1, fun vs H1 F1 fp1 ft g1 k1 s1 o n1 d1 => ?_⟩
      simp only [Ops] at o
      obtain ⟨v, us, f1, f2, h1, r1, ⟨w, us2, f3, f4, h2, r2, ⟨h3, h4⟩, h5⟩, h6⟩ := o
      subst h3 h4 h5 h6 h2 h1
      rw [List.append_nil] at *
      have hn := List.nodup_append.mp n1
      refine ⟨v, w, rfl, ?_⟩
      have s2 := s1.put (i := i) (t := x) (v := v) (fv := f1) ⟨r1, hn.1, fun a ha => d1 a (List.mem_append_left _ ha)⟩ hl.1
      have s3 := s2.put (i := j) (t := y) (v := w) (fv := f3) ⟨r2, hn.2.1, fun a ha z => by
        rcases ow_fpSet z with z | z
        · exact d1 a (List.mem_append_right _ ha) z
        · exact hn.2.2 a z a ha rfl⟩ (by rw [List.length_set]; exact hl.2)
      refine k _ H1 F1 _ ((g1.full k1).weak (fun _ z => z) fun a z => ?_) s3 fun q hq => ?_
      · rcases ow_fpSet z with z | z
        · rcases ow_fpSet z with z | z
          · exact .inl z
          · exact .inr (List.mem_append_left _ z)
        · exact .inr (List.mem_append_right _ z)
      · rw [List.getElem?_set_ne (fun z => hj (by rw [z]; exact hq)), List.getElem?_set_ne (fun z => hi (by rw [z]; exact hq))]
def three : List Bop → Option (T × T × T)
  | [.tmp x, .tmp y, .tmp z] => some (x, y, z)
  | _ => none
/-- a, b, c = x, y, z -/
def sPar3 (f : AM) (i j l : Nat) : SM := fun env => do
  let (bs, env1) ← f env
  match three bs with
  | some (x, y, z) => if i < env1.length ∧ j < env1.length ∧ l < env1.length then .ok (.nx, ((env1.set i (some x)).set j (some y)).set l (some z)) else stk
  | none => stk
def whileGo (c : En → R (Bool × En)) (body : SM) : Nat → SM
  | 0 => fun _ => stk
  | n + 1 => fun env => do
    let (b, env1) ← c env
    if b then do
      let (fl, env2) ← body env1
      match fl with
      | .nx => whileGo c body n env2
      | .ct => whileGo c body n env2
      | .bk => .ok (.nx, env2)
      | .rt t => .ok (.rt t, env2)
    else .ok (.nx, env1)
def sWhile (n : Nat) (c : En → R (Bool × En)) (body : SM) : SM := whileGo c body n
/-- an iterator that gives these, once -/
def Iter (K : PySem.W.Frag) (ca : Ca) (J : It) (ts : List T) (F : Hp) : Prop :=
  ∃ G Y, L2.Walk J ts.length G Y ∧ (∀ H, Sub F H → G H) ∧ ∀ i t F1 H1 x H2, ts[i]? = some t → Sub F F1 → Sub F1 H1 → Y i H1 x H2 → ∃ F2, Go F1 H1 (fun _ => False) F2 H2 (fun _ => False) ∧ Rep K ca F2 H2 t x []
def ISof (K : PySem.W.Frag) (ca : Ca) (md : List Nat) (f : En → R (List T × En)) : TI := fun σ H Rr => ∃ F env fp ts env', SR K ca F H σ env fp ∧ f env = .ok (ts, env') ∧
  ∀ J H' F' fp', Go F H (OwM md fp) F' H' (OwM md fp') → Keep md env fp env' fp' → SR K ca F' H' σ env' fp' → Iter K ca J ts F' → Rr J H'
def forGo (g : T → En → R En) (body : SM) : List T → SM
  | [] => fun env => .ok (.nx, env)
  | t :: ts => fun env => do
    let env1 ← g t env
    let (fl, env2) ← body env1
    match fl with
    | .nx => forGo g body ts env2
    | .ct => forGo g body ts env2
    | .bk => .ok (.nx, env2)
    | .rt t => .ok (.rt t, env2)
def sFor (src : En → R (List T × En)) (g : T → En → R En) (body : SM) : SM := fun env => do
  let (ts, env1) ← src env
  forGo g body ts env1
theorem ts_for {pn md tv : List Nat} {src : En → R (List T × En)} {g : T → En → R En} {body : SM} {D : Ends} (hp : Apt tv pn) (h : TSof K ca pn (sFor src g body) D σ H) : tFor (ISof K ca md src) (GTof K ca tv g) (TSof K ca pn body) D σ H := by
  obtain ⟨F, env, fp, fl, env', s, e, k⟩ := h
  obtain ⟨⟨ts, env1⟩, e1, e⟩ := bind_ok e
  refine ⟨F, env, fp, ts, env1, s, e1, fun J H1 F1 fp1 g1 kp1 s1 it => ?_⟩
  obtain ⟨G, Y, w, hG, hY⟩ := it
  have k1 := k.shift (g1.full0 kp1) Pin.refl
  have e : forGo g body ts env1 = .ok (fl, env') := e
  refine for_it w (fun i σ2 H2 => (∃ F2 env2 fp2, SR K ca F2 H2 σ2 env2 fp2 ∧ Sub F1 F2 ∧ forGo g body (ts.drop i) env2 = .ok (fl, env') ∧ EndsFrom K ca pn F2 H2 σ2 fp2 D fl env')) ⟨F1, env1, fp1, s1, Sub.refl _, e, k1⟩ (fun i σ2 H2 _ ⟨F2, _, _, s2, sb, _⟩ => hG H2 (sb.trans s2.sub)) ?_ ?_
  · rintro i x σ2 H2 H3 hi ⟨F2, env2, fp2, s2, sb, e2, k2⟩ y
    have hd : ts.drop i = ts[i] :: ts.drop (i + 1) := List.drop_eq_getElem_cons hi
    rw [hd] at e2
    obtain ⟨env3, e3, e4⟩ := bind_ok e2
    obtain ⟨⟨fl5, env5⟩, e5, e6⟩ := bind_ok e4
    obtain ⟨F3, g3, r3⟩ := hY i ts[i] F2 H2 x H3 (by simp [hi]) sb s2.sub y
    have s3 := s2.of_go g3 (fun _ _ z => z)
    refine ⟨F3, env2, fp2, ts[i], [], env3, s3, ⟨r3, List.nodup_nil, fun _ z => nomatch z⟩, e3, fun σ4 fp4 q4 s4 _ p4' _ => ?_⟩
    have p4 : Pin pn σ2 σ4 := fun i hi => p4' i (hp i hi)
    have q4' : ∀ a, Ow fp4 a → Ow fp2 a := fun a z => (q4 a z).elim id (fun w => nomatch w)
    have g24 : Go F2 H2 (Ow fp2) F3 H3 (Ow fp4) := (Go.weak (P := Ow fp2) (P' := fun a => Ow fp2 a ∨ False) ⟨g3.ext, g3.sub, fun b o e n => g3.frame b o e (fun z => z), fun b e => (g3.nofz b e).imp id (Or.imp False.elim id), fun b (z : Ow fp2 b) => .inl z⟩ (fun _ z => z) fun _ z => z.elim id False.elim).weak (fun _ z => z) fun a z => .inl (q4' a z)
    have k4 := k2.shift g24 p4
    refine ⟨F3, env3, fp4, fl5, env5, s4, e5, ?_⟩
    cases fl5 with
    | nx => exact fun σ6 H6 F6 fp6 g6 s6 p6 => ⟨F6, env5, fp6, s6, (sb.trans g3.ext).trans g6.ext, e6, k4.shift g6 p6⟩
    | ct => exact fun σ6 H6 F6 fp6 g6 s6 p6 => ⟨F6, env5, fp6, s6, (sb.trans g3.ext).trans g6.ext, e6, k4.shift g6 p6⟩
    | bk =>
      have e6 : Except.ok (Fl.nx, env5) = Except.ok (fl, env') := e6
      cases e6
      exact fun σ6 H6 F6 fp6 g6 s6 p6 => k4 σ6 H6 F6 fp6 g6 s6 p6
    | rt t =>
      have e6 : Except.ok (Fl.rt t, env5) = Except.ok (fl, env') := e6
      cases e6
      exact fun σ6 H6 F6 fp6 v fv g6 s6 p6 m6 => k4 σ6 H6 F6 fp6 v fv g6 s6 p6 m6
  · rintro σ2 H2 ⟨F2, env2, fp2, s2, sb, e2, k2⟩
    rw [List.drop_length] at e2
    have e2 : Except.ok (Fl.nx, env2) = Except.ok (fl, env') := e2
    cases e2
    exact k2 σ2 H2 F2 fp2 (Go.refl s2.sub fun _ z => z) s2 Pin.refl
end
end QL
namespace QL
open PySem L2
/-- how long a made list may be -/
def big : Nat := 1000000
theorem big_le {n : Nat} (h : n ≤ big) : n ≤ sizeLine := Nat.le_trans h (by decide)
theorem big_lt {n : Nat} (h : n < big) : n < sizeLine := Nat.lt_of_lt_of_le h (by decide)

def wipeE (env : En) : List Nat → En
  | [] => env
  | v :: vs => (wipeE env vs).set v none
def restE (env1 env2 : En) : List Nat → En
  | [] => env2
  | v :: vs => (restE env1 env2 vs).set v (env1[v]?.join)
def fpW (fp : Fp) (vs : List Nat) : Fp := fun j => if j ∈ vs then [] else fp j
theorem fpW_in {fp : Fp} {vs : List Nat} {j : Nat} (h : j ∈ vs) : fpW fp vs j = [] := if_pos h
theorem fpW_out {fp : Fp} {vs : List Nat} {j : Nat} (h : j ∉ vs) : fpW fp vs j = fp j := if_neg h
theorem ow_fpW {fp : Fp} {vs : List Nat} {a : Addr} (h : Ow (fpW fp vs) a) : Ow fp a := by
  obtain ⟨j, hj⟩ := h
  by_cases z : j ∈ vs
  · rw [fpW_in z] at hj; cases hj
  · rw [fpW_out z] at hj; exact ⟨j, hj⟩
theorem wipeE_length (env : En) : ∀ vs : List Nat, (wipeE env vs).length = env.length
  | [] => rfl
  | v :: vs => by unfold wipeE; rw [List.length_set, wipeE_length env vs]
theorem restE_length (env1 env2 : En) : ∀ vs : List Nat, (restE env1 env2 vs).length = env2.length
  | [] => rfl
  | v :: vs => by unfold restE; rw [List.length_set, restE_length env1 env2 vs]
theorem wipeE_out {env : En} {j : Nat} : ∀ {vs : List Nat}, j ∉ vs → (wipeE env vs)[j]? = env[j]?
  | [], _ => rfl
  | v :: vs, h => by
    unfold wipeE
    rw [List.getElem?_set_ne (fun z => h (by rw [z]; exact List.mem_cons_self)), wipeE_out fun z => h (List.mem_cons_of_mem _ z)]
theorem wipeE_in {env : En} {j : Nat} : ∀ {vs : List Nat}, j ∈ vs → ∀ t, (wipeE env vs)[j]? ≠ some (some t)
  | [], h, _ => nomatch h
  | v :: vs, h, t => by
    unfold wipeE
    by_cases z : v = j
    · subst z
      by_cases hl : v < (wipeE env vs).length
      · rw [List.getElem?_set_self hl]; simp
      · rw [List.getElem?_eq_none (by rw [List.length_set]; omega)]; simp
    · rw [List.getElem?_set_ne z]
      rcases List.mem_cons.mp h with h | h
      · exact absurd h.symm z
      · exact wipeE_in h t
theorem restE_out {env1 env2 : En} {j : Nat} : ∀ {vs : List Nat}, j ∉ vs → (restE env1 env2 vs)[j]? = env2[j]?
  | [], _ => rfl
  | v :: vs, h => by
    unfold restE
    rw [List.getElem?_set_ne (fun z => h (by rw [z]; exact List.mem_cons_self)), restE_out fun z => h (List.mem_cons_of_mem _ z)]
theorem restE_in {env1 env2 : En} {j : Nat} (hl : env1.length = env2.length) : ∀ {vs : List Nat}, j ∈ vs → (restE env1 env2 vs)[j]? = env1[j]?
  | [], h => nomatch h
  | v :: vs, h => by
    unfold restE
    by_cases z : v = j
    · subst z
      by_cases hv : v < env2.length
      · rw [List.getElem?_set_self (by rw [restE_length]; exact hv), List.getElem?_eq_getElem (by omega : v < env1.length)]
        rfl
      · rw [List.getElem?_eq_none (by rw [List.length_set, restE_length]; omega), List.getElem?_eq_none (by omega)]
    · rw [List.getElem?_set_ne z]
      rcases List.mem_cons.mp h with h | h
      · exact absurd h.symm z
      · exact restE_in hl h
theorem wipe_out {σ : St} {j : Nat} : ∀ {vs : List Nat}, j ∉ vs → (wipe σ vs)[j]? = σ[j]?
  | [], _ => rfl
  | v :: vs, h => by
    unfold wipe
    rw [List.getElem?_set_ne (fun z => h (by rw [z]; exact List.mem_cons_self)), wipe_out fun z => h (List.mem_cons_of_mem _ z)]
theorem wipe_in {σ : St} {j : Nat} : ∀ {vs : List Nat}, j ∈ vs → (wipe σ vs)[j]? = if j < σ.length then some none else none
  | [], h => nomatch h
  | v :: vs, h => by
    unfold wipe
    by_cases z : v = j
    · subst z
      by_cases hv : v < σ.length
      · rw [List.getElem?_set_self (by rw [wipe_length]; exact hv), if_pos hv]
      · rw [List.getElem?_eq_none (by rw [List.length_set, wipe_length]; omega), if_neg hv]
    · rw [List.getElem?_set_ne z]
      rcases List.mem_cons.mp h with h | h
      · exact absurd h.symm z
      · exact wipe_in h
theorem wipe_eq {σ σ' : St} {vs : List Nat} (hl : σ'.length = σ.length) (h : ∀ i, i ∉ vs → σ'[i]? = (wipe σ vs)[i]?) : wipe σ' vs = wipe σ vs := by
  apply List.ext_getElem?
  intro i
  by_cases hi : i ∈ vs
  · rw [wipe_in hi, wipe_in hi, hl]
  · rw [wipe_out hi, h i hi]
section
variable {K : PySem.W.Frag} {ca : Ca} {F F' F1 H H' H1 : Hp} {O O' : Addr → Prop} {σ : St} {env : En} {fp : Fp} {t : T} {v : V} {fv : List Addr} {ts : List T} {vs : List Nat}
theorem SR.wiped (s : SR K ca F H σ env fp) (vs : List Nat) : SR K ca F H (wipe σ vs) (wipeE env vs) (fpW fp vs) where
  sub := s.sub
  slot := fun i t e => by
    have hi : i ∉ vs := fun z => wipeE_in z t e
    rw [wipeE_out hi] at e
    obtain ⟨v, e1, r⟩ := s.slot i t e
    exact ⟨v, by rw [wipe_out hi]; exact e1, by rw [fpW_out hi]; exact r⟩
  alive := fun a ha => s.alive a (ow_fpW ha)
  one := fun i j a hi hj => by
    by_cases z : i ∈ vs
    · rw [fpW_in z] at hi; cases hi
    · by_cases w : j ∈ vs
      · rw [fpW_in w] at hj; cases hj
      · rw [fpW_out z] at hi
        rw [fpW_out w] at hj
        exact s.one i j a hi hj
  nd := fun i => by
    by_cases z : i ∈ vs
    · rw [fpW_in z]; exact List.nodup_nil
    · rw [fpW_out z]; exact s.nd i
  len := by rw [wipeE_length, wipe_length]; exact s.len
/-- back from a block -/
theorem SR.rest {md : List Nat} {env2 : En} {fp2 : Fp} {F2 H2 : Hp} (s : SR K ca F H σ env fp) (s2 : SR K ca F2 H2 (wipe σ vs) env2 fp2) (g : Go F H (OwM md (fpW fp vs)) F2 H2 O') (hO : ∀ a, OwM md fp2 a → O' a)
    (k : ∀ i, i ∉ md → i ∉ vs → fp2 i = fp i) : SR K ca F2 H2 σ (restE env env2 vs) (fun j => if j ∈ vs then fp j else fp2 j) where
  sub := s2.sub
  slot := fun i t e => by
    by_cases z : i ∈ vs
    · rw [restE_in (by rw [s.len, s2.len, wipe_length]) z] at e
      obtain ⟨v, e1, r⟩ := s.slot i t e
      refine ⟨v, e1, ?_⟩
      rw [if_pos z]
      refine r.of_go g fun a ha ⟨j, hj, hj2⟩ => ?_
      by_cases w : j ∈ vs
      · rw [fpW_in w] at hj2; cases hj2
      · rw [fpW_out w] at hj2
        have := s.one i j a ha hj2
        subst this
        exact w z
    · rw [restE_out z] at e
      obtain ⟨v, e1, r⟩ := s2.slot i t e
      exact ⟨v, by rw [wipe_out z] at e1; exact e1, by rw [if_neg z]; exact r⟩
  alive := fun a ⟨i, hi⟩ => by
    have hi : a ∈ (if i ∈ vs then fp i else fp2 i) := hi
    by_cases z : i ∈ vs
    · rw [if_pos z] at hi
      obtain ⟨h1, h2⟩ := s.alive a ⟨i, hi⟩
      have nO : ¬ OwM md (fpW fp vs) a := fun ⟨j, hj, hj2⟩ => by
        by_cases w : j ∈ vs
        · rw [fpW_in w] at hj2; cases hj2
        · rw [fpW_out w] at hj2
          have := s.one i j a hi hj2
          subst this
          exact w z
      constructor
      · cases w : H a with
        | none => exact absurd w h1
        | some o => rw [g.frame a o w nO]; simp
      · cases w : F2 a with
        | none => rfl
        | some o =>
          exfalso
          rcases g.nofz a (by rw [w]; simp) with q | q | q
          · exact q h2
          · exact nO q
          · exact h1 q
    · rw [if_neg z] at hi
      exact s2.alive a ⟨i, hi⟩
  one := fun i j a hi hj => by
    have hi : a ∈ (if i ∈ vs then fp i else fp2 i) := hi
    have hj : a ∈ (if j ∈ vs then fp j else fp2 j) := hj
    have cross : ∀ i j, i ∈ vs → j ∉ vs → a ∈ fp i → a ∈ fp2 j → False := fun i j z w hi hj => by
      by_cases m : j ∈ md
      · rcases g.fresh a (hO a ⟨j, m, hj⟩) with q | q
        · obtain ⟨j', hj', hj2⟩ := q
          by_cases w' : j' ∈ vs
          · rw [fpW_in w'] at hj2; cases hj2
          · rw [fpW_out w'] at hj2
            have := s.one i j' a hi hj2
            subst this
            exact w' z
        · exact (s.alive a ⟨i, hi⟩).1 q
      · rw [k j m w] at hj
        have := s.one i j a hi hj
        subst this
        exact w z
    by_cases z : i ∈ vs
    · rw [if_pos z] at hi
      by_cases w : j ∈ vs
      · rw [if_pos w] at hj; exact s.one i j a hi hj
      · rw [if_neg w] at hj; exact (cross i j z w hi hj).elim
    · rw [if_neg z] at hi
      by_cases w : j ∈ vs
      · rw [if_pos w] at hj; exact (cross j i w z hj hi).elim
      · rw [if_neg w] at hj; exact s2.one i j a hi hj
  nd := fun i => by
    show (if i ∈ vs then fp i else fp2 i).Nodup
    by_cases z : i ∈ vs
    · rw [if_pos z]; exact s.nd i
    · rw [if_neg z]; exact s2.nd i
  len := by rw [restE_length, s2.len, wipe_length]

def lcGo (g : T → En → R En) (c : En → R (Bool × En)) (f : EM) (vs : List Nat) : List T → En → R (List T × En)
  | [], env => .ok ([], env)
  | t :: ts, env => do
    let env1 ← g t env
    let (b, env2) ← c env1
    if b then do
      let (y, env3) ← f env2
      let (ys, env4) ← lcGo g c f vs ts (wipeE env3 vs)
      .ok (y :: ys, env4)
    else lcGo g c f vs ts (wipeE env2 vs)
def eLc (src : En → R (List T × En)) (g : T → En → R En) (c : En → R (Bool × En)) (f : EM) (vs : List Nat) : EM := fun env => do
  let (ts, env1) ← src env
  let _ ← ck (decide (ts.length ≤ big))
  let (ys, env2) ← lcGo g c f vs ts (wipeE env1 vs)
  .ok (.lst true ys, restE env1 env2 vs)
def cYes : En → R (Bool × En) := fun env => .ok (true, env)
theorem tt_yes {md : List Nat} {Q : Bool → Hp → Prop} (h : TTof K ca md cYes σ H Q) : tYes σ H Q := by
  obtain ⟨F, env, fp, b, env', s, e, k⟩ := h
  cases e
  exact k H F fp (Go.refl s.sub fun _ z => z) Keep.refl s
theorem te_lc {md : List Nat} {src : En → R (List T × En)} {g : T → En → R En} {c : En → R (Bool × En)} {f : EM} {Q : VK} (hm : ∀ i, i ∈ vs → i ∉ md) (h : TEof K ca md (eLc src g c f vs) σ H Q) :
    tLc (ISof K ca md src) (GTof K ca vs g) (TTof K ca md c) (TEof K ca md f) vs σ H Q := by
  obtain ⟨F, env, fp, t, env', s, e, k⟩ := h
  obtain ⟨⟨ts, env1⟩, e1, e⟩ := bind_ok e
  obtain ⟨_, hbig, e⟩ := bind_ok e
  have hbig : ts.length ≤ big := of_decide_eq_true (ck_ok hbig)
  obtain ⟨⟨ys, env2⟩, e2, e⟩ := bind_ok e
  cases e
  refine ⟨F, env, fp, ts, env1, s, e1, fun J H1 F1 fp1 g1 kp1 s1 it D hD => ?_⟩
  obtain ⟨G, Y, w, hG, hY⟩ := it
  have hDF : F1 D = none := by
    cases q : F1 D with
    | none => rfl
    | some o => rw [s1.sub D o q] at hD; cases hD
  have notD : ∀ a, Ow fp1 a → a ≠ D := fun a ha z => by subst z; exact (s1.alive _ ha).1 hD
  -- the invariant: turn i, heap
  refine lc_it w (fun i H2 => ∃ F2 env3 fp3 acc us fa ys', SR K ca F2 H2 (wipe σ vs) env3 fp3 ∧ Sub F1 F2 ∧ H2 D = some (.lst us) ∧ F2 D = none ∧ Reps K ca F2 H2 acc us fa ∧ (D :: fa).Nodup ∧ (∀ a ∈ D :: fa, ¬ Ow fp3 a) ∧
      (∀ i, i ∉ md → i ∉ vs → fp3 i = fp1 i ∧ env3[i]? = env1[i]?) ∧ Go F1 H1 (OwM md (fpW fp1 vs)) F2 H2 (fun a => OwM md fp3 a ∨ a ∈ D :: fa) ∧ lcGo g c f vs (ts.drop i) env3 = .ok (ys', env2) ∧ ys = acc ++ ys' ∧ acc.length ≤ i ∧ i ≤ ts.length)
    ⟨F1, wipeE env1 vs, fpW fp1 vs, [], [], [], ys, ?_, Sub.refl _, upd_same, hDF, ⟨rfl, rfl⟩, by simp, ?_, fun i hi hv => ⟨fpW_out hv, wipeE_out hv⟩, ?_, e2, rfl, Nat.le_refl _, Nat.zero_le _⟩ (fun i H2 _ ⟨F2, _, _, _, _, _, _, s2, sb, _⟩ => hG H2 (sb.trans s2.sub)) ?_ ?_
  · exact (s1.wiped vs).of_go (Go.newO (O := fun _ => False) (O' := fun _ => False) s1.sub hD fun _ z => z.elim) fun _ _ z => z
  · intro a ha z
    have ha : a = D := by simpa using ha
    exact notD a (ow_fpW z) ha
  · exact Go.newO s1.sub hD fun a z => by
      rcases z with z | z
      · exact .inl z
      · have : a = D := by simpa using z
        subst this; exact .inr hD
  · rintro i x H2 H3 hi ⟨F2, env3, fp3, acc, us, fa, ys', s2, sb, hd, hdF, ra, nda, offa, kp, gg, e3, hys, hai, _⟩ y
    have hdr : ts.drop i = ts[i] :: ts.drop (i + 1) := List.drop_eq_getElem_cons hi
    rw [hdr] at e3
    obtain ⟨env4, e4, e5⟩ := bind_ok e3
    obtain ⟨⟨b, env5⟩, e6, e7⟩ := bind_ok e5
    obtain ⟨F3, g3, r3⟩ := hY i ts[i] F2 H2 x H3 (by simp [hi]) sb s2.sub y
    have s3 := s2.of_go g3 (fun _ _ z => z)
    have hd3 : H3 D = some (.lst us) := g3.frame D _ hd (fun z => z)
    have nz : ∀ b, b ∈ D :: fa → H2 b ≠ none ∧ F2 b = none := fun b hb => by
      rcases List.mem_cons.mp hb with rfl | hb
      · exact ⟨by rw [hd]; simp, hdF⟩
      · exact Reps.alive acc ra b hb
    have hdF3 : F3 D = none := by
      cases q : F3 D with
      | none => rfl
      | some o =>
        exfalso
        rcases g3.nofz D (by rw [q]; simp) with z | z | z
        · exact z hdF
        · exact z
        · rw [hd] at z; cases z
    have ra3 := Reps.of_go ra g3 (fun _ _ z => z)
    have gg3 : Go F1 H1 (OwM md (fpW fp1 vs)) F3 H3 (fun a => OwM md fp3 a ∨ a ∈ D :: fa) := gg.trans g3 (fun _ z => z.elim) fun a z => .inr z
    refine ⟨F3, env3, fp3, ts[i], [], env4, s3, ⟨r3, List.nodup_nil, fun _ z => nomatch z⟩, e4, fun σ4 fp4 q4 s4 kp4 p4 l4 => ⟨?_, ?_⟩⟩
    · exact wipe_eq (by rw [l4, wipe_length]) p4
    have eσ : wipe σ4 vs = wipe σ vs := wipe_eq (by rw [l4, wipe_length]) p4
    have q4' : ∀ a, Ow fp4 a → Ow fp3 a := fun a z => (q4 a z).elim id (fun w => nomatch w)
    have gg4 : Go F1 H1 (OwM md (fpW fp1 vs)) F3 H3 (fun a => OwM md fp4 a ∨ a ∈ D :: fa) := gg3.weak (fun _ z => z) fun a z => by
      rcases z with ⟨j, hj, hj2⟩ | z
      · refine .inl ⟨j, hj, ?_⟩
        have hv : j ∉ vs := fun z => hm j z hj
        rw [kp4.fp j hv] at hj2
        exact hj2
      · exact .inr z
    refine ⟨F3, env4, fp4, b, env5, s4, e6, fun H5 F5 fp5 g5 kp5 s5 => ?_⟩
    have off4 : ∀ a ∈ D :: fa, ¬ OwM md fp4 a := fun a ha z => offa a ha (q4' a z.ow)
    have hd5 : H5 D = some (.lst us) := g5.frame D _ hd3 (off4 D List.mem_cons_self)
    have nz3 : ∀ b, b ∈ D :: fa → H3 b ≠ none ∧ F3 b = none := fun b hb => by
      rcases List.mem_cons.mp hb with rfl | hb
      · exact ⟨by rw [hd3]; simp, hdF3⟩
      · exact Reps.alive acc ra3 b hb
    have hdF5 : F5 D = none := by
      cases q : F5 D with
      | none => rfl
      | some o =>
        exfalso
        rcases g5.nofz D (by rw [q]; simp) with z | z | z
        · exact z hdF3
        · exact off4 D List.mem_cons_self z
        · rw [hd3] at z; cases z
    have ra5 := Reps.of_go ra3 g5 (fun a ha => off4 a (List.mem_cons_of_mem _ ha))
    have off5 : ∀ a ∈ D :: fa, ¬ Ow fp5 a := fun a ha ⟨j, hj⟩ => by
      by_cases m : j ∈ md
      · rcases g5.fresh a ⟨j, m, hj⟩ with z | z
        · exact off4 a ha z
        · exact (nz3 a ha).1 z
      · rw [kp5.fp j m] at hj
        exact offa a ha (q4' a ⟨j, hj⟩)
    have gg5 : Go F1 H1 (OwM md (fpW fp1 vs)) F5 H5 (fun a => OwM md fp5 a ∨ a ∈ D :: fa) := gg4.trans g5 (fun a z => .inl z) fun a z => z.elim .inl fun z => .inr (.inr z)
    have kp5' : ∀ i, i ∉ md → i ∉ vs → fp5 i = fp1 i ∧ env5[i]? = env1[i]? := fun i h1 h2 => ⟨((kp5.fp i h1).trans (kp4.fp i h2)).trans (kp i h1 h2).1, ((kp5.env i h1).trans (kp4.env i h2)).trans (kp i h1 h2).2⟩
    have gw : ∀ {F6 H6 : Hp} {fp6 : Fp} {P : Addr → Prop}, Go F1 H1 (OwM md (fpW fp1 vs)) F6 H6 (fun a => OwM md fp6 a ∨ P a) → Go F1 H1 (OwM md (fpW fp1 vs)) F6 H6 (fun a => OwM md (fpW fp6 vs) a ∨ P a) := fun g => g.weak (fun _ z => z) fun a z => z.imp (fun ⟨j, hj, hj2⟩ => ⟨j, hj, by
      by_cases hv : j ∈ vs
      · rw [fpW_in hv] at hj2; cases hj2
      · rw [fpW_out hv] at hj2; exact hj2⟩) id
    cases b with
    | false =>
      have e7 : lcGo g c f vs (ts.drop (i + 1)) (wipeE env5 vs) = .ok (ys', env2) := e7
      exact ⟨F5, wipeE env5 vs, fpW fp5 vs, acc, us, fa, ys', eσ ▸ s5.wiped vs, (sb.trans g3.ext).trans g5.ext, hd5, hdF5, ra5, nda, fun a ha z => off5 a ha (ow_fpW z), fun i h1 h2 => ⟨(fpW_out h2).trans (kp5' i h1 h2).1, (wipeE_out h2).trans (kp5' i h1 h2).2⟩, gw gg5, e7, hys, by omega, by omega⟩
    | true =>
      obtain ⟨⟨y', env6⟩, e8, e9⟩ := bind_ok (show (f env5 >>= fun z => match z with
        | (y, env3) => lcGo g c f vs (ts.drop (i + 1)) (wipeE env3 vs) >>= fun z => match z with
          | (ys, env4) => .ok (y :: ys, env4)) = .ok (ys', env2) from e7)
      obtain ⟨⟨ys2, env7⟩, e10, e11⟩ := bind_ok e9
      cases e11
      refine ⟨F5, env5, fp5, y', env6, s5, e8, fun u H6 F6 fp6 fu g6 kp6 s6 m6 => ?_⟩
      have off5m : ∀ a ∈ D :: fa, ¬ OwM md fp5 a := fun a ha z => off5 a ha z.ow
      have nz5 : ∀ b, b ∈ D :: fa → H5 b ≠ none ∧ F5 b = none := fun b hb => by
        rcases List.mem_cons.mp hb with rfl | hb
        · exact ⟨by rw [hd5]; simp, hdF5⟩
        · exact Reps.alive acc ra5 b hb
      have hd6 : H6 D = some (.lst us) := g6.frame D _ hd5 (off5m D List.mem_cons_self)
      have ra6 := Reps.of_go ra5 g6 (fun a ha => off5m a (List.mem_cons_of_mem _ ha))
      have hdF6 : F6 D = none := by
        cases q : F6 D with
        | none => rfl
        | some o =>
          exfalso
          rcases g6.nofz D (by rw [q]; simp) with z | z | z
          · exact z hdF5
          · exact off5m D List.mem_cons_self z
          · rw [hd5] at z; cases z
      have off6 : ∀ a ∈ D :: fa, ¬ Ow fp6 a := fun a ha ⟨j, hj⟩ => by
        by_cases m : j ∈ md
        · rcases g6.fresh a (.inl ⟨j, m, hj⟩) with z | z
          · exact off5m a ha z
          · exact (nz5 a ha).1 z
        · rw [kp6.fp j m] at hj
          exact off5 a ha ⟨j, hj⟩
      have offu : ∀ a ∈ D :: fa, a ∉ fu := fun a ha z => by
        rcases g6.fresh a (.inr z) with q | q
        · exact off5m a ha q
        · exact (nz5 a ha).1 q
      have hal : us.length = acc.length := Reps.length ra6
      refine ⟨us, hd6, by rw [hal]; exact big_lt (by omega), ?_⟩
      have gW : Go F6 H6 (· = D) F6 (upd H6 D (.lst (us ++ [u]))) (· = D) := Go.write s6.sub rfl hdF6 fun b z => .inl z
      have ra7 : Reps K ca F6 (upd H6 D (.lst (us ++ [u]))) (acc ++ [y']) (us ++ [u]) (fa ++ fu) := by
        refine Reps.append (ra6.of_go gW fun a ha z => ?_) ?_
        · subst z
          exact (List.nodup_cons.mp nda).1 ha
        · simp only [Reps]
          exact ⟨u, [], fu, [], rfl, m6.rep.of_go gW fun a ha z => by subst z; exact offu _ List.mem_cons_self ha, ⟨rfl, rfl⟩, by rw [List.append_nil]⟩
      refine ⟨F6, wipeE env6 vs, fpW fp6 vs, acc ++ [y'], us ++ [u], fa ++ fu, ys2, ?_, ((sb.trans g3.ext).trans g5.ext).trans g6.ext, upd_same, hdF6, ra7, ?_, ?_, fun i h1 h2 => ⟨(fpW_out h2).trans ((kp6.fp i h1).trans (kp5' i h1 h2).1), (wipeE_out h2).trans ((kp6.env i h1).trans (kp5' i h1 h2).2)⟩, ?_, e10, by rw [hys, List.append_assoc]; rfl, by rw [List.length_append]; show acc.length + 1 ≤ i + 1; omega, by omega⟩
      · rw [← eσ]
        exact (s6.wiped vs).of_go gW fun a z w => by subst w; exact off6 _ List.mem_cons_self (ow_fpW z)
      · rw [← List.cons_append]
        exact List.nodup_append.mpr ⟨nda, m6.nd, fun a ha b hb z => by subst z; exact offu a ha hb⟩
      · intro a ha z
        rw [← List.cons_append] at ha
        rcases List.mem_append.mp ha with ha | ha
        · exact off6 a ha (ow_fpW z)
        · exact m6.off a ha (ow_fpW z)
      · have g56 : Go F1 H1 (OwM md (fpW fp1 vs)) F6 H6 (fun a => OwM md fp6 a ∨ (a ∈ D :: (fa ++ fu))) := gg5.trans g6 (fun a z => .inl z) fun a z => by
          rcases z with z | z
          · exact .inl (.inl z)
          · rw [← List.cons_append] at z
            rcases List.mem_append.mp z with z | z
            · exact .inr (.inr z)
            · exact .inl (.inr z)
        refine gw (g56.trans gW (fun a z => by subst z; exact .inr List.mem_cons_self) fun a z => .inr z)
  · rintro H2 ⟨F2, env3, fp3, acc, us, fa, ys', s2, sb, hd, hdF, ra, nda, offa, kp, gg, e3, hys, hai, _⟩
    rw [List.drop_length] at e3
    have e3 : Except.ok (([] : List T), env3) = Except.ok (ys', env2) := e3
    cases e3
    rw [List.append_nil] at hys
    subst hys
    have sR := s1.rest (md := md) s2 gg (fun a z => .inl z) (fun i h1 h2 => (kp i h1 h2).1)
    refine k (.ref D) H2 F2 (fun j => if j ∈ vs then fp1 j else fp3 j) (D :: fa) (g1.trans (O1' := OwM md (fpW fp1 vs)) (O2 := fun a => OwM md fp3 a ∨ a ∈ D :: fa) gg (fun a ⟨j, hj, hj2⟩ => ⟨j, hj, by
      by_cases hv : j ∈ vs
      · rw [fpW_in hv] at hj2; cases hj2
      · rw [fpW_out hv] at hj2; exact hj2⟩) fun a z => ?_) ?_ sR ⟨?_, nda, ?_⟩
    · rcases z with ⟨j, hj, hj2⟩ | z
      · have hv : j ∉ vs := fun z => hm j z hj
        have hj2 : a ∈ (if j ∈ vs then fp1 j else fp3 j) := hj2
        rw [if_neg hv] at hj2
        exact .inl (.inl ⟨j, hj, hj2⟩)
      · exact .inl (.inr z)
    · refine ⟨fun i hi => ?_, fun i hi => ?_⟩
      · show (if i ∈ vs then fp1 i else fp3 i) = fp i
        by_cases hv : i ∈ vs
        · rw [if_pos hv]; exact kp1.fp i hi
        · rw [if_neg hv]; exact (kp i hi hv).1.trans (kp1.fp i hi)
      · by_cases hv : i ∈ vs
        · rw [restE_in (by rw [s1.len, s2.len, wipe_length]) hv]; exact kp1.env i hi
        · rw [restE_out hv]; exact (kp i hi hv).2.trans (kp1.env i hi)
    · simp only [Rep]
      exact ⟨D, us, fa, rfl, hd, hdF, ra, rfl⟩
    · intro a ha ⟨j, hj⟩
      have hj : a ∈ (if j ∈ vs then fp1 j else fp3 j) := hj
      by_cases hv : j ∈ vs
      · rw [if_pos hv] at hj
        rcases gg.fresh a (.inr ha) with z | z
        · obtain ⟨j', hj', hj2⟩ := z
          by_cases w' : j' ∈ vs
          · rw [fpW_in w'] at hj2; cases hj2
          · rw [fpW_out w'] at hj2
            have := s1.one j j' a hj hj2
            subst this
            exact w' hv
        · exact (s1.alive a ⟨j, hj⟩).1 z
      · rw [if_neg hv] at hj
        exact offa a ha ⟨j, hj⟩
end
end QL
namespace QL
open PySem L2
def fpI (io : Option Nat) (f : List Addr) : Fp := fun i => if io = some i then f else []
theorem ow_fpI {io : Option Nat} {f : List Addr} {a : Addr} (h : Ow (fpI io f) a) : a ∈ f := by
  obtain ⟨i, hi⟩ := h
  unfold fpI at hi
  split at hi
  · exact hi
  · cases hi
/-- what a def is worth: of its arguments, the answer, and what the argument that it may change is behind it -/
abbrev Fn := List T → R (T × Option T)
/-- a def's promise -/
def spOf (K : PySem.W.Frag) (ca : Ca) (io : Option Nat) (g : Fn) : Sp := fun vs H Q _ => ∃ F ts fi t out, SR K ca F H (vs.map some) (ts.map some) (fpI io fi) ∧ g ts = .ok (t, out) ∧
  ∀ v H' F' fi' fv, Go F H (· ∈ fi) F' H' (fun a => a ∈ fi' ∨ a ∈ fv) → Rep K ca F' H' t v fv → fv.Nodup → fi'.Nodup → (∀ a ∈ fv, a ∉ fi') → (∀ p, io = some p → ∃ t' w, out = some t' ∧ vs[p]? = some w ∧ Rep K ca F' H' t' w fi') → (io = none → fi' = []) → Q v H'

def retOf : Fl → R T
  | .nx => .ok .non
  | .rt t => .ok t
  | _ => stk
/-- a def by its body: n slots, io the argument that it may change -/
def fnOf (n : Nat) (io : Option Nat) (body : SM) : Fn := fun ts => do
  let (fl, env) ← body (ts.map some ++ List.replicate (n - ts.length) none)
  let t ← retOf fl
  match io with
  | none => .ok (t, none)
  | some p => match env[p]? with
    | some (some u) => .ok (t, some u)
    | _ => stk

section
variable {K : PySem.W.Frag} {ca : Ca} {F F' F1 H H' H1 : Hp} {O O' : Addr → Prop} {σ : St} {env : En} {fp : Fp} {t : T} {v : V} {fv : List Addr} {ts : List T} {vs : List V}

def ioPins (io : Option Nat) : List Nat := match io with
  | none => []
  | some p => [p]
/-- the reading of a body, from the promise -/
theorem body_ok {N : List Str} {n : Nat} {io : Option Nat} {body : SM} {Q : VK} {E : XK} (hn : N.length = n) (h : spOf K ca io (fnOf n io body) vs H Q E) :
    TSof K ca (ioPins io) body { nx := fun _ H' => Q .non H', rt := Q } (L2.start N vs) H := by
  obtain ⟨F, ts, fi, t, out, s, e, k⟩ := h
  obtain ⟨⟨fl, env'⟩, e1, e⟩ := bind_ok e
  obtain ⟨t', e2, e⟩ := bind_ok e
  have hl : vs.length = ts.length := by have := s.len; simpa using this.symm
  have s0 : SR K ca F H (L2.start N vs) (ts.map some ++ List.replicate (n - ts.length) none) (fpI io fi) := by
    refine ⟨s.sub, fun i u eu => ?_, s.alive, s.one, s.nd, by unfold L2.start; simp [hn, hl]⟩
    by_cases hi : i < ts.length
    · rw [List.getElem?_append_left (by simpa using hi)] at eu
      obtain ⟨w, ew, r⟩ := s.slot i u eu
      refine ⟨w, ?_, r⟩
      unfold L2.start
      rw [List.getElem?_append_left (by simpa [hl] using hi)]
      exact ew
    · rw [List.getElem?_append_right (by simpa using hi)] at eu
      rw [List.getElem?_replicate] at eu
      split at eu <;> cases eu
  refine ⟨F, _, fpI io fi, fl, env', s0, e1, ?_⟩
  have fin : ∀ σ' H' F' fp' v fv, Go F H (Ow (fpI io fi)) F' H' (fun a => Ow fp' a ∨ a ∈ fv) → SR K ca F' H' σ' env' fp' → Pin (ioPins io) (L2.start N vs) σ' → Tm K ca F' H' fp' t' v fv → Q v H' := by
    intro σ' H' F' fp' v fv g s' p m
    cases io with
    | none =>
      cases e
      exact k v H' F' [] fv (g.weak (fun a z => ow_fpI z) fun a z => .inr (z.elim (fun w => nomatch w) id)) m.rep m.nd List.nodup_nil (fun a _ w => nomatch w) (fun p z => nomatch z) (fun _ => rfl)
    | some q =>
      have e : (match env'[q]? with
        | some (some u) => Except.ok (t', some u)
        | _ => stk) = Except.ok (t, out) := e
      split at e
      case h_2 => cases e
      case h_1 u hu =>
        cases e
        obtain ⟨w, ew, rw'⟩ := s'.slot q u hu
        refine k v H' F' (fp' q) fv (g.weak (fun a z => ow_fpI z) fun a z => z.imp (fun w => ⟨q, w⟩) id) m.rep m.nd (s'.nd q) (fun a ha z => m.off a ha ⟨q, z⟩) (fun p hp => ?_) (fun z => nomatch z)
        cases hp
        have hw := p q (by unfold ioPins; exact List.mem_singleton.mpr rfl)
        rw [hw] at ew
        refine ⟨u, w, rfl, ?_, rw'⟩
        unfold L2.start at ew
        by_cases hq : q < vs.length
        · rw [List.getElem?_append_left (by simpa using hq)] at ew
          simpa using ew
        · rw [List.getElem?_append_right (by simpa using hq), List.getElem?_replicate] at ew
          split at ew <;> cases ew
  cases fl with
  | nx =>
    cases e2
    intro σ' H' F' fp' g s' p
    exact fin σ' H' F' fp' .non [] (g.weak (fun _ z => z) fun a z => z.elim id (fun w => nomatch w)) s' p ⟨by simp only [Rep]; trivial, List.nodup_nil, fun _ z => nomatch z⟩
  | bk => cases e2
  | ct => cases e2
  | rt u =>
    cases e2
    intro σ' H' F' fp' v fv g s' p m
    exact fin σ' H' F' fp' v fv g s' p m

def argT (env : En) : Bop → R T
  | .tmp t => do
    let _ ← ck (!t.ow || t.nob)
    .ok (if t.ow then t.fz else t)
  | .br t _ => do
    let _ ← ck (!t.ow || t.nob)
    .ok (if t.ow then t.fz else t)
  | .io i => match env[i]? with
    | some (some t) => .ok t
    | _ => stk
def argsT (env : En) : List Bop → R (List T)
  | [] => .ok []
  | b :: bs => do
    let t ← argT env b
    let ts ← argsT env bs
    .ok (t :: ts)
/-- the one operand that may be changed: its place, its slot -/
def ioFind : List Bop → Nat → Option (Nat × Nat)
  | [], _ => none
  | .io i :: _, p => some (p, i)
  | _ :: bs, p => ioFind bs (p + 1)
def ioCount : List Bop → Nat
  | [] => 0
  | .io _ :: bs => ioCount bs + 1
  | _ :: bs => ioCount bs
def ioOk (io : Option Nat) (bs : List Bop) : Bool := match io, ioFind bs 0 with
  | none, none => true
  | some p, some (q, _) => decide (p = q) && decide (ioCount bs = 1)
  | _, _ => false
def brOk (i : Nat) (bs : List Bop) : Bool := bs.all fun b => match b with
  | .br t j => !t.ow || j != i
  | _ => true
def callApp (io : Option Nat) (g : Fn) (bs : List Bop) (env : En) : R (T × En) := do
  let ts ← argsT env bs
  let _ ← ck (ioOk io bs)
  let (t, out) ← g ts
  let _ ← ck (!bs.any Bop.bo || (t.nfz && (match out with | some u => u.nfz | none => true)))
  match ioFind bs 0, out with
  | none, _ => .ok (t, env)
  | some (_, i), some u => do
    let _ ← ck (brOk i bs)
    .ok (t, env.set i (some u))
  | _, _ => stk
def eCall (io : Option Nat) (sl : Option Nat) (g : Fn) (f : AM) : EM := fun env => do
  let (bs, env1) ← f env
  let _ ← ck (decide ((ioFind bs 0).map (·.2) = sl))
  callApp io g bs env1

/-- operands as arguments -/
theorem Ops.args {md : List Nat} (hs : SR K ca F H σ env fp) : ∀ {bs : List Bop} {vs : List V} {ft : List Addr} {ts : List T}, Ops K ca md F H σ fp bs vs ft → argsT env bs = .ok ts →
    ∃ B : List Addr, (∀ a ∈ B, ∃ j t, a ∈ fp j ∧ Bop.br t j ∈ bs ∧ t.ow = true ∧ ∀ o, H a = some o → (∀ xs, o ≠ .tup xs) ∧ ∀ ob u, o ≠ .frz ob u) ∧ (bs.any Bop.bo = false → B = []) ∧
      ∀ F1, Sub F F1 → (∀ a ∈ B, F1 a = H a) → (∀ a ∈ ft, F1 a = H a) → (∀ i, Bop.io i ∈ bs → ∀ a ∈ fp i, F1 a = none) → ts.length = bs.length ∧ vs.length = bs.length ∧
        ∀ (p : Nat) (t : T), ts[p]? = some t → ∃ v, vs[p]? = some v ∧ ((∃ i : Nat, bs[p]? = some (Bop.io i) ∧ σ[i]? = some (some v) ∧ Rep K ca F1 H t v (fp i)) ∨ ((∀ i : Nat, bs[p]? ≠ some (Bop.io i)) ∧ Rep K ca F1 H t v []))
  | [], _, _, _, h, e => by
    cases e
    simp only [Ops] at h
    exact ⟨[], fun _ z => absurd z (by simp), fun _ => rfl, fun F1 _ _ _ _ => ⟨rfl, by rw [h.1]; rfl, fun p t z => by simp at z⟩⟩
  | b :: bs, _, _, _, h, e => by
    simp only [Ops] at h
    obtain ⟨v, us, f, g, e1, r, rs, e2⟩ := h
    obtain ⟨t, et, e⟩ := bind_ok e
    obtain ⟨ts, ets, e⟩ := bind_ok e
    cases e
    obtain ⟨B, hB1, hB2, hB3⟩ := Ops.args hs rs ets
    subst e1 e2
    have step : ∀ {B' : List Addr} {F1 : Hp}, Sub F F1 → (∀ a ∈ B ++ B', F1 a = H a) → (∀ a ∈ f ++ g, F1 a = H a) → (∀ i, Bop.io i ∈ b :: bs → ∀ a ∈ fp i, F1 a = none) →
        ((∃ i, b = Bop.io i ∧ σ[i]? = some (some v) ∧ Rep K ca F1 H t v (fp i)) ∨ ((∀ i, b ≠ Bop.io i) ∧ Rep K ca F1 H t v [])) →
        (t :: ts).length = (b :: bs).length ∧ (v :: us).length = (b :: bs).length ∧ ∀ (p : Nat) (u : T), (t :: ts)[p]? = some u → ∃ w, (v :: us)[p]? = some w ∧ ((∃ i, (b :: bs)[p]? = some (Bop.io i) ∧ σ[i]? = some (some w) ∧ Rep K ca F1 H u w (fp i)) ∨ ((∀ i, (b :: bs)[p]? ≠ some (Bop.io i)) ∧ Rep K ca F1 H u w [])) := by
      intro B' F1 s1 q1 q2 q3 hh
      obtain ⟨l1, l2, hr⟩ := hB3 F1 s1 (fun a ha => q1 a (List.mem_append_left _ ha)) (fun a ha => q2 a (List.mem_append_right _ ha)) (fun i hi => q3 i (List.mem_cons_of_mem _ hi))
      refine ⟨by simp [l1], by simp [l2], fun p u eu => ?_⟩
      cases p with
      | zero =>
        simp only [List.getElem?_cons_zero, Option.some.injEq] at eu ⊢
        subst eu
        exact ⟨v, rfl, hh.imp id fun z => ⟨fun i w => z.1 i (Option.some.inj w), z.2⟩⟩
      | succ p =>
        simp only [List.getElem?_cons_succ] at eu ⊢
        exact hr p u eu
    have val : ∀ (u : T), argT env b = .ok t → (argT env b = (do
        let _ ← ck (!u.ow || u.nob)
        .ok (if u.ow then u.fz else u))) → (u.ow = true → u.nob = true) ∧ t = (if u.ow then u.fz else u) := by
      intro u h1 h2
      rw [h2] at h1
      obtain ⟨_, c, h1⟩ := bind_ok h1
      cases h1
      have := ck_ok c
      exact ⟨fun z => by rw [z] at this; simpa using this, rfl⟩
    cases b with
    | io i =>
      obtain ⟨r1, r2⟩ := r
      subst r1
      refine ⟨B, fun a ha => ?_, fun z => hB2 (by rw [List.any_cons, Bool.or_eq_false_iff] at z; exact z.2), fun F1 s1 q1 q2 q3 => step (B' := []) s1 (by simpa using q1) q2 q3 (.inl ⟨i, rfl, r2, ?_⟩)⟩
      · obtain ⟨j, u, h1, h2, h3⟩ := hB1 a ha
        exact ⟨j, u, h1, List.mem_cons_of_mem _ h2, h3⟩
      · have et : (match env[i]? with
          | some (some t) => Except.ok t
          | _ => stk) = Except.ok t := et
        split at et
        case h_2 => cases et
        case h_1 u hu =>
          cases et
          obtain ⟨w, ew, rw'⟩ := hs.slot i t hu
          rw [r2] at ew
          cases ew
          exact Rep.go s1 t rw' (fun _ _ => rfl) (q3 i List.mem_cons_self)
    | tmp u =>
      obtain ⟨n1, n2⟩ := val u et rfl
      have r' : Rep K ca F H u v f := r
      refine ⟨B, fun a ha => ?_, fun z => hB2 (by rw [List.any_cons, Bool.or_eq_false_iff] at z; exact z.2), fun F1 s1 q1 q2 q3 => step (B' := []) s1 (by simpa using q1) q2 q3 (.inr ⟨fun i z => (by cases z), ?_⟩)⟩
      · obtain ⟨j, u, h1, h2, h3⟩ := hB1 a ha
        exact ⟨j, u, h1, List.mem_cons_of_mem _ h2, h3⟩
      · rw [n2]
        by_cases how : u.ow = true
        · rw [if_pos how]
          exact Rep.frz s1 u (n1 how) r' fun a ha => q2 a (List.mem_append_left _ ha)
        · rw [if_neg how]
          have how : u.ow = false := by simpa using how
          have := Rep.pure_fp u how r'
          subst this
          exact Rep.go s1 u r' (fun _ z => absurd z (by simp)) (fun _ z => absurd z (by simp))
    | br u i =>
      obtain ⟨n1, n2⟩ := val u et rfl
      obtain ⟨r1, r2, fb, r3, r4⟩ := r
      subst r2
      by_cases how : u.ow = true
      · refine ⟨B ++ fb, fun a ha => ?_, fun z => ?_, fun F1 s1 q1 q2 q3 => step (B' := fb) s1 q1 q2 q3 (.inr ⟨fun i z => (by cases z), ?_⟩)⟩
        · rcases List.mem_append.mp ha with ha | ha
          · obtain ⟨j, u, h1, h2, h3⟩ := hB1 a ha
            exact ⟨j, u, h1, List.mem_cons_of_mem _ h2, h3⟩
          · exact ⟨i, u, r4 a ha, List.mem_cons_self, how, Rep.kind u r3 a ha⟩
        · rw [List.any_cons, show Bop.bo (.br u i) = u.ow from rfl, how] at z; cases z
        · rw [n2, if_pos how]
          exact Rep.frz s1 u (n1 how) r3 fun a ha => q1 a (List.mem_append_right _ ha)
      · have how' : u.ow = false := by simpa using how
        have := Rep.pure_fp u how' r3
        subst this
        refine ⟨B, fun a ha => ?_, fun z => hB2 (by rw [List.any_cons, Bool.or_eq_false_iff] at z; exact z.2), fun F1 s1 q1 q2 q3 => step (B' := []) s1 (by simpa using q1) q2 q3 (.inr ⟨fun i z => (by cases z), ?_⟩)⟩
        · obtain ⟨j, u, h1, h2, h3⟩ := hB1 a ha
          exact ⟨j, u, h1, List.mem_cons_of_mem _ h2, h3⟩
        · rw [n2, if_neg how]
          exact Rep.go s1 u r3 (fun _ z => absurd z (by simp)) (fun _ z => absurd z (by simp))

theorem ioFind_none : ∀ {bs : List Bop} {p : Nat}, ioFind bs p = none → ∀ i, Bop.io i ∉ bs
  | [], _, _, _ => by simp
  | .io j :: bs, p, h, i => by simp [ioFind] at h
  | .tmp t :: bs, p, h, i => by
    have := ioFind_none (bs := bs) (p := p + 1) h i
    simpa using this
  | .br t j :: bs, p, h, i => by
    have := ioFind_none (bs := bs) (p := p + 1) h i
    simpa using this
theorem ioCount_zero : ∀ {bs : List Bop}, ioCount bs = 0 → ∀ i, Bop.io i ∉ bs
  | [], _, _ => by simp
  | .io j :: bs, h, i => by simp [ioCount] at h
  | .tmp t :: bs, h, i => by
    have := ioCount_zero (bs := bs) h i
    simpa using this
  | .br t j :: bs, h, i => by
    have := ioCount_zero (bs := bs) h i
    simpa using this
theorem ioFind_some : ∀ {bs : List Bop} {p q i : Nat}, ioFind bs p = some (q, i) → ioCount bs = 1 → ∃ k, q = p + k ∧ bs[k]? = some (Bop.io i) ∧ ∀ (k' i' : Nat), bs[k']? = some (Bop.io i') → k' = k
  | [], _, _, _, h, _ => by simp [ioFind] at h
  | .io j :: bs, p, q, i, h, c => by
    simp only [ioFind, Option.some.injEq, Prod.mk.injEq] at h
    obtain ⟨rfl, rfl⟩ := h
    refine ⟨0, rfl, rfl, fun k' i' z => ?_⟩
    cases k' with
    | zero => rfl
    | succ k' =>
      rw [List.getElem?_cons_succ] at z
      exact absurd (List.mem_of_getElem? z) (ioCount_zero (by simpa [ioCount] using c) i')
  | .tmp t :: bs, p, q, i, h, c => by
    obtain ⟨k, h1, h2, h3⟩ := ioFind_some (bs := bs) (p := p + 1) h c
    refine ⟨k + 1, by omega, h2, fun k' i' z => ?_⟩
    cases k' with
    | zero => simp at z
    | succ k' => rw [h3 k' i' (by simpa using z)]
  | .br t j :: bs, p, q, i, h, c => by
    obtain ⟨k, h1, h2, h3⟩ := ioFind_some (bs := bs) (p := p + 1) h c
    refine ⟨k + 1, by omega, h2, fun k' i' z => ?_⟩
    cases k' with
    | zero => simp at z
    | succ k' => rw [h3 k' i' (by simpa using z)]
theorem Go.full_md {md md0 : List Nat} {env' : En} {fp' : Fp} {P : Addr → Prop} (g : Go F H (OwM md0 fp) F' H' (fun a => OwM md0 fp' a ∨ P a)) (k : Keep md0 env fp env' fp') (hm : ∀ i, i ∈ md0 → i ∈ md) : Go F H (OwM md fp) F' H' (fun a => OwM md fp' a ∨ P a) where
  ext := g.ext
  sub := g.sub
  frame := fun b o e n => g.frame b o e fun ⟨j, hj, hj2⟩ => n ⟨j, hm j hj, hj2⟩
  nofz := fun b e => (g.nofz b e).imp id (Or.imp (fun ⟨j, hj, hj2⟩ => ⟨j, hm j hj, hj2⟩) id)
  fresh := fun b e => by
    rcases e with ⟨i, h0, hi⟩ | e
    · by_cases hmi : i ∈ md0
      · exact (g.fresh b (.inl ⟨i, hmi, hi⟩)).imp (fun ⟨j, hj, hj2⟩ => ⟨j, hm j hj, hj2⟩) id
      · rw [k.fp i hmi] at hi
        exact .inl ⟨i, h0, hi⟩
    · exact (g.fresh b (.inr e)).imp (fun ⟨j, hj, hj2⟩ => ⟨j, hm j hj, hj2⟩) id
open Classical in
theorem te_call {md md0 : List Nat} {io sl : Option Nat} {g : Fn} {f : AM} {Q : VK} {E : XK} (hm : ∀ i, i ∈ md0 → i ∈ md) (hsl : ∀ i, sl = some i → i ∈ md)
    (h : TEof K ca md (eCall io sl g f) σ H Q) : tCall (spOf K ca io g) [] E (TAof K ca md0 f) σ H Q := by
  obtain ⟨F, env, fp, t, env', s, e, k⟩ := h
  obtain ⟨⟨bs, env1⟩, e1, e⟩ := bind_ok e
  obtain ⟨_, csl, e⟩ := bind_ok e
  have csl := of_decide_eq_true (ck_ok csl)
  have hio : ∀ p i, ioFind bs 0 = some (p, i) → i ∈ md := fun p i w => hsl i (by rw [← csl, w]; rfl)
  refine ⟨F, env, fp, bs, env1, s, e1, fun vs H1 F1 fp1 ft g1 k1 s1 o1 n1 d1 => ?_⟩
  obtain ⟨ts, ea, e⟩ := bind_ok e
  obtain ⟨_, c1, e⟩ := bind_ok e
  have c1 := ck_ok c1
  obtain ⟨⟨t', out⟩, eg, e⟩ := bind_ok e
  obtain ⟨_, c2, e⟩ := bind_ok e
  have c2 := ck_ok c2
  rw [List.append_nil]
  obtain ⟨B, hB1, hB2, hB3⟩ := Ops.args s1 o1 ea
  have alft := o1.alive
  -- the slot that may be changed
  have hfi : ∃ fi : List Addr, (∀ p i, ioFind bs 0 = some (p, i) → fi = fp1 i) ∧ (ioFind bs 0 = none → fi = []) := by
    cases w : ioFind bs 0 with
    | none => exact ⟨[], fun _ _ z => (by cases z), fun _ => rfl⟩
    | some pi => exact ⟨fp1 pi.2, fun p i z => (by cases z; rfl), fun z => (by cases z)⟩
  obtain ⟨fi, hfi1, hfi2⟩ := hfi
  have hfiO : ∀ a ∈ fi, Ow fp1 a := fun a ha => by
    cases w : ioFind bs 0 with
    | none => rw [hfi2 w] at ha; cases ha
    | some pi => rw [hfi1 pi.1 pi.2 w] at ha; exact ⟨_, ha⟩
  have hfiB : ∀ a ∈ fi, a ∉ B := fun a ha z => by
    cases w : ioFind bs 0 with
    | none => rw [hfi2 w] at ha; cases ha
    | some pi =>
      rw [hfi1 pi.1 pi.2 w] at ha
      obtain ⟨j, u, h1, h2, h3, _⟩ := hB1 a z
      have hj := s1.one j pi.2 a h1 ha
      subst hj
      rw [w] at e
      cases out with
      | none => cases e
      | some u' =>
        obtain ⟨_, c3, e⟩ := bind_ok (show (ck (brOk pi.2 bs) >>= fun _ => Except.ok (t', env1.set pi.2 (some u'))) = .ok (t, env') from e)
        have c3 := List.all_eq_true.mp (ck_ok c3) _ h2
        simp only [h3, Bool.not_true, Bool.false_or, bne_self_eq_false] at c3
        cases c3
  -- the view
  have view : ∃ Fv : Hp, (∀ a, a ∈ B ∨ a ∈ ft → Fv a = H1 a) ∧ (∀ a, ¬ (a ∈ B ∨ a ∈ ft) → Fv a = F1 a) := ⟨fun a => if a ∈ B ∨ a ∈ ft then H1 a else F1 a, fun a z => if_pos z, fun a z => if_neg z⟩
  obtain ⟨Fv, v1, v2⟩ := view
  have sv : Sub F1 Fv := fun a o ea => by
    by_cases z : a ∈ B ∨ a ∈ ft
    · rw [v1 a z]; exact s1.sub a o ea
    · rw [v2 a z]; exact ea
  have svH : Sub Fv H1 := fun a o ea => by
    by_cases z : a ∈ B ∨ a ∈ ft
    · rw [v1 a z] at ea; exact ea
    · rw [v2 a z] at ea; exact s1.sub a o ea
  have fiF : ∀ a ∈ fi, Fv a = none := fun a ha => by
    rw [v2 a (fun z => z.elim (hfiB a ha) fun z => d1 a z (hfiO a ha))]
    exact (s1.alive a (hfiO a ha)).2
  have ioAll : ∀ i, Bop.io i ∈ bs → ∃ p, ioFind bs 0 = some (p, i) ∧ io = some p ∧ bs[p]? = some (Bop.io i) ∧ ∀ (k' i' : Nat), bs[k']? = some (Bop.io i') → k' = p := fun i hi => by
    cases w : ioFind bs 0 with
    | none => exact absurd hi (ioFind_none w i)
    | some pi =>
      obtain ⟨p, j⟩ := pi
      unfold ioOk at c1
      rw [w] at c1
      cases io with
      | none => cases c1
      | some q =>
        simp only [Bool.and_eq_true, decide_eq_true_eq] at c1
        obtain ⟨kk, h1, h2, h3⟩ := ioFind_some w c1.2
        have hp : p = kk := by omega
        subst hp
        obtain ⟨k2, hk2⟩ := List.getElem?_of_mem hi
        have := h3 k2 i hk2
        subst this
        rw [h2] at hk2
        cases hk2
        exact ⟨_, rfl, by rw [c1.1], h2, h3⟩
  obtain ⟨l1, l2, hr⟩ := hB3 Fv sv (fun a ha => v1 a (.inl ha)) (fun a ha => v1 a (.inr ha)) (fun i hi a ha => by
    obtain ⟨p, hp, _⟩ := ioAll i hi
    exact fiF a (by rw [hfi1 p i hp]; exact ha))
  have srv : SR K ca Fv H1 (vs.map some) (ts.map some) (fpI io fi) := by
    have own : ∀ a, Ow (fpI io fi) a → a ∈ fi := fun a z => ow_fpI z
    refine ⟨svH, fun p u eu => ?_, fun a ha => ⟨(s1.alive a (hfiO a (own a ha))).1, fiF a (own a ha)⟩, fun i j a hi hj => ?_, fun i => ?_, by simp [l1, l2]⟩
    · have eu' : ts[p]? = some u := by simpa using eu
      obtain ⟨w, ew, hw⟩ := hr p u eu'
      refine ⟨w, by simpa using ew, ?_⟩
      rcases hw with ⟨i, h1, h2, h3⟩ | ⟨h1, h2⟩
      · obtain ⟨p', q1, q2, q3, q4⟩ := ioAll i (List.mem_of_getElem? h1)
        have := q4 p i h1
        subst this
        unfold fpI
        rw [if_pos q2, hfi1 p i q1]
        exact h3
      · unfold fpI
        by_cases z : io = some p
        · subst z
          cases w : ioFind bs 0 with
          | none => rw [hfi2 w, if_pos rfl]; exact h2
          | some pi =>
            obtain ⟨p', j⟩ := pi
            unfold ioOk at c1
            rw [w] at c1
            simp only [Bool.and_eq_true, decide_eq_true_eq] at c1
            obtain ⟨kk, q1, q2, q3⟩ := ioFind_some w c1.2
            have : p = kk := by omega
            subst this
            exact absurd q2 (h1 j)
        · rw [if_neg z]; exact h2
    · unfold fpI at hi hj
      split at hi
      case isFalse => cases hi
      case isTrue w1 =>
        split at hj
        case isFalse => cases hj
        case isTrue w2 => rw [w1] at w2; exact Option.some.inj w2
    · unfold fpI
      split
      · cases w : ioFind bs 0 with
        | none => rw [hfi2 w]; exact List.nodup_nil
        | some pi => rw [hfi1 pi.1 pi.2 w]; exact s1.nd _
      · exact List.nodup_nil
  refine ⟨Fv, ts, fi, t', out, srv, eg, fun v H2 F2 fi' fv g2 rv ndv ndi offv hout hnone => ?_⟩
  -- back
  have back : ∃ F3 : Hp, (∀ a ∈ B, F3 a = none) ∧ (∀ a, a ∉ B → F3 a = F2 a) := ⟨fun a => if a ∈ B then none else F2 a, fun a z => if_pos z, fun a z => if_neg z⟩
  obtain ⟨F3, b1, b2⟩ := back
  have Bal : ∀ a ∈ B, Ow fp1 a := fun a ha => let ⟨j, _, h1, _⟩ := hB1 a ha; ⟨j, h1⟩
  have gB : ∀ a ∈ B, F2 a = H1 a := fun a ha => by
    cases w : H1 a with
    | none => exact absurd w (s1.alive a (Bal a ha)).1
    | some o => exact g2.ext a o (by rw [v1 a (.inl ha)]; exact w)
  have g3 : Go F1 H1 (fun a => a ∈ fi ∨ a ∈ ft) F3 H2 (fun a => a ∈ fi' ∨ a ∈ fv) := by
    refine ⟨fun a o ea => ?_, fun a o ea => ?_, fun b o e n => g2.frame b o e fun z => n (.inl z), fun b eb => ?_, fun b z => (g2.fresh b z).imp .inl id⟩
    · have nB : a ∉ B := fun z => by
        rw [(s1.alive a (Bal a z)).2] at ea; cases ea
      rw [b2 a nB]
      exact g2.ext a o (sv a o ea)
    · by_cases z : a ∈ B
      · rw [b1 a z] at ea; cases ea
      · rw [b2 a z] at ea; exact g2.sub a o ea
    · by_cases z : b ∈ B
      · rw [b1 b z] at eb; exact absurd rfl eb
      · rw [b2 b z] at eb
        rcases g2.nofz b eb with q | q | q
        · by_cases z2 : b ∈ ft
          · exact .inr (.inl (.inr z2))
          · rw [v2 b (fun w => w.elim z z2)] at q
            exact .inl q
        · exact .inr (.inl (.inl q))
        · exact .inr (.inr q)
  have unb : ∀ {u : T} {w : V} {fu : List Addr}, Rep K ca F2 H2 u w fu → (bs.any Bop.bo = true → u.nfz = true) → Rep K ca F3 H2 u w fu := by
    intro u w fu ru hu
    by_cases hB : B = []
    · have : F3 = F2 := funext fun a => b2 a (by rw [hB]; simp)
      rw [this]
      exact ru
    · have hbo : bs.any Bop.bo = true := by
        cases w : bs.any Bop.bo with
        | true => rfl
        | false => exact absurd (hB2 w) hB
      refine Rep.unb (fun a xs o z hz => ?_) u (hu hbo) ru (fun a ha => ?_)
      · have nB : a ∉ B := fun zb => by
          obtain ⟨j, t, h1, h2, h3, h4⟩ := hB1 a zb
          have := h4 o ((gB a zb).symm.trans z)
          rcases hz with rfl | ⟨ob, rfl⟩
          · exact this.1 xs rfl
          · exact this.2 ob _ rfl
        rw [b2 a nB]; exact z
      · by_cases z : a ∈ B
        · exact b1 a z
        · rw [b2 a z]; exact (Rep.alive u ru a ha).2
  have nfz1 : bs.any Bop.bo = true → t'.nfz = true := fun z => by
    rw [z] at c2
    simp only [Bool.not_true, Bool.false_or, Bool.and_eq_true] at c2
    exact c2.1
  have rv3 := unb rv nfz1
  -- the slots behind
  cases w : ioFind bs 0 with
  | none =>
    rw [w] at e
    have e : Except.ok (t', env1) = Except.ok (t, env') := e
    cases e
    have hfi := hfi2 w
    subst hfi
    have hio0 : io = none := by
      unfold ioOk at c1
      rw [w] at c1
      cases io with
      | none => rfl
      | some q => cases c1
    have hfi'0 := hnone hio0
    subst hfi'0
    have s3 : SR K ca F3 H2 σ env' fp1 := s1.of_go g3 fun a ha z => z.elim (fun z => nomatch z) fun z => d1 a z ha
    refine k v H2 F3 fp1 fv ?_ (k1.mono hm) s3 ⟨rv3, ndv, fun a ha z => ?_⟩
    · refine ((g1.trans g3 (fun a z => z.elim (fun z => nomatch z) .inr) (P := fun a => OwM md0 fp1 a ∨ a ∈ fv) fun a z => ?_)).full_md k1 hm
      rcases z with z | z
      · exact .inr (.inl z)
      · exact .inl (.inr z)
    · rcases g3.fresh a (.inr ha) with q | q
      · rcases q with q | q
        · cases q
        · exact d1 a q z
      · exact (s1.alive a z).1 q
  | some pi =>
    obtain ⟨p, i⟩ := pi
    rw [w] at e
    cases out with
    | none => cases e
    | some u' =>
      obtain ⟨_, c3, e⟩ := bind_ok (show (ck (brOk i bs) >>= fun _ => Except.ok (t', env1.set i (some u'))) = .ok (t, env') from e)
      cases e
      have hfi := hfi1 p i w
      subst hfi
      have hpio : io = some p ∧ ioCount bs = 1 := by
        unfold ioOk at c1
        rw [w] at c1
        cases io with
        | none => cases c1
        | some q =>
          simp only [Bool.and_eq_true, decide_eq_true_eq] at c1
          exact ⟨by rw [c1.1], c1.2⟩
      obtain ⟨kk, q1, q2, q3⟩ := ioFind_some w hpio.2
      have hpk : p = kk := by omega
      subst hpk
      obtain ⟨t2, w2, h1, h2, h3⟩ := hout p hpio.1
      cases h1
      have nfz2 : bs.any Bop.bo = true → u'.nfz = true := fun z => by
        rw [z] at c2
        simp only [Bool.not_true, Bool.false_or, Bool.and_eq_true] at c2
        exact c2.2
      have ru3 := unb h3 nfz2
      have hp : p < ts.length := by rw [l1]; exact (List.getElem?_eq_some_iff.mp q2).1
      obtain ⟨w3, ew3, hw3⟩ := hr p ts[p] (by simp [hp])
      rw [h2] at ew3
      cases ew3
      have hσ : σ[i]? = some (some w2) := by
        rcases hw3 with ⟨i', h1, h2, _⟩ | ⟨h1, _⟩
        · rw [q2] at h1
          cases h1
          exact h2
        · exact absurd q2 (h1 i)
      have hil : i < env1.length := by rw [s1.len]; exact (List.getElem?_eq_some_iff.mp hσ).1
      have him := hio p i w
      have offi : ∀ a ∈ fi', ∀ j, j ≠ i → a ∉ fp1 j := fun a ha j hj z => by
        rcases g3.fresh a (.inl ha) with q | q
        · rcases q with q | q
          · exact hj (s1.one j i a z q)
          · exact d1 a q ⟨j, z⟩
        · exact (s1.alive a ⟨j, z⟩).1 q
      have offv2 : ∀ a ∈ fv, ∀ j, j ≠ i → a ∉ fp1 j := fun a ha j hj z => by
        rcases g3.fresh a (.inr ha) with q | q
        · rcases q with q | q
          · exact hj (s1.one j i a z q)
          · exact d1 a q ⟨j, z⟩
        · exact (s1.alive a ⟨j, z⟩).1 q
      -- the state without the slot, then with it again
      have sD : SR K ca F3 H2 σ (env1.set i none) (fpSet fp1 i []) := s1.drop.of_go g3 fun a ha z => by
        obtain ⟨j, hj⟩ := ha
        by_cases hji : j = i
        · subst hji; rw [fpSet_same] at hj; cases hj
        · rw [fpSet_ne hji] at hj
          rcases z with z | z
          · exact hji (s1.one j i a hj z)
          · exact d1 a z ⟨j, hj⟩
      have sP := sD.put (i := i) (t := u') (v := w2) (fv := fi') ⟨ru3, ndi, fun a ha ⟨j, hj⟩ => by
        by_cases hji : j = i
        · subst hji; rw [fpSet_same] at hj; cases hj
        · rw [fpSet_ne hji] at hj; exact offi a ha j hji hj⟩ (by rw [List.length_set]; exact hil)
      have e1' : σ.set i (some w2) = σ := List.ext_getElem? fun j => by
        by_cases hji : i = j
        · subst hji; rw [List.getElem?_set_self (by rw [← s1.len]; exact hil), hσ]
        · rw [List.getElem?_set_ne hji]
      have e2' : (env1.set i none).set i (some u') = env1.set i (some u') := List.set_set ..
      have e3' : fpSet (fpSet fp1 i []) i fi' = fpSet fp1 i fi' := funext fun j => by
        unfold fpSet
        split <;> rfl
      rw [e1', e2', e3'] at sP
      refine k v H2 F3 (fpSet fp1 i fi') fv ?_ ?_ sP ⟨rv3, ndv, fun a ha ⟨j, hj⟩ => ?_⟩
      · have g13 := ((g1.full k1).trans g3 (fun a z => z.elim (fun z => .inl ⟨i, z⟩) .inr) (P := fun a => Ow fp1 a ∨ a ∈ fi' ∨ a ∈ fv) fun a z => ?_)
        · refine ⟨g13.ext, g13.sub, fun b o eb n => ?_, fun b eb => ?_, fun b z => ?_⟩
          · -- what md does not own is kept
            have n1 : ¬ OwM md0 fp b := fun ⟨j, hj, hj2⟩ => n ⟨j, hm j hj, hj2⟩
            have h1b := g1.frame b o eb n1
            refine g3.frame b o h1b fun z => ?_
            rcases z with z | z
            · by_cases hmi : i ∈ md0
              · rcases g1.fresh b (.inl ⟨i, hmi, z⟩) with q | q
                · exact n1 q
                · rw [q] at eb; cases eb
              · rw [k1.fp i hmi] at z
                exact n ⟨i, him, z⟩
            · rcases g1.fresh b (.inr z) with q | q
              · exact n1 q
              · rw [q] at eb; cases eb
          · rcases g3.nofz b eb with q | q | q
            · rcases g1.nofz b q with q | q | q
              · exact .inl q
              · exact .inr (.inl (let ⟨j, hj, hj2⟩ := q; ⟨j, hm j hj, hj2⟩))
              · exact .inr (.inr q)
            · rcases q with z | z
              · by_cases hmi : i ∈ md0
                · rcases g1.fresh b (.inl ⟨i, hmi, z⟩) with q | q
                  · exact .inr (.inl (let ⟨j, hj, hj2⟩ := q; ⟨j, hm j hj, hj2⟩))
                  · exact .inr (.inr q)
                · rw [k1.fp i hmi] at z
                  exact .inr (.inl ⟨i, him, z⟩)
              · rcases g1.fresh b (.inr z) with q | q
                · exact .inr (.inl (let ⟨j, hj, hj2⟩ := q; ⟨j, hm j hj, hj2⟩))
                · exact .inr (.inr q)
            · cases wH : H b with
              | none => exact .inr (.inr rfl)
              | some o =>
                by_cases n1 : OwM md0 fp b
                · exact .inr (.inl (let ⟨j, hj, hj2⟩ := n1; ⟨j, hm j hj, hj2⟩))
                · rw [g1.frame b o wH n1] at q; cases q
          · have back1 : ∀ b, (b ∈ fp1 i ∨ b ∈ ft) ∨ H1 b = none → OwM md fp b ∨ H b = none := fun b z => by
              rcases z with (z | z) | z
              · by_cases hmi : i ∈ md0
                · exact (g1.fresh b (.inl ⟨i, hmi, z⟩)).imp (fun ⟨j, hj, hj2⟩ => ⟨j, hm j hj, hj2⟩) id
                · rw [k1.fp i hmi] at z
                  exact .inl ⟨i, him, z⟩
              · exact (g1.fresh b (.inr z)).imp (fun ⟨j, hj, hj2⟩ => ⟨j, hm j hj, hj2⟩) id
              · cases wH : H b with
                | none => exact .inr rfl
                | some o =>
                  by_cases n1 : OwM md0 fp b
                  · exact .inl (let ⟨j, hj, hj2⟩ := n1; ⟨j, hm j hj, hj2⟩)
                  · rw [g1.frame b o wH n1] at z; cases z
            rcases z with ⟨j, hj, hj2⟩ | z
            · by_cases hji : j = i
              · subst hji
                rw [fpSet_same] at hj2
                exact back1 b (g3.fresh b (.inl hj2))
              · rw [fpSet_ne hji] at hj2
                by_cases hmj : j ∈ md0
                · exact (g1.fresh b (.inl ⟨j, hmj, hj2⟩)).imp (fun ⟨j, hj, hj2⟩ => ⟨j, hm j hj, hj2⟩) id
                · rw [k1.fp j hmj] at hj2
                  exact .inl ⟨j, hj, hj2⟩
            · exact back1 b (g3.fresh b (.inr z))
        · rcases z with z | z | z
          · exact .inr (.inl z)
          · exact .inl (.inl z)
          · exact .inl (.inr z)
      · refine ⟨fun j hj => ?_, fun j hj => ?_⟩
        · have hji : j ≠ i := fun z => hj (by rw [z]; exact him)
          rw [fpSet_ne hji]
          exact k1.fp j fun z => hj (hm j z)
        · have hji : i ≠ j := fun z => hj (by rw [← z]; exact him)
          rw [List.getElem?_set_ne hji]
          exact k1.env j fun z => hj (hm j z)
      · by_cases hji : j = i
        · subst hji; rw [fpSet_same] at hj; exact offv a ha hj
        · rw [fpSet_ne hji] at hj; exact offv2 a ha j hji hj
end
end QL
namespace QL
open PySem L2 PyProof.Rows

section
variable {X : Cx} {pins : List (Addr × Obj)} {σ : L2.St} {H : Hp} {s : Shared} {h' : Heap} {Q : VK}
abbrev tupO (its : List Value) : Obj := { cls := .type "tuple", data := .seq its.toArray }
/-- a tuple laid at the heap's end -/
theorem laidN {xs : List V} {its : List Value} (I : Inv X pins σ H { s with heap := h' }) (r : Vals xs its) (hz : xs.length ≤ sizeLine) (q : ∀ p o, H p = none → o.dict = none → Q (.ref p) (upd H p (.frz o (.tup xs)))) :
    EP X pins σ Q (.ref h'.objs.size) { s with heap := h'.push (tupO its) } := by
  have e : (h'.push (tupO its)).get? h'.objs.size = some (tupO its) := Heap.get?_push_size _ rfl
  exact ⟨.ref h'.objs.size, _, I.laid (t' := s.toks) (o := .frz (tupO its) (.tup xs)) (fun b o z => Heap.get?_push_of_some _ z) (Nat.le_refl _) ⟨e, hz, its, r, _, e, rfl, _, rfl⟩, rfl, q _ _ (I.hok.fresh (Nat.le_refl _)) rfl⟩
def tTupN (t : TA) : TE := fun σ H Q => t σ H fun xs H1 => xs.length ≤ sizeLine ∧ ∀ p o, H1 p = none → o.dict = none → Q (.ref p) (upd H1 p (.frz o (.tup xs)))
theorem pe_tupN {es : List Expr} {x1} {pos : Pos} {t : TA} (h : PA X es t) : PE X (.Tuple es x1 pos) (tTupN t) where
  run := fun pins s σ H Q I q => wpAny_Tuple_spliced (thn (h.run pos pins s σ H _ I q) fun us s1 ⟨xs, H1, I1, r, z, q⟩ => ⟨r.length ▸ z, laidN (s := s1) (h' := s1.heap) I1 r z q⟩)
/-- t + u -/
def rCatN (K : PySem.W.Frag) : R2 := fun x y H Q => ∃ a b xs ys, x = .ref a ∧ y = .ref b ∧ SqT K H a xs ∧ SqT K H b ys ∧ xs ≠ [] ∧ xs.length + ys.length ≤ sizeLine ∧
  (ys = [] → Q (.ref a) H) ∧ (ys ≠ [] → ∀ p o, H p = none → o.dict = none → Q (.ref p) (upd H p (.frz o (.tup (xs ++ ys)))))
theorem op_catN : OpR X (binaryOp .Add) (rCatN X.K) := by
  rintro pins s σ H x y v u Q I rx ry ⟨a, b, xs, ys, rfl, rfl, ha, hb, hx, hz, q1, q2⟩
  cases rx
  cases ry
  obtain ⟨i1, r1, p1, _⟩ := I.tuple ha
  obtain ⟨i2, r2, p2, _⟩ := I.tuple hb
  refine HT.cat_tup p1 p2 (fun z => hx (r1.nil_iff.mp z)) (fun z => ⟨.ref a, H, I, rfl, q1 (r2.nil_iff.mp z)⟩) (fun z => ?_) (by rw [← r1.length, ← r2.length]; exact hz)
  exact laidN (s := s) (h' := s.heap) I (r1.append r2) (by rw [List.length_append]; exact hz) (q2 fun w => z (r2.nil_iff.mpr w))
/-- t[lo:hi] -/
def rSlN (K : PySem.W.Frag) : V → Option Int → Option Int → Hp → VK → Prop := fun x lo hi H Q => ∃ a xs, x = .ref a ∧ SqT K H a xs ∧
  ((HT.sIx xs.length 0 lo = 0 ∧ HT.sIx xs.length xs.length hi = xs.length) → Q (.ref a) H) ∧
  (¬ (HT.sIx xs.length 0 lo = 0 ∧ HT.sIx xs.length xs.length hi = xs.length) → ∀ p o, H p = none → o.dict = none → Q (.ref p) (upd H p (.frz o (.tup (cutV xs lo hi)))))
theorem sl_tupN : SlR X (rSlN X.K) := by
  rintro pins s σ H x v vl vu lo hi sl Q I rx hs pl pu ⟨a, xs, rfl, hx, q1, q2⟩
  cases rx
  obtain ⟨its, r, ht, hz⟩ := I.tuple hx
  have hl : its.toArray.size = xs.length := by rw [List.size_toArray]; exact r.length.symm
  refine ⟨"tuple", _, slot_tuple_getitem.lookup, ht.typeIs, ?_⟩
  by_cases hw : HT.sIx xs.length 0 lo = 0 ∧ HT.sIx xs.length xs.length hi = xs.length
  · exact getItem_tuple_whole ht hs pl pu (by rw [hl]; exact hw) ⟨.ref a, H, I, rfl, q1 hw⟩
  · refine HT.getItem_tuple_cut ht hs pl pu (by rw [hl]; exact hw) ?_ (by rw [hl]; exact hz)
    rw [hl]
    exact laidN (s := s) (h' := s.heap) I ((r.drop _).take _) (Nat.le_trans (cutV_length xs lo hi) hz) (q2 hw)
/-- tuple(xs) -/
def rTupN (K : PySem.W.Frag) : List V → Hp → VK → Prop := fun xs H Q => ∃ p ys, xs = [.ref p] ∧ ((SqL K H p ys ∧ ∀ l o, H l = none → o.dict = none → Q (.ref l) (upd H l (.frz o (.tup ys)))) ∨ (SqT K H p ys ∧ Q (.ref p) H))
theorem call_tupleN : CallR X (.type "tuple") (rTupN X.K) := by
  rintro pins s σ H xs us Q I r ⟨p, ys, rfl, h⟩
  obtain ⟨u, rfl, rx⟩ := vals1 r
  cases rx
  rcases h with ⟨hq, q⟩ | ⟨hq, q⟩
  · obtain ⟨its, r2, pl, hz⟩ := I.list hq
    refine call_tuple_list pl.isList (fun h2 kp => ?_) (by simp only [List.size_toArray]; rw [← r2.length]; exact hz)
    exact laidN (s := s) (h' := h2) (I.kept (t' := s.toks) kp) r2 hz q
  · obtain ⟨_, _, pl, _⟩ := I.tuple hq
    exact call_tuple_same pl ⟨.ref p, H, I, rfl, q⟩
end
end QL
namespace QL
open PySem L2

theorem PEm {X : Cx} {e : Expr} {t t' : TE} (h : PE X e t) (m : ∀ σ H Q, t' σ H Q → t σ H Q) : PE X e t' := ⟨fun pins s σ H Q I q => h.run pins s σ H Q I (m σ H Q q)⟩
theorem PTm {X : Cx} {e : Expr} {t t' : TT} (h : PT X e t) (m : ∀ σ H Q, t' σ H Q → t σ H Q) : PT X e t' := ⟨fun pins s σ H Q I q => h.run pins s σ H Q I (m σ H Q q)⟩
theorem PWm {X : Cx} {e : Expr} {t t' : TT} (h : PW X e t) (m : ∀ σ H Q, t' σ H Q → t σ H Q) : PW X e t' := ⟨fun w pins s σ H Q I q => h.run w pins s σ H Q I (m σ H Q q)⟩
theorem PAm {X : Cx} {e : List Expr} {t t' : TA} (h : PA X e t) (m : ∀ σ H Q, t' σ H Q → t σ H Q) : PA X e t' := ⟨fun pos pins s σ H Q I q => h.run pos pins s σ H Q I (m σ H Q q)⟩
theorem PSm {X : Cx} {e : Stmt} {t t' : TS} (h : PS X e t) (m : ∀ D σ H, t' D σ H → t D σ H) : PS X e t' := ⟨fun pins s σ H D I q => h.run pins s σ H D I (m D σ H q)⟩
theorem PSsm {X : Cx} {e : List Stmt} {t t' : TS} (h : PSs X e t) (m : ∀ D σ H, t' D σ H → t D σ H) : PSs X e t' := ⟨fun pins s σ H D I q => h.run pins s σ H D I (m D σ H q)⟩
theorem PGm {X : Cx} {e : Expr} {t t' : TG} (h : PG X e t) (m : ∀ v σ H Q, t' v σ H Q → t v σ H Q) : PG X e t' := ⟨fun pins s σ H v u Q I r q => h.run pins s σ H v u Q I r (m v σ H Q q)⟩
theorem PGsm {X : Cx} {e : List Expr} {t t' : TGs} (h : PGs X e t) (m : ∀ v σ H Q, t' v σ H Q → t v σ H Q) : PGs X e t' := ⟨fun pins s σ H v u Q I r q => h.run pins s σ H v u Q I r (m v σ H Q q)⟩
theorem PIm {X : Cx} {g e : Expr} {t t' : TI} (h : PI X g e t) (m : ∀ σ H Q, t' σ H Q → t σ H Q) : PI X g e t' := ⟨fun pins s σ H Q I q => h.run pins s σ H Q I (m σ H Q q)⟩
theorem PTsm {X : Cx} {e : List Expr} {t t' : TT} (h : PTs X e t) (m : ∀ σ H Q, t' σ H Q → t σ H Q) : PTs X e t' := ⟨fun pins s σ H Q I q => h.run pins s σ H Q I (m σ H Q q)⟩

section
variable {K : PySem.W.Frag} {ca : Ca} {F F' F1 H H' H1 : Hp} {O O' : Addr → Prop} {σ : St} {env : En} {fp : Fp} {t : T} {v : V} {fv : List Addr} {ts : List T} {vs : List V} {md : List Nat}

theorem TEof.mono {f : EM} {Q Q' : VK} (h : TEof K ca md f σ H Q) (m : ∀ v H, Q v H → Q' v H) : TEof K ca md f σ H Q' := by
  obtain ⟨F, env, fp, t, env', s, e, k⟩ := h
  exact ⟨F, env, fp, t, env', s, e, fun v H1 F1 fp1 fv g kp s1 tm => m _ _ (k v H1 F1 fp1 fv g kp s1 tm)⟩
theorem TBof.mono {f : BM} {Q Q' : VK} (h : TBof K ca md f σ H Q) (m : ∀ v H, Q v H → Q' v H) : TBof K ca md f σ H Q' := by
  obtain ⟨F, env, fp, t, env', s, e, k⟩ := h
  exact ⟨F, env, fp, t, env', s, e, fun v H1 F1 fp1 fv g kp s1 o n d => m _ _ (k v H1 F1 fp1 fv g kp s1 o n d)⟩
theorem TAof.mono {f : AM} {Q Q' : List V → Hp → Prop} (h : TAof K ca md f σ H Q) (m : ∀ v H, Q v H → Q' v H) : TAof K ca md f σ H Q' := by
  obtain ⟨F, env, fp, t, env', s, e, k⟩ := h
  exact ⟨F, env, fp, t, env', s, e, fun v H1 F1 fp1 fv g kp s1 o n d => m _ _ (k v H1 F1 fp1 fv g kp s1 o n d)⟩

def eVar (i : Nat) : EM := fun env => match env[i]? with
  | some (some t) => do
    let _ ← ck (!t.ow)
    .ok (t, env)
  | _ => stk
theorem te_var {i : Nat} {Q : VK} (h : TEof K ca md (eVar i) σ H Q) : tVar i σ H Q := by
  obtain ⟨F, env, fp, t, env', s, e, k⟩ := h
  unfold eVar at e
  split at e
  case h_2 => cases e
  case h_1 u eu =>
    obtain ⟨_, c, e⟩ := bind_ok e
    cases e
    obtain ⟨v, e1, r⟩ := s.slot i t eu
    have hf := Rep.pure_fp t (by simpa using ck_ok c) r
    rw [hf] at r
    exact ⟨v, e1, k v H F fp [] (Go.refl s.sub fun b z => z.elim id (fun z => nomatch z)) Keep.refl s ⟨r, List.nodup_nil, fun _ z => nomatch z⟩⟩
/-- the slot is given up -/
def eMv (i : Nat) : EM := fun env => match env[i]? with
  | some (some t) => .ok (t, env.set i none)
  | _ => stk
theorem te_mv {i : Nat} {Q : VK} (hi : i ∈ md) (h : TEof K ca md (eMv i) σ H Q) : tVar i σ H Q := by
  obtain ⟨F, env, fp, t, env', s, e, k⟩ := h
  unfold eMv at e
  split at e
  case h_2 => cases e
  case h_1 u eu =>
    cases e
    obtain ⟨v, e1, r⟩ := s.slot i t eu
    refine ⟨v, e1, k v H F (fpSet fp i []) (fp i) (Go.refl s.sub fun b z => ?_) ⟨fun j hj => fpSet_ne fun z => hj (by rw [z]; exact hi), fun j hj => List.getElem?_set_ne fun z => hj (by rw [← z]; exact hi)⟩ s.drop ⟨r, s.nd i, fun a ha z => ?_⟩⟩
    · rcases z with ⟨j, hj, hj2⟩ | z
      · by_cases w : j = i
        · subst w; rw [fpSet_same] at hj2; cases hj2
        · rw [fpSet_ne w] at hj2; exact ⟨j, hj, hj2⟩
      · exact ⟨i, hi, z⟩
    · obtain ⟨j, hj⟩ := z
      by_cases w : j = i
      · subst w; rw [fpSet_same] at hj; cases hj
      · rw [fpSet_ne w] at hj; exact w (s.one j i a hj ha)
open Classical in
/-- the slot is frozen -/
def eFz (i : Nat) : EM := fun env => match env[i]? with
  | some (some t) => do
    let _ ← ck t.nob
    .ok (t.fz, env.set i (some t.fz))
  | _ => stk
open Classical in
theorem te_fz {i : Nat} {Q : VK} (hi : i ∈ md) (h : TEof K ca md (eFz i) σ H Q) : tVar i σ H Q := by
  obtain ⟨F, env, fp, t, env', s, e, k⟩ := h
  unfold eFz at e
  split at e
  case h_2 => cases e
  case h_1 u eu =>
    obtain ⟨_, c, e⟩ := bind_ok e
    cases e
    obtain ⟨v, e1, r⟩ := s.slot i u eu
    have view : ∃ Fv : Hp, (∀ a, a ∈ fp i → Fv a = H a) ∧ (∀ a, a ∉ fp i → Fv a = F a) := ⟨fun a => if a ∈ fp i then H a else F a, fun a z => if_pos z, fun a z => if_neg z⟩
    obtain ⟨Fv, v1, v2⟩ := view
    have sv : Sub F Fv := fun a o ea => by
      by_cases z : a ∈ fp i
      · rw [v1 a z]; exact s.sub a o ea
      · rw [v2 a z]; exact ea
    have svH : Sub Fv H := fun a o ea => by
      by_cases z : a ∈ fp i
      · rw [v1 a z] at ea; exact ea
      · rw [v2 a z] at ea; exact s.sub a o ea
    have g : Go F H (· ∈ fp i) Fv H (fun _ => False) := ⟨sv, svH, fun _ _ e _ => e, fun b e => by
      by_cases z : b ∈ fp i
      · exact .inr (.inl z)
      · rw [v2 b z] at e; exact .inl e, fun _ z => z.elim⟩
    have rv := Rep.frz (H' := H) sv u (ck_ok c) r v1
    have sD : SR K ca Fv H σ (env.set i none) (fpSet fp i []) := s.drop.of_go g fun a ⟨j, hj⟩ z => by
      by_cases w : j = i
      · subst w; rw [fpSet_same] at hj; cases hj
      · rw [fpSet_ne w] at hj; exact w (s.one j i a hj z)
    have hil : i < env.length := (List.getElem?_eq_some_iff.mp eu).1
    have sP := sD.put (i := i) (t := u.fz) (v := v) (fv := []) ⟨rv, List.nodup_nil, fun _ z => nomatch z⟩ (by rw [List.length_set]; exact hil)
    have e1' : σ.set i (some v) = σ := List.ext_getElem? fun j => by
      by_cases hji : i = j
      · subst hji; rw [List.getElem?_set_self (by rw [← s.len]; exact hil), e1]
      · rw [List.getElem?_set_ne hji]
    have e2' : (env.set i none).set i (some u.fz) = env.set i (some u.fz) := List.set_set ..
    have e3' : fpSet (fpSet fp i []) i [] = fpSet fp i [] := funext fun j => by
      unfold fpSet
      split <;> rfl
    rw [e1', e2', e3'] at sP
    refine ⟨v, e1, k v H Fv (fpSet fp i []) [] ⟨sv, svH, fun _ _ e _ => e, fun b e => (g.nofz b e).imp id (Or.imp (fun z => ⟨i, hi, z⟩) id), fun b z => ?_⟩ ⟨fun j hj => fpSet_ne fun z => hj (by rw [z]; exact hi), fun j hj => List.getElem?_set_ne fun z => hj (by rw [← z]; exact hi)⟩ sP ⟨rv, List.nodup_nil, fun _ z => nomatch z⟩⟩
    rcases z with ⟨j, hj, hj2⟩ | z
    · by_cases w : j = i
      · subst w; rw [fpSet_same] at hj2; cases hj2
      · rw [fpSet_ne w] at hj2; exact .inl ⟨j, hj, hj2⟩
    · cases z
/-- the slot's value, frozen where it is owned -/
def eAl (i : Nat) : EM := fun env => match env[i]? with
  | some (some t) => if t.ow then eFz i env else .ok (t, env)
  | _ => stk
theorem te_al {i : Nat} {Q : VK} (hi : i ∈ md) (h : TEof K ca md (eAl i) σ H Q) : tVar i σ H Q := by
  obtain ⟨F, env, fp, t, env', s, e, k⟩ := h
  have e0 := e
  unfold eAl at e
  split at e
  case h_2 => cases e
  case h_1 u eu =>
    split at e
    · exact te_fz hi ⟨F, env, fp, t, env', s, e, k⟩
    · rename_i how
      refine te_var ⟨F, env, fp, t, env', s, ?_, k⟩
      unfold eVar
      rw [eu]
      have : u.ow = false := by simpa using how
      simp only [this, Bool.not_false]
      exact e
def eC (t : T) : EM := fun env => .ok (t, env)
theorem te_c {Q : VK} (hr : ∀ F H, Rep K ca F H t v []) (h : TEof K ca md (eC t) σ H Q) : tC v σ H Q := by
  obtain ⟨F, env, fp, t, env', s, e, k⟩ := h
  cases e
  exact k v H F fp [] (Go.refl s.sub fun b z => z.elim id (fun z => nomatch z)) Keep.refl s ⟨hr F H, List.nodup_nil, fun _ z => nomatch z⟩

def tmps : List Bop → R (List T)
  | [] => .ok []
  | .tmp t :: bs => do
    let ts ← tmps bs
    .ok (t :: ts)
  | _ => stk
theorem Ops.tmps : ∀ {bs : List Bop} {vs : List V} {ft : List Addr} {ts : List T}, Ops K ca md F H σ fp bs vs ft → QL.tmps bs = .ok ts → Reps K ca F H ts vs ft
  | [], _, _, _, h, e => by
    cases e
    simp only [Ops] at h
    simp only [Reps]
    exact h
  | .tmp t :: bs, _, _, _, h, e => by
    obtain ⟨ts, e1, e⟩ := bind_ok (show (QL.tmps bs >>= fun ts => Except.ok (t :: ts)) = _ from e)
    cases e
    simp only [Ops] at h
    obtain ⟨v, us, f, g, h1, h2, h3, h4⟩ := h
    simp only [Reps]
    exact ⟨v, us, f, g, h1, h2, Ops.tmps h3 e1, h4⟩
  | .br t i :: bs, _, _, _, h, e => by cases e
  | .io i :: bs, _, _, _, h, e => by cases e
def eTup (f : AM) : EM := fun env => do
  let (bs, env1) ← f env
  let ts ← tmps bs
  let _ ← ck (decide (ts.length ≤ big))
  .ok (.tup ts, env1)
theorem te_tup {f : AM} {Q : VK} (h : TEof K ca md (eTup f) σ H Q) : tTupN (TAof K ca md f) σ H Q := by
  obtain ⟨F, env, fp, t, env', s, e, k⟩ := h
  obtain ⟨⟨bs, env1⟩, e1, e⟩ := bind_ok e
  obtain ⟨ts, e2, e⟩ := bind_ok e
  obtain ⟨_, c, e⟩ := bind_ok e
  have c := of_decide_eq_true (ck_ok c)
  cases e
  refine ⟨F, env, fp, bs, env', s, e1, fun vs H1 F1 fp1 ft g1 k1 s1 o1 n1 d1 => ?_⟩
  have r := o1.tmps e2
  refine ⟨by rw [Reps.length r]; exact big_le c, fun p ob hp hd => ?_⟩
  have g2 : Go F1 H1 (fun _ => False) (upd F1 p (.frz ob (.tup vs))) (upd H1 p (.frz ob (.tup vs))) (fun _ => False) := Go.newF s1.sub hp fun _ z => z.elim
  refine k (.ref p) _ _ fp1 ft (g1.trans g2 (fun _ z => z.elim) fun a z => .inr z) k1 (s1.of_go g2 fun _ _ z => z) ⟨?_, n1, d1⟩
  simp only [Rep]
  exact ⟨p, vs, rfl, SqN.of upd_same hd, r.of_go g2 fun _ _ z => z⟩
def eLst (f : AM) : EM := fun env => do
  let (bs, env1) ← f env
  let ts ← tmps bs
  let _ ← ck (decide (ts.length ≤ big))
  .ok (.lst true ts, env1)
theorem none_of_sub {p : Addr} (s : Sub F H) (h : H p = none) : F p = none := by
  cases w : F p with
  | none => rfl
  | some o => rw [s p o w] at h; cases h
theorem te_lst {f : AM} {Q : VK} (h : TEof K ca md (eLst f) σ H Q) : tLst (TAof K ca md f) σ H Q := by
  obtain ⟨F, env, fp, t, env', s, e, k⟩ := h
  obtain ⟨⟨bs, env1⟩, e1, e⟩ := bind_ok e
  obtain ⟨ts, e2, e⟩ := bind_ok e
  obtain ⟨_, c, e⟩ := bind_ok e
  have c := of_decide_eq_true (ck_ok c)
  cases e
  refine ⟨F, env, fp, bs, env', s, e1, fun vs H1 F1 fp1 ft g1 k1 s1 o1 n1 d1 => ?_⟩
  have r := o1.tmps e2
  refine ⟨by rw [Reps.length r]; exact big_le c, fun p hp => ?_⟩
  have g2 : Go F1 H1 (fun _ => False) F1 (upd H1 p (.lst vs)) (· = p) := Go.newO s1.sub hp fun b z => .inr (by rw [z]; exact hp)
  have pft : p ∉ ft := fun z => (o1.alive p z).1 hp
  have pfp : ¬ Ow fp1 p := fun z => (s1.alive p z).1 hp
  refine k (.ref p) _ _ fp1 (p :: ft) (g1.trans g2 (fun _ z => z.elim) fun a z => ?_) k1 (s1.of_go g2 fun _ _ z => z) ⟨?_, List.nodup_cons.mpr ⟨pft, n1⟩, fun a ha => ?_⟩
  · rcases z with z | z
    · exact .inr (.inl z)
    · rcases List.mem_cons.mp z with z | z
      · exact .inl z
      · exact .inr (.inr z)
  · simp only [Rep]
    exact ⟨p, vs, ft, rfl, upd_same, none_of_sub s1.sub hp, r.of_go g2 fun _ _ z => z, rfl⟩
  · rcases List.mem_cons.mp ha with rfl | ha
    · exact pfp
    · exact d1 a ha
def eIf (c : En → R (Bool × En)) (f g : EM) : EM := fun env => do
  let (b, env1) ← c env
  if b then f env1 else g env1
theorem TEof.later {x : EM} {Q : VK} {F1 : Hp} {fp1 : Fp} {env1 env' : En} (g1 : Go F H (OwM md fp) F1 H1 (OwM md fp1)) (k1 : Keep md env fp env1 fp1) (s1 : SR K ca F1 H1 σ env1 fp1) (ex : x env1 = .ok (t, env'))
    (k : ∀ v H' F' fp' fv, Go F H (OwM md fp) F' H' (fun a => OwM md fp' a ∨ a ∈ fv) → Keep md env fp env' fp' → SR K ca F' H' σ env' fp' → Tm K ca F' H' fp' t v fv → Q v H') : TEof K ca md x σ H1 Q :=
  ⟨F1, env1, fp1, t, env', s1, ex, fun v H2 F2 fp2 fv g2 k2 s2 m => k v H2 F2 fp2 fv (g1.trans g2 (fun _ z => z) fun _ z => .inl z) (k1.trans k2) s2 m⟩
theorem te_if {c : En → R (Bool × En)} {f g : EM} {Q : VK} (h : TEof K ca md (eIf c f g) σ H Q) : tIf (TTof K ca md c) (TEof K ca md f) (TEof K ca md g) σ H Q := by
  obtain ⟨F, env, fp, t, env', s, e, k⟩ := h
  obtain ⟨⟨b, env1⟩, e1, e⟩ := bind_ok e
  refine ⟨F, env, fp, b, env1, s, e1, fun H1 F1 fp1 g1 k1 s1 => ?_⟩
  cases b with
  | true => exact TEof.later g1 k1 s1 e k
  | false => exact TEof.later g1 k1 s1 e k
/-- a value that is True or False -/
def toB : T → R Bool
  | .bl b => .ok b
  | _ => stk
theorem toB_ok {b : Bool} (h : toB t = .ok b) : t = .bl b := by
  cases t <;> first | (cases h; rfl) | cases h
theorem Tm.bl {b : Bool} (m : Tm K ca F H fp (.bl b) v fv) : v = .bl b ∧ fv = [] := by
  have := m.rep
  simpa only [Rep] using this
theorem Go.nilr {O P : Addr → Prop} (g : Go F H O F' H' (fun a => P a ∨ a ∈ ([] : List Addr))) : Go F H O F' H' P := g.weak (fun _ z => z) fun _ z => .inl z
def eAnd (f g : EM) : EM := fun env => do
  let (t, env1) ← f env
  let b ← toB t
  if b then g env1 else .ok (.bl false, env1)
theorem te_and {f g : EM} {Q : VK} (h : TEof K ca md (eAnd f g) σ H Q) : tAndV (TEof K ca md f) (TEof K ca md g) σ H Q := by
  obtain ⟨F, env, fp, t, env', s, e, k⟩ := h
  obtain ⟨⟨u, env1⟩, e1, e⟩ := bind_ok e
  obtain ⟨b, e2, e⟩ := bind_ok e
  have := toB_ok e2
  subst this
  refine ⟨F, env, fp, _, env1, s, e1, fun v H1 F1 fp1 fv g1 k1 s1 m => ?_⟩
  obtain ⟨rfl, rfl⟩ := m.bl
  refine ⟨b, rfl, ?_⟩
  cases b with
  | true => exact TEof.later g1.nilr k1 s1 e k
  | false =>
    cases e
    exact k _ H1 F1 fp1 [] g1 k1 s1 m
def eOr (f g : EM) : EM := fun env => do
  let (t, env1) ← f env
  let b ← toB t
  if b then .ok (.bl true, env1) else g env1
def eNot (f : EM) : EM := fun env => do
  let (t, env1) ← f env
  let b ← toB t
  .ok (.bl (!b), env1)
theorem te_not {f : EM} {Q : VK} (h : TEof K ca md (eNot f) σ H Q) : tNotV (TEof K ca md f) σ H Q := by
  obtain ⟨F, env, fp, t, env', s, e, k⟩ := h
  obtain ⟨⟨u, env1⟩, e1, e⟩ := bind_ok e
  obtain ⟨b, e2, e⟩ := bind_ok e
  have := toB_ok e2
  subst this
  cases e
  refine ⟨F, env, fp, _, env', s, e1, fun v H1 F1 fp1 fv g1 k1 s1 m => ?_⟩
  obtain ⟨rfl, rfl⟩ := m.bl
  exact ⟨b, rfl, k _ H1 F1 fp1 [] g1 k1 s1 ⟨by simp only [Rep]; trivial, List.nodup_nil, fun _ z => nomatch z⟩⟩
abbrev BT := En → R (Bool × En)
def tV (f : EM) : BT := fun env => do
  let (t, env1) ← f env
  let b ← toB t
  .ok (b, env1)
theorem tt_v {f : EM} {Q : Bool → Hp → Prop} (h : TTof K ca md (tV f) σ H Q) : TEof K ca md f σ H (fun x H1 => ∃ c, x = .bl c ∧ Q c H1) := by
  obtain ⟨F, env, fp, t, env', s, e, k⟩ := h
  obtain ⟨⟨u, env1⟩, e1, e⟩ := bind_ok e
  obtain ⟨b, e2, e⟩ := bind_ok e
  have := toB_ok e2
  subst this
  cases e
  refine ⟨F, env, fp, _, env', s, e1, fun v H1 F1 fp1 fv g1 k1 s1 m => ?_⟩
  obtain ⟨rfl, rfl⟩ := m.bl
  exact ⟨_, rfl, k H1 F1 fp1 g1.nilr k1 s1⟩
def tAndS (c d : BT) : BT := fun env => do
  let (b, env1) ← c env
  if b then d env1 else .ok (false, env1)
def tOrS (c d : BT) : BT := fun env => do
  let (b, env1) ← c env
  if b then .ok (true, env1) else d env1
def tNotS (c : BT) : BT := fun env => do
  let (b, env1) ← c env
  .ok (!b, env1)
theorem tt_and {c d : BT} {Q : Bool → Hp → Prop} (h : TTof K ca md (tAndS c d) σ H Q) : L2.tAnd (TTof K ca md c) (TTof K ca md d) σ H Q := by
  obtain ⟨F, env, fp, b, env', s, e, k⟩ := h
  obtain ⟨⟨b1, env1⟩, e1, e⟩ := bind_ok e
  refine ⟨F, env, fp, b1, env1, s, e1, fun H1 F1 fp1 g1 k1 s1 => ?_⟩
  cases b1 with
  | true => exact ⟨F1, env1, fp1, b, env', s1, e, fun H2 F2 fp2 g2 k2 s2 => k H2 F2 fp2 (g1.trans g2 (fun _ z => z) fun _ z => .inl z) (k1.trans k2) s2⟩
  | false =>
    cases e
    exact k H1 F1 fp1 g1 k1 s1
theorem tt_or {c d : BT} {Q : Bool → Hp → Prop} (h : TTof K ca md (tOrS c d) σ H Q) : L2.tOr (TTof K ca md c) (TTof K ca md d) σ H Q := by
  obtain ⟨F, env, fp, b, env', s, e, k⟩ := h
  obtain ⟨⟨b1, env1⟩, e1, e⟩ := bind_ok e
  refine ⟨F, env, fp, b1, env1, s, e1, fun H1 F1 fp1 g1 k1 s1 => ?_⟩
  cases b1 with
  | false => exact ⟨F1, env1, fp1, b, env', s1, e, fun H2 F2 fp2 g2 k2 s2 => k H2 F2 fp2 (g1.trans g2 (fun _ z => z) fun _ z => .inl z) (k1.trans k2) s2⟩
  | true =>
    cases e
    exact k H1 F1 fp1 g1 k1 s1
theorem tt_not {c : BT} {Q : Bool → Hp → Prop} (h : TTof K ca md (tNotS c) σ H Q) : L2.tNot (TTof K ca md c) σ H Q := by
  obtain ⟨F, env, fp, b, env', s, e, k⟩ := h
  obtain ⟨⟨b1, env1⟩, e1, e⟩ := bind_ok e
  cases e
  exact ⟨F, env, fp, b1, env', s, e1, fun H1 F1 fp1 g1 k1 s1 => k H1 F1 fp1 g1 k1 s1⟩
theorem ta_two {f g : BM} {r : R2} {Q : VK} (h : TAof K ca md (aCons f (aCons g aNil)) σ H (fun vs H1 => ∃ x y, vs = [x, y] ∧ r x y H1 Q)) : tOp r (TBof K ca md f) (TBof K ca md g) σ H Q := by
  refine (ta_cons h : TBof K ca md f σ H _).mono fun x H1 h1 => ?_
  refine (ta_cons h1 : TBof K ca md g σ H1 _).mono fun y H2 h2 => ?_
  obtain ⟨x', y', e, q⟩ := (ta_nil h2 : _)
  cases e
  exact q
theorem ta_one {f : BM} {r : V → Hp → VK → Prop} {Q : VK} (h : TAof K ca md (aCons f aNil) σ H (fun vs H1 => ∃ x, vs = [x] ∧ r x H1 Q)) : tUn r (TBof K ca md f) σ H Q := by
  refine (ta_cons h : TBof K ca md f σ H _).mono fun x H1 h1 => ?_
  obtain ⟨x', e, q⟩ := (ta_nil h1 : _)
  cases e
  exact q
/-- an operation of two values -/
def OpS (K : PySem.W.Frag) (ca : Ca) (r : R2) (o : List T → R T) : Prop := CallS K ca (fun vs H Q => ∃ x y, vs = [x, y] ∧ r x y H Q) o
def UnS (K : PySem.W.Frag) (ca : Ca) (r : V → Hp → VK → Prop) (o : List T → R T) : Prop := CallS K ca (fun vs H Q => ∃ x, vs = [x] ∧ r x H Q) o
theorem te_op2 {f g : BM} {r : R2} {o : List T → R T} {Q : VK} (ho : OpS K ca r o) (h : TEof K ca md (eOp o (aCons f (aCons g aNil))) σ H Q) : tOp r (TBof K ca md f) (TBof K ca md g) σ H Q := ta_two (te_op ho h)
theorem te_op1 {f : BM} {r : V → Hp → VK → Prop} {o : List T → R T} {Q : VK} (ho : UnS K ca r o) (h : TEof K ca md (eOp o (aCons f aNil)) σ H Q) : tUn r (TBof K ca md f) σ H Q := ta_one (te_op ho h)
/-- a < b < c, of ints -/
def toI : T → R Int
  | .int i => .ok i
  | _ => stk
theorem toI_ok {i : Int} (h : toI t = .ok i) : t = .int i := by
  cases t <;> first | (cases h; rfl) | cases h
theorem Tm.int {i : Int} (m : Tm K ca F H fp (.int i) v fv) : v = .int i ∧ fv = [] := by
  have := m.rep
  simpa only [Rep] using this
def eChain (p q : Int → Int → Bool) (f g h : EM) : EM := fun env => do
  let (x, env1) ← f env
  let (y, env2) ← g env1
  let i ← toI x
  let j ← toI y
  if p i j then do
    let (z, env3) ← h env2
    let l ← toI z
    .ok (.bl (q j l), env3)
  else .ok (.bl false, env2)
theorem te_chain {p q : Int → Int → Bool} {f g h : EM} {Q : VK} (hh : TEof K ca md (eChain p q f g h) σ H Q) :
    tChain (rI0 fun i j => .bl (p i j)) (rI0 fun i j => .bl (q i j)) (TEof K ca md f) (TEof K ca md g) (TEof K ca md h) σ H Q := by
  obtain ⟨F, env, fp, t, env', s, e, k⟩ := hh
  obtain ⟨⟨x, env1⟩, e1, ea⟩ := bind_ok e
  obtain ⟨⟨y, env2⟩, e2, eb⟩ := bind_ok ea
  obtain ⟨i, e3, ec⟩ := bind_ok eb
  obtain ⟨j, e4, ed⟩ := bind_ok ec
  clear e ea eb ec
  have := toI_ok e3
  subst this
  have := toI_ok e4
  subst this
  refine ⟨F, env, fp, _, env1, s, e1, fun v1 H1 F1 fp1 fv1 g1 k1 s1 m1 => ?_⟩
  obtain ⟨rfl, rfl⟩ := m1.int
  refine ⟨F1, env1, fp1, _, env2, s1, e2, fun v2 H2 F2 fp2 fv2 g2 k2 s2 m2 => ?_⟩
  obtain ⟨rfl, rfl⟩ := m2.int
  have g12 := g1.nilr.trans g2.nilr (fun _ z => z) (P := OwM md fp2) fun _ z => .inl z
  refine ⟨i, j, rfl, rfl, p i j, rfl, ?_⟩
  cases hp : p i j with
  | true =>
    rw [hp] at ed
    obtain ⟨⟨z, env3⟩, e5, e6⟩ := bind_ok (show (h env2 >>= fun w => match w with
      | (z, env3) => toI z >>= fun l => Except.ok (T.bl (q j l), env3)) = .ok (t, env') from ed)
    obtain ⟨l, e7, e8⟩ := bind_ok e6
    have := toI_ok e7
    subst this
    cases e8
    refine ⟨F2, env2, fp2, _, env', s2, e5, fun v3 H3 F3 fp3 fv3 g3 k3 s3 m3 => ?_⟩
    obtain ⟨rfl, rfl⟩ := m3.int
    exact ⟨j, l, rfl, rfl, k _ H3 F3 fp3 [] (g12.trans g3 (fun _ z => z) fun _ z => .inl z) ((k1.trans k2).trans k3) s3 ⟨by simp only [Rep]; trivial, List.nodup_nil, fun _ z => nomatch z⟩⟩
  | false =>
    rw [hp] at ed
    have e : Except.ok (T.bl false, env2) = Except.ok (t, env') := ed
    cases e
    exact k _ H2 F2 fp2 [] (g12.weak (fun _ z => z) fun _ z => z.elim id (fun w => nomatch w)) (k1.trans k2) s2 ⟨by simp only [Rep]; trivial, List.nodup_nil, fun _ z => nomatch z⟩
end
end QL
namespace QL
open PySem L2

section
variable {K : PySem.W.Frag} {ca : Ca} {F F' F1 H H' H1 : Hp} {O O' : Addr → Prop} {σ : St} {env : En} {fp : Fp} {t : T} {v : V} {fv : List Addr} {ts : List T} {vs : List V} {md : List Nat}

/-- a scalar handed back, the heap as it is -/
theorem give {Q : VK} {f : List Addr} {x : T} {u : V} (s : Sub F H) (r : ∀ F H, Rep K ca F H x u []) (q : ∀ v H' F' k, Go F H (· ∈ f) F' H' (· ∈ k) → Rep K ca F' H' x v k → k.Nodup → Q v H') : Q u H :=
  q u H F [] (Go.refl s fun _ z => nomatch z) (r F H) List.nodup_nil
theorem rep_int {i : Int} : Rep K ca F H (.int i) (.int i) [] := by simp only [Rep]; trivial
theorem rep_bl {i : Bool} : Rep K ca F H (.bl i) (.bl i) [] := by simp only [Rep]; trivial
theorem rep_str {i : Str} : Rep K ca F H (.str i) (.str i) [] := by simp only [Rep]; trivial
theorem rep_non : Rep K ca F H .non .non [] := by simp only [Rep]; trivial
theorem reps2 {a b : T} {vs : List V} {f : List Addr} (h : Reps K ca F H [a, b] vs f) : ∃ x y g k, vs = [x, y] ∧ Rep K ca F H a x g ∧ Rep K ca F H b y k ∧ f = g ++ k := by
  simp only [Reps] at h
  obtain ⟨v, us, f1, f2, rfl, r1, ⟨w, us2, f3, f4, rfl, r2, ⟨rfl, rfl⟩, rfl⟩, rfl⟩ := h
  exact ⟨v, w, f1, f3, rfl, r1, r2, by rw [List.append_nil]⟩
theorem reps1 {a : T} {vs : List V} {f : List Addr} (h : Reps K ca F H [a] vs f) : ∃ x, vs = [x] ∧ Rep K ca F H a x f := by
  simp only [Reps] at h
  obtain ⟨v, us, f1, f2, rfl, r1, ⟨rfl, rfl⟩, rfl⟩ := h
  exact ⟨v, rfl, by rw [List.append_nil]; exact r1⟩
theorem reps3 {a b c : T} {vs : List V} {f : List Addr} (h : Reps K ca F H [a, b, c] vs f) : ∃ x y z g k l, vs = [x, y, z] ∧ Rep K ca F H a x g ∧ Rep K ca F H b y k ∧ Rep K ca F H c z l ∧ f = g ++ (k ++ l) := by
  simp only [Reps] at h
  obtain ⟨v, us, f1, f2, rfl, r1, ⟨w, us2, f3, f4, rfl, r2, ⟨u, us3, f5, f6, rfl, r3, ⟨rfl, rfl⟩, rfl⟩, rfl⟩, rfl⟩ := h
  exact ⟨v, w, u, f1, f3, f5, rfl, r1, r2, r3, by simp⟩

/-- two ints -/
def iOp (C : Int → Int → Bool) (g : Int → Int → T) : List T → R T
  | [.int i, .int j] => do
    let _ ← ck (C i j)
    .ok (g i j)
  | _ => stk
theorem s_iOp {C : Int → Int → Prop} {C' : Int → Int → Bool} {g : Int → Int → V} {g' : Int → Int → T} (hC : ∀ i j, C' i j = true → C i j) (hg : ∀ i j F H, Rep K ca F H (g' i j) (g i j) []) : OpS K ca (rI C g) (iOp C' g') := by
  intro F H ts vs f t Q s r nd e q
  unfold iOp at e
  split at e
  case h_2 => cases e
  case h_1 i j =>
    obtain ⟨_, c, e⟩ := bind_ok e
    cases e
    obtain ⟨x, y, g1, g2, rfl, r1, r2, rfl⟩ := reps2 r
    simp only [Rep] at r1 r2
    obtain ⟨rfl, rfl⟩ := r1
    obtain ⟨rfl, rfl⟩ := r2
    exact ⟨_, _, rfl, i, j, rfl, rfl, hC i j (ck_ok c), give s (hg i j) q⟩
theorem s_iOp0 {g : Int → Int → V} {g' : Int → Int → T} (hg : ∀ i j F H, Rep K ca F H (g' i j) (g i j) []) : OpS K ca (rI0 g) (iOp (fun _ _ => true) g') := by
  intro F H ts vs f t Q s r nd e q
  obtain ⟨x, y, h1, i, j, h2, h3, _, h4⟩ := s_iOp (K := K) (ca := ca) (C := fun _ _ => True) (C' := fun _ _ => true) (fun _ _ _ => trivial) hg F H ts vs f t Q s r nd e q
  exact ⟨x, y, h1, i, j, h2, h3, h4⟩
abbrev oSub : List T → R T := iOp (fun _ _ => true) fun i j => .int (i - j)
abbrev oMulI : List T → R T := iOp (fun i j => decide (i.natAbs < 2 ^ 64) || decide (j.natAbs < 2 ^ 64)) fun i j => .int (i * j)
abbrev oFdiv : List T → R T := iOp (fun _ j => decide (0 < j) && decide (j < 1073741824)) fun i j => .int (i / j)
abbrev oMod : List T → R T := iOp (fun _ j => decide (0 < j)) fun i j => .int (i % j)
abbrev oPow : List T → R T := iOp (fun i j => decide (0 ≤ j) && (decide (j ≤ 1000) && decide (i.natAbs < 2 ^ 64))) fun i j => .int (i ^ j.toNat)
abbrev oLt : List T → R T := iOp (fun _ _ => true) fun i j => .bl (decide (i < j))
abbrev oLe : List T → R T := iOp (fun _ _ => true) fun i j => .bl (decide (i ≤ j))
abbrev oGt : List T → R T := iOp (fun _ _ => true) fun i j => .bl (decide (j < i))
abbrev oGe : List T → R T := iOp (fun _ _ => true) fun i j => .bl (decide (j ≤ i))
theorem s_sub : OpS K ca (rI0 fun i j => .int (i - j)) oSub := s_iOp0 fun _ _ _ _ => rep_int
theorem s_fdiv : OpS K ca (rI CDiv fun i j => .int (i / j)) oFdiv := s_iOp (fun i j h => by
  simp only [Bool.and_eq_true, decide_eq_true_eq] at h
  exact h) fun _ _ _ _ => rep_int
theorem s_mod : OpS K ca (rI (fun _ j => 0 < j) fun i j => .int (i % j)) oMod := s_iOp (fun i j h => of_decide_eq_true h) fun _ _ _ _ => rep_int
theorem s_pow : OpS K ca (rI CPow fun i j => .int (i ^ j.toNat)) oPow := s_iOp (fun i j h => by
  simp only [Bool.and_eq_true, decide_eq_true_eq] at h
  exact ⟨h.1, by omega, h.2.2⟩) fun _ _ _ _ => rep_int
theorem s_lt : OpS K ca (rI0 fun i j => .bl (decide (i < j))) oLt := s_iOp0 fun _ _ _ _ => rep_bl
theorem s_le : OpS K ca (rI0 fun i j => .bl (decide (i ≤ j))) oLe := s_iOp0 fun _ _ _ _ => rep_bl
theorem s_gt : OpS K ca (rI0 fun i j => .bl (decide (j < i))) oGt := s_iOp0 fun _ _ _ _ => rep_bl
theorem s_ge : OpS K ca (rI0 fun i j => .bl (decide (j ≤ i))) oGe := s_iOp0 fun _ _ _ _ => rep_bl
def oNeg : List T → R T
  | [.int i] => .ok (.int (-i))
  | _ => stk
theorem s_neg : UnS K ca (rU fun i => .int (-i)) oNeg := by
  intro F H ts vs f t Q s r nd e q
  unfold oNeg at e
  split at e
  case h_2 => cases e
  case h_1 i =>
    cases e
    obtain ⟨x, rfl, r1⟩ := reps1 r
    simp only [Rep] at r1
    obtain ⟨rfl, rfl⟩ := r1
    exact ⟨_, rfl, i, rfl, give s (fun _ _ => rep_int) q⟩

theorem Rep.lst {o : Bool} {xs : List T} (s : Sub F H) (h : Rep K ca F H (.lst o xs) v fv) (n : fv.Nodup) : ∃ a us g, v = .ref a ∧ H a = some (.lst us) ∧ Reps K ca F H xs us g ∧ g.Nodup ∧ (∀ x ∈ g, x ∈ fv) ∧ ((o = true ∧ fv = a :: g ∧ F a = none) ∨ (o = false ∧ fv = [] ∧ g = [] ∧ F a = some (.lst us))) := by
  cases o with
  | true =>
    simp only [Rep] at h
    obtain ⟨a, us, g, h1, h2, h3, h4, h5⟩ := h
    subst h5
    exact ⟨a, us, g, h1, h2, h4, (List.nodup_cons.mp n).2, fun x hx => List.mem_cons_of_mem _ hx, .inl ⟨rfl, rfl, h3⟩⟩
  | false =>
    simp only [Rep] at h
    obtain ⟨a, us, h1, h2, h4, h5⟩ := h
    exact ⟨a, us, [], h1, s a _ h2, h4, List.nodup_nil, (fun _ z => absurd z (by simp)), .inr ⟨rfl, h5, rfl, h2⟩⟩
/-- the items of a list or tuple -/
def T.seq : T → Option (List T)
  | .lst _ xs => some xs
  | .lk xs => some xs
  | .tup xs => some xs
  | _ => none
theorem Rep.seq {xs : List T} (s : Sub F H) (h : Rep K ca F H t v fv) (n : fv.Nodup) (e : t.seq = some xs) : ∃ a us g, v = .ref a ∧ (SqL K H a us ∨ SqT K H a us) ∧ Reps K ca F H xs us g ∧ g.Nodup ∧ (∀ x ∈ g, x ∈ fv) := by
  cases t with
  | lst o ys =>
    cases e
    obtain ⟨a, us, g, h1, h2, h3, h4, h5, _⟩ := h.lst s n
    exact ⟨a, us, g, h1, .inl (SqL.of h2), h3, h4, h5⟩
  | lk ys =>
    cases e
    simp only [Rep] at h
    obtain ⟨a, us, h1, h2, h4, h5⟩ := h
    exact ⟨a, us, [], h1, .inl (s.sqL h2), h4, List.nodup_nil, (fun _ z => absurd z (by simp))⟩
  | tup ys =>
    cases e
    simp only [Rep] at h
    obtain ⟨a, us, h1, h2, h4⟩ := h
    exact ⟨a, us, fv, h1, .inr (s.sqT h2.t), h4, n, fun _ z => z⟩
  | _ => cases e
/-- the i-th item -/
theorem Reps.at {i : Nat} : ∀ {ts : List T} {us : List V} {f : List Addr} {i : Nat} {x : T}, Reps K ca F H ts us f → f.Nodup → ts[i]? = some x → ∃ u g, us[i]? = some u ∧ Rep K ca F H x u g ∧ g.Nodup ∧ ∀ a ∈ g, a ∈ f
  | [], _, _, _, _, _, _, e => by simp at e
  | t :: ts, _, _, i, x, h, n, e => by
    simp only [Reps] at h
    obtain ⟨v, us, f, g, rfl, r, rs, rfl⟩ := h
    have nn := List.nodup_append.mp n
    cases i with
    | zero =>
      simp only [List.getElem?_cons_zero, Option.some.injEq] at e ⊢
      subst e
      exact ⟨v, f, rfl, r, nn.1, fun a ha => List.mem_append_left _ ha⟩
    | succ i =>
      simp only [List.getElem?_cons_succ] at e ⊢
      obtain ⟨u, k, h1, h2, h3, h4⟩ := Reps.at (i := i) rs nn.2.1 e
      exact ⟨u, k, h1, h2, h3, fun a ha => List.mem_append_right _ (h4 a ha)⟩
/-- handed back as it stands -/
theorem keep {Q : VK} {f g : List Addr} {x : T} {u : V} (s : Sub F H) (r : Rep K ca F H x u g) (n : g.Nodup) (hg : ∀ a ∈ g, a ∈ f) (q : ∀ v H' F' k, Go F H (· ∈ f) F' H' (· ∈ k) → Rep K ca F' H' x v k → k.Nodup → Q v H') : Q u H :=
  q u H F g (Go.refl s hg) r n
/-- a new list of known items -/
theorem newLst {Q : VK} {f g : List Addr} {xs : List T} {us : List V} {p : Addr} (s : Sub F H) (hp : H p = none) (r : Reps K ca F H xs us g) (n : g.Nodup) (hg : ∀ a ∈ g, a ∈ f) (q : ∀ v H' F' k, Go F H (· ∈ f) F' H' (· ∈ k) → Rep K ca F' H' (.lst true xs) v k → k.Nodup → Q v H') :
    Q (.ref p) (upd H p (.lst us)) := by
  have g2 : Go F H (· ∈ f) F (upd H p (.lst us)) (· ∈ p :: g) := Go.newO s hp fun b z => (List.mem_cons.mp z).elim (fun w => .inr (by rw [w]; exact hp)) fun w => .inl (hg b w)
  have pg : p ∉ g := fun z => (Reps.alive xs r p z).1 hp
  refine q _ _ F (p :: g) g2 ?_ (List.nodup_cons.mpr ⟨pg, n⟩)
  simp only [Rep]
  exact ⟨p, us, g, rfl, upd_same, none_of_sub s hp, r.of_go (Go.newO (O := fun _ => False) (O' := fun _ => False) s hp fun _ z => z.elim) fun _ _ z => z, rfl⟩
theorem newTup {Q : VK} {f g : List Addr} {xs : List T} {us : List V} {p : Addr} {ob : Obj} (hd : ob.dict = none) (s : Sub F H) (hp : H p = none) (r : Reps K ca F H xs us g) (n : g.Nodup) (hg : ∀ a ∈ g, a ∈ f) (q : ∀ v H' F' k, Go F H (· ∈ f) F' H' (· ∈ k) → Rep K ca F' H' (.tup xs) v k → k.Nodup → Q v H') :
    Q (.ref p) (upd H p (.frz ob (.tup us))) := by
  have g2 : Go F H (· ∈ f) (upd F p (.frz ob (.tup us))) (upd H p (.frz ob (.tup us))) (· ∈ g) := Go.newF s hp fun b z => .inl (hg b z)
  refine q _ _ _ g g2 ?_ n
  simp only [Rep]
  exact ⟨p, us, rfl, SqN.of upd_same hd, r.of_go (Go.newF (O := fun _ => False) (O' := fun _ => False) s hp fun _ z => z.elim) fun _ _ z => z⟩
theorem nd_app {f g : List Addr} (h : (f ++ g).Nodup) : f.Nodup ∧ g.Nodup := ⟨(List.nodup_append.mp h).1, (List.nodup_append.mp h).2.1⟩
theorem nd_sub {f g f' g' : List Addr} (h : (f ++ g).Nodup) (n1 : f'.Nodup) (n2 : g'.Nodup) (h1 : ∀ x ∈ f', x ∈ f) (h2 : ∀ x ∈ g', x ∈ g) : (f' ++ g').Nodup :=
  List.nodup_append.mpr ⟨n1, n2, fun a ha b hb => (List.nodup_append.mp h).2.2 a (h1 a ha) b (h2 b hb)⟩
theorem mem_sub {f g f' g' : List Addr} (h1 : ∀ x ∈ f', x ∈ f) (h2 : ∀ x ∈ g', x ∈ g) : ∀ x ∈ f' ++ g', x ∈ f ++ g := fun x hx => (List.mem_append.mp hx).elim (fun z => List.mem_append_left _ (h1 x z)) fun z => List.mem_append_right _ (h2 x z)
def oAdd : List T → R T
  | [.int i, .int j] => .ok (.int (i + j))
  | [.str a, .str b] => do
    let _ ← ck (decide (a.length + b.length ≤ big))
    .ok (.str (a ++ b))
  | [.lst _ xs, .lst _ ys] => do
    let _ ← ck (decide (xs.length + ys.length ≤ big))
    .ok (.lst true (xs ++ ys))
  | [.tup (x :: xs), .tup ys] => do
    let _ ← ck (decide (xs.length + 1 + ys.length ≤ big))
    .ok (.tup (x :: xs ++ ys))
  | _ => stk
def rAddA (K : PySem.W.Frag) : R2 := fun x y H Q => rI0 (fun i j => .int (i + j)) x y H Q ∨ (∃ i j, x = .str i ∧ y = .str j ∧ i.length + j.length ≤ sizeLine ∧ Q (.str (i ++ j)) H) ∨ rCat x y H Q ∨ rCatN K x y H Q
theorem op_addA {X : Cx} : OpR X (binaryOp .Add) (rAddA X.K) := op_add.or (op_add_str.or (op_cat.or op_catN))
theorem s_add : OpS K ca (rAddA K) oAdd := by
  intro F H ts vs f t Q s r nd e q
  unfold oAdd at e
  split at e
  · cases e
    obtain ⟨x, y, g1, g2, rfl, r1, r2, rfl⟩ := reps2 r
    simp only [Rep] at r1 r2
    obtain ⟨rfl, rfl⟩ := r1
    obtain ⟨rfl, rfl⟩ := r2
    exact ⟨_, _, rfl, .inl ⟨_, _, rfl, rfl, give s (fun _ _ => rep_int) q⟩⟩
  · obtain ⟨_, c, e⟩ := bind_ok e
    cases e
    obtain ⟨x, y, g1, g2, rfl, r1, r2, rfl⟩ := reps2 r
    simp only [Rep] at r1 r2
    obtain ⟨rfl, rfl⟩ := r1
    obtain ⟨rfl, rfl⟩ := r2
    exact ⟨_, _, rfl, .inr (.inl ⟨_, _, rfl, rfl, big_le (of_decide_eq_true (ck_ok c)), give s (fun _ _ => rep_str) q⟩)⟩
  · obtain ⟨_, c, e⟩ := bind_ok e
    cases e
    obtain ⟨x, y, g1, g2, rfl, r1, r2, rfl⟩ := reps2 r
    obtain ⟨a, us, k1, rfl, h1, i1, n1, m1, _⟩ := r1.lst s (nd_app nd).1
    obtain ⟨b, ws, k2, rfl, h2, i2, n2, m2, _⟩ := r2.lst s (nd_app nd).2
    refine ⟨_, _, rfl, .inr (.inr (.inl ⟨a, b, us, ws, rfl, rfl, h1, h2, ?_, fun p hp => newLst s hp (i1.append i2) (nd_sub nd n1 n2 m1 m2) (mem_sub m1 m2) q⟩))⟩
    rw [Reps.length i1, Reps.length i2]
    exact big_le (of_decide_eq_true (ck_ok c))
  · rename_i x xs ys
    obtain ⟨_, c, e⟩ := bind_ok e
    cases e
    obtain ⟨x', y', g1, g2, rfl, r1, r2, rfl⟩ := reps2 r
    simp only [Rep] at r1 r2
    obtain ⟨a, us, rfl, h1, i1⟩ := r1
    obtain ⟨b, ws, rfl, h2, i2⟩ := r2
    have l1 := Reps.length i1
    have l2 := Reps.length i2
    have hz : xs.length + 1 + ys.length ≤ big := of_decide_eq_true (ck_ok c)
    rw [List.length_cons] at l1
    refine ⟨_, _, rfl, .inr (.inr (.inr ⟨a, b, us, ws, rfl, rfl, s.sqT h1.t, s.sqT h2.t, fun z => by rw [z] at l1; simp at l1, big_le (by omega), fun z => ?_, fun z p ob hp hd => newTup hd s hp (i1.append i2) nd (fun _ z => z) q⟩))⟩
    have hy : ys = [] := List.length_eq_zero_iff.mp (by rw [← l2, z]; rfl)
    subst hy
    simp only [Reps] at i2
    obtain ⟨_, rfl⟩ := i2
    rw [List.append_nil] at *
    refine keep s ?_ nd (fun _ z => z) (by rw [List.append_nil] at q; exact q)
    simp only [Rep]
    exact ⟨a, us, rfl, h1, i1⟩
  · cases e
def oMul : List T → R T
  | [.int i, .int j] => do
    let _ ← ck (decide (i.natAbs < 2 ^ 64) || decide (j.natAbs < 2 ^ 64))
    .ok (.int (i * j))
  | [.lst o xs, .int j] => do
    let _ ← ck (!T.owl xs && (decide (-1000000 < j) && (decide (j < 1000000) && decide (xs.length * j.toNat ≤ big))))
    .ok (.lst true (List.replicate j.toNat xs).flatten)
  | _ => stk
def rMulA : R2 := fun x y H Q => rI CMul (fun i j => .int (i * j)) x y H Q ∨ rRep x y H Q
theorem op_mulA {X : Cx} : OpR X (binaryOp .Mult) rMulA := op_mul.or op_rep
theorem reps_rep {xs : List T} {us : List V} (h : Reps K ca F H xs us []) : ∀ n : Nat, Reps K ca F H (List.replicate n xs).flatten (List.replicate n us).flatten []
  | 0 => by simp [Reps]
  | n + 1 => by
    rw [List.replicate_succ, List.replicate_succ, List.flatten_cons, List.flatten_cons]
    exact h.append (reps_rep h n)
theorem s_mul : OpS K ca rMulA oMul := by
  intro F H ts vs f t Q s r nd e q
  unfold oMul at e
  split at e
  · obtain ⟨_, c, e⟩ := bind_ok e
    cases e
    obtain ⟨x, y, g1, g2, rfl, r1, r2, rfl⟩ := reps2 r
    simp only [Rep] at r1 r2
    obtain ⟨rfl, rfl⟩ := r1
    obtain ⟨rfl, rfl⟩ := r2
    refine ⟨_, _, rfl, .inl ⟨_, _, rfl, rfl, ?_, give s (fun _ _ => rep_int) q⟩⟩
    have c := ck_ok c
    simp only [Bool.or_eq_true, decide_eq_true_eq] at c
    unfold CMul
    omega
  · obtain ⟨_, c, e⟩ := bind_ok e
    cases e
    obtain ⟨x, y, g1, g2, rfl, r1, r2, rfl⟩ := reps2 r
    simp only [Rep] at r2
    obtain ⟨rfl, rfl⟩ := r2
    obtain ⟨a, us, k1, rfl, h1, i1, n1, m1, _⟩ := r1.lst s (nd_app nd).1
    have c := ck_ok c
    simp only [Bool.and_eq_true, decide_eq_true_eq, Bool.not_eq_true'] at c
    have := Reps.pure_fp _ c.1 i1
    subst this
    refine ⟨_, _, rfl, .inr ⟨a, _, us, rfl, rfl, h1, by omega, by omega, ?_, fun p hp => newLst s hp (reps_rep i1 _) List.nodup_nil (fun _ z => nomatch z) q⟩⟩
    rw [Reps.length i1]
    exact big_le c.2.2.2
  · cases e
def oIx : List T → R T
  | [x, .int i] => match x with
    | .str z => do
      let _ ← ck (decide (z.length ≤ big))
      match atI z.cps.toList i with
      | some c => .ok (.str ⟨#[c]⟩)
      | none => stk
    | x => match x.seq with
      | some xs => match atI xs i with
        | some y => .ok y
        | none => stk
      | none => stk
  | _ => stk
theorem atI_some {α : Type} {xs : List α} {i : Int} {y : α} (h : atI xs i = some y) : ∃ j : Nat, ixN xs.length i = some j ∧ xs[j]? = some y := by
  unfold atI at h
  cases e : ixN xs.length i with
  | none => rw [e] at h; cases h
  | some j => rw [e] at h; exact ⟨j, rfl, h⟩
theorem s_ix : OpS K ca (rIx K) oIx := by
  intro F H ts vs f t Q s r nd e q
  unfold oIx at e
  split at e
  case h_2 => cases e
  case h_1 x i =>
    obtain ⟨x', y', g1, g2, rfl, r1, r2, rfl⟩ := reps2 r
    simp only [Rep] at r2
    obtain ⟨rfl, rfl⟩ := r2
    rw [List.append_nil] at *
    split at e
    · obtain ⟨_, c, e⟩ := bind_ok e
      simp only [Rep] at r1
      obtain ⟨rfl, rfl⟩ := r1
      split at e
      · rename_i c' hc
        cases e
        exact ⟨_, _, rfl, .inr (.inr ⟨_, i, c', rfl, rfl, big_le (of_decide_eq_true (ck_ok c)), hc, give s (fun _ _ => rep_str) q⟩)⟩
      · cases e
    · split at e
      · rename_i xs hx
        split at e
        · rename_i y hy
          cases e
          obtain ⟨a, us, g, rfl, h1, h2, h3, h4⟩ := r1.seq s nd hx
          obtain ⟨j, hj, hj2⟩ := atI_some hy
          obtain ⟨u, k, e1, e2, e3, e4⟩ := Reps.at (i := j) h2 h3 hj2
          have at_ : atI us i = some u := by
            unfold atI
            rw [Reps.length h2, hj]
            exact e1
          have hq := keep s e2 e3 (fun a ha => h4 a (e4 a ha)) q
          rcases h1 with h1 | h1
          · exact ⟨_, _, rfl, .inl ⟨a, us, i, u, rfl, rfl, h1, at_, hq⟩⟩
          · exact ⟨_, _, rfl, .inr (.inl ⟨a, us, i, u, rfl, rfl, h1, at_, hq⟩)⟩
        · cases e
      · cases e
mutual
def T.pd : T → Option PyData
  | .non => some .none
  | .bl b => some (.bool b)
  | .int i => some (.int i)
  | .str s => some (.str s)
  | .tup xs => (T.pdl xs).map .tuple
  | .lst _ xs => (T.pdl xs).map .list
  | .lk xs => (T.pdl xs).map .list
  | _ => none
def T.pdl : List T → Option (List PyData)
  | [] => some []
  | t :: ts => match T.pd t, T.pdl ts with
    | some d, some ds => some (d :: ds)
    | _, _ => none
end
mutual
theorem Rep.dp (s : Sub F H) : ∀ (t : T) {v : V} {fv : List Addr} {d : PyData}, Rep K ca F H t v fv → t.pd = some d → Dp K H v d
  | .non, _, _, _, h, e => by simp only [Rep] at h; cases e; rw [h.1]; exact .non
  | .bl _, _, _, _, h, e => by simp only [Rep] at h; cases e; rw [h.1]; exact .bl _
  | .int _, _, _, _, h, e => by simp only [Rep] at h; cases e; rw [h.1]; exact .int _
  | .str _, _, _, _, h, e => by simp only [Rep] at h; cases e; rw [h.1]; exact .str _
  | .tup xs, _, _, _, h, e => by
    simp only [Rep] at h
    simp only [T.pd] at e
    obtain ⟨ds, e1, e⟩ := Option.map_eq_some_iff.mp e
    subst e
    obtain ⟨a, vs, h1, h2, h3⟩ := h
    rw [h1]
    exact .tup (s.sqT h2.t) (Reps.dp s xs h3 e1)
  | .lst false xs, _, _, _, h, e => by
    simp only [Rep] at h
    simp only [T.pd] at e
    obtain ⟨ds, e1, e⟩ := Option.map_eq_some_iff.mp e
    subst e
    obtain ⟨a, vs, h1, h2, h3, _⟩ := h
    rw [h1]
    exact .lst (SqL.of (s _ _ h2)) (Reps.dp s xs h3 e1)
  | .lst true xs, _, _, _, h, e => by
    simp only [Rep] at h
    simp only [T.pd] at e
    obtain ⟨ds, e1, e⟩ := Option.map_eq_some_iff.mp e
    subst e
    obtain ⟨a, vs, g, h1, h2, _, h3, _⟩ := h
    rw [h1]
    exact .lst (SqL.of h2) (Reps.dp s xs h3 e1)
  | .lk xs, _, _, _, h, e => by
    simp only [Rep] at h
    simp only [T.pd] at e
    obtain ⟨ds, e1, e⟩ := Option.map_eq_some_iff.mp e
    subst e
    obtain ⟨a, vs, h1, h2, h3, _⟩ := h
    rw [h1]
    exact .lst (s.sqL h2) (Reps.dp s xs h3 e1)
  | .dct _ _, _, _, _, h, e => by cases e
  | .obj _ _, _, _, _, h, e => by cases e
  | .pr _, _, _, _, h, e => by cases e
  | .hole, _, _, _, h, e => by cases e
theorem Reps.dp (s : Sub F H) : ∀ (ts : List T) {vs : List V} {fv : List Addr} {ds : List PyData}, Reps K ca F H ts vs fv → T.pdl ts = some ds → DpAll K H vs ds
  | [], _, _, _, h, e => by simp only [Reps] at h; cases e; rw [h.1]; exact .nil
  | t :: ts, _, _, _, h, e => by
    simp only [Reps] at h
    obtain ⟨v, us, f, g, rfl, r, rs, rfl⟩ := h
    simp only [T.pdl] at e
    split at e
    · rename_i d ds h1 h2
      cases e
      exact .cons (Rep.dp s t r h1) (Reps.dp s ts rs h2)
    · cases e
end
/-- the answer of ==, where it is told -/
def eqT : T → T → Option Bool
  | .non, .non => some true
  | .non, .int _ => some false
  | .int _, .non => some false
  | .non, .str _ => some false
  | .str _, .non => some false
  | .int i, .int j => some (decide (i = j))
  | .str a, .str b => some (decide (a = b))
  | .bl a, .bl b => some (decide (a = b))
  | x, y => match x.pd, y.pd with
    | some d, some e => if SeqAt.shaped d && SeqAt.shaped e then some (PyData.eqv d e) else none
    | _, _ => none
def oEq : List T → R T
  | [x, y] => match eqT x y with
    | some b => .ok (.bl b)
    | none => stk
  | _ => stk
def oNe : List T → R T
  | [x, y] => match eqT x y with
    | some b => .ok (.bl (!b))
    | none => stk
  | _ => stk
def rEqA (K : PySem.W.Frag) : R2 := fun x y H Q => rEq x y H Q ∨ rEqD K x y H Q
def rNeA (K : PySem.W.Frag) : R2 := fun x y H Q => rNe x y H Q ∨ rNeD K x y H Q
theorem op_eqA {X : Cx} (hu : X.A.units + 64 < cLine) : OpR X (compareOp .Eq) (rEqA X.K) := op_eq.or (op_eqD hu)
theorem op_neA {X : Cx} (hu : X.A.units + 64 < cLine) : OpR X (compareOp .NotEq) (rNeA X.K) := op_ne.or (op_neD hu)
theorem eqT_ok {x y : T} {b : Bool} {u w : V} {f g : List Addr} (s : Sub F H) (r1 : Rep K ca F H x u f) (r2 : Rep K ca F H y w g) (e : eqT x y = some b) :
    (scal u w = true ∧ decide (u = w) = b) ∨ ∃ d e, Dp K H u d ∧ Dp K H w e ∧ SeqAt.shaped d = true ∧ SeqAt.shaped e = true ∧ PyData.eqv d e = b := by
  unfold eqT at e
  split at e
  · simp only [Rep] at r1 r2; cases e; rw [r1.1, r2.1]; exact .inl ⟨rfl, rfl⟩
  · simp only [Rep] at r1 r2; cases e; rw [r1.1, r2.1]; exact .inl ⟨rfl, rfl⟩
  · simp only [Rep] at r1 r2; cases e; rw [r1.1, r2.1]; exact .inl ⟨rfl, rfl⟩
  · simp only [Rep] at r1 r2; cases e; rw [r1.1, r2.1]; exact .inl ⟨rfl, rfl⟩
  · simp only [Rep] at r1 r2; cases e; rw [r1.1, r2.1]; exact .inl ⟨rfl, rfl⟩
  · simp only [Rep] at r1 r2; cases e; rw [r1.1, r2.1]; exact .inl ⟨rfl, by simp⟩
  · simp only [Rep] at r1 r2; cases e; rw [r1.1, r2.1]; exact .inl ⟨rfl, by simp⟩
  · simp only [Rep] at r1 r2; cases e; rw [r1.1, r2.1]; exact .inl ⟨rfl, by simp⟩
  · split at e
    · rename_i d d' h1 h2
      split at e
      · rename_i hs
        cases e
        rw [Bool.and_eq_true] at hs
        exact .inr ⟨d, d', Rep.dp s _ r1 h1, Rep.dp s _ r2 h2, hs.1, hs.2, rfl⟩
      · cases e
    · cases e
theorem s_eq : OpS K ca (rEqA K) oEq := by
  intro F H ts vs f t Q s r nd e q
  unfold oEq at e
  split at e
  · split at e
    · rename_i x y b hb
      cases e
      obtain ⟨x', y', g1, g2, rfl, r1, r2, rfl⟩ := reps2 r
      refine ⟨_, _, rfl, ?_⟩
      rcases eqT_ok s r1 r2 hb with ⟨h1, h2⟩ | ⟨d, d', h1, h2, h3, h4, h5⟩
      · exact .inl ⟨h1, by rw [h2]; exact give s (fun _ _ => rep_bl) q⟩
      · exact .inr ⟨d, d', h1, h2, h3, h4, by rw [h5]; exact give s (fun _ _ => rep_bl) q⟩
    · cases e
  · cases e
theorem s_ne : OpS K ca (rNeA K) oNe := by
  intro F H ts vs f t Q s r nd e q
  unfold oNe at e
  split at e
  · split at e
    · rename_i x y b hb
      cases e
      obtain ⟨x', y', g1, g2, rfl, r1, r2, rfl⟩ := reps2 r
      refine ⟨_, _, rfl, ?_⟩
      rcases eqT_ok s r1 r2 hb with ⟨h1, h2⟩ | ⟨d, d', h1, h2, h3, h4, h5⟩
      · exact .inl ⟨h1, by rw [h2]; exact give s (fun _ _ => rep_bl) q⟩
      · exact .inr ⟨d, d', h1, h2, h3, h4, by rw [h5]; exact give s (fun _ _ => rep_bl) q⟩
    · cases e
  · cases e
end
end QL
namespace QL
open PySem L2

section
variable {K : PySem.W.Frag} {ca : Ca} {F F' F1 H H' H1 : Hp} {O O' : Addr → Prop} {σ : St} {env : En} {fp : Fp} {t : T} {v : V} {fv : List Addr} {ts : List T} {vs : List V} {md : List Nat}


def T.flat : T → Bool
  | .non => true
  | .bl _ => true
  | .int _ => true
  | .str _ => true
  | _ => false
/-- == of flat values -/
def eqF : T → T → Bool
  | .non, .non => true
  | .bl a, .bl b => a == b
  | .bl a, .int b => (if a then 1 else 0) == b
  | .int a, .bl b => a == (if b then 1 else 0)
  | .int a, .int b => a == b
  | .str a, .str b => a == b
  | _, _ => false
theorem flat_ok (h : Rep K ca F H t v fv) (e : t.flat = true) : flatV v = true ∧ fv = [] := by
  cases t <;> first | (simp only [Rep] at h; rw [h.1]; exact ⟨rfl, h.2⟩) | cases e
theorem eqF_ok {x y : T} {u w : V} {f g : List Addr} (h1 : Rep K ca F H x u f) (h2 : Rep K ca F H y w g) (e1 : x.flat = true) (e2 : y.flat = true) : eqV u w = eqF x y := by
  cases x <;> cases y <;> first | (simp only [Rep] at h1 h2; rw [h1.1, h2.1]; rfl) | (simp [T.flat] at e1; done) | (simp [T.flat] at e2; done)
theorem flats_ok {x : T} {u : V} {f : List Addr} (hx : Rep K ca F H x u f) (ex : x.flat = true) : ∀ {ys : List T} {us : List V} {g : List Addr}, Reps K ca F H ys us g → ys.all T.flat = true → us.all flatV = true ∧ (us.any fun w => eqV w u) = ys.any fun y => eqF y x
  | [], _, _, h, _ => by simp only [Reps] at h; rw [h.1]; exact ⟨rfl, rfl⟩
  | y :: ys, _, _, h, e => by
    simp only [Reps] at h
    obtain ⟨w, us, f1, f2, rfl, r, rs, rfl⟩ := h
    rw [List.all_cons, Bool.and_eq_true] at e
    obtain ⟨a1, a2⟩ := flats_ok hx ex rs e.2
    rw [List.all_cons, List.any_cons, List.any_cons, a1, a2, (flat_ok r e.1).1, eqF_ok r hx e.1 ex]
    exact ⟨rfl, rfl⟩
def inT (x : T) (c : T) : R Bool := match c with
  | .str z => match x with
    | .str y => match y.cps.toList with
      | [a] => .ok (decide (a ∈ z.cps.toList))
      | _ => stk
    | _ => stk
  | c => match c.seq with
    | some ys => do
      let _ ← ck (x.flat && ys.all T.flat)
      .ok (ys.any fun y => eqF y x)
    | none => stk
def oIn : List T → R T
  | [x, c] => do
    let b ← inT x c
    .ok (.bl b)
  | _ => stk
def oNin : List T → R T
  | [x, c] => do
    let b ← inT x c
    .ok (.bl (!b))
  | _ => stk
def rInA (K : PySem.W.Frag) : R2 := fun x y H Q => rIn K false x y H Q ∨ ∃ (c : Nat) (z : Str), x = .str ⟨#[c]⟩ ∧ y = .str z ∧ Q (.bl (decide (c ∈ z.cps.toList))) H
def rNinA (K : PySem.W.Frag) : R2 := fun x y H Q => rIn K true x y H Q ∨ ∃ (c : Nat) (z : Str), x = .str ⟨#[c]⟩ ∧ y = .str z ∧ Q (.bl (!decide (c ∈ z.cps.toList))) H
theorem op_inA {X : Cx} : OpR X (compareOp .In) (rInA X.K) := op_in_seq.or op_in_sign
theorem op_ninA {X : Cx} : OpR X (compareOp .NotIn) (rNinA X.K) := op_notIn_seq.or op_notIn_sign
theorem inT_ok {x c : T} {b : Bool} {u w : V} {f g : List Addr} (s : Sub F H) (r1 : Rep K ca F H x u f) (r2 : Rep K ca F H c w g) (n : g.Nodup) (e : inT x c = .ok b) :
    (∃ p us, w = .ref p ∧ (SqL K H p us ∨ SqT K H p us) ∧ flatV u = true ∧ us.all flatV = true ∧ inV u us = b) ∨ ∃ (a : Nat) (z : Str), u = .str ⟨#[a]⟩ ∧ w = .str z ∧ decide (a ∈ z.cps.toList) = b := by
  unfold inT at e
  split at e
  · split at e
    · split at e
      · rename_i y l a ha
        cases e
        simp only [Rep] at r1 r2
        refine .inr ⟨a, _, ?_, r2.1, rfl⟩
        rw [r1.1]
        have : y = ⟨#[a]⟩ := by
          obtain ⟨cps⟩ := y
          congr
          exact Array.toList_inj.mp ha
        rw [this]
      · cases e
    · cases e
  · split at e
    · rename_i ys hy
      obtain ⟨_, c1, e⟩ := bind_ok e
      cases e
      have c1 := ck_ok c1
      rw [Bool.and_eq_true] at c1
      obtain ⟨p, us, k, rfl, h1, h2, h3, h4⟩ := r2.seq s n hy
      obtain ⟨a1, a2⟩ := flats_ok r1 c1.1 h2 c1.2
      exact .inl ⟨p, us, rfl, h1, (flat_ok r1 c1.1).1, a1, a2⟩
    · cases e
theorem s_in : OpS K ca (rInA K) oIn := by
  intro F H ts vs f t Q s r nd e q
  unfold oIn at e
  split at e
  case h_2 => cases e
  case h_1 x c =>
    obtain ⟨b, e1, e⟩ := bind_ok e
    cases e
    obtain ⟨x', y', g1, g2, rfl, r1, r2, rfl⟩ := reps2 r
    refine ⟨_, _, rfl, ?_⟩
    rcases inT_ok s r1 r2 (nd_app nd).2 e1 with ⟨p, us, h1, h2, h3, h4, h5⟩ | ⟨a, z, h1, h2, h3⟩
    · exact .inl ⟨p, us, h1, h2, h3, h4, by rw [if_neg Bool.false_ne_true, h5]; exact give s (fun _ _ => rep_bl) q⟩
    · exact .inr ⟨a, z, h1, h2, by rw [h3]; exact give s (fun _ _ => rep_bl) q⟩
theorem s_nin : OpS K ca (rNinA K) oNin := by
  intro F H ts vs f t Q s r nd e q
  unfold oNin at e
  split at e
  case h_2 => cases e
  case h_1 x c =>
    obtain ⟨b, e1, e⟩ := bind_ok e
    cases e
    obtain ⟨x', y', g1, g2, rfl, r1, r2, rfl⟩ := reps2 r
    refine ⟨_, _, rfl, ?_⟩
    rcases inT_ok s r1 r2 (nd_app nd).2 e1 with ⟨p, us, h1, h2, h3, h4, h5⟩ | ⟨a, z, h1, h2, h3⟩
    · exact .inl ⟨p, us, h1, h2, h3, h4, by rw [if_pos rfl, h5]; exact give s (fun _ _ => rep_bl) q⟩
    · exact .inr ⟨a, z, h1, h2, by rw [h3]; exact give s (fun _ _ => rep_bl) q⟩
def T.isN : T → Bool
  | .non => true
  | _ => false
def oIsN : List T → R T
  | [x, .non] => .ok (.bl x.isN)
  | _ => stk
def oNotN : List T → R T
  | [x, .non] => .ok (.bl (!x.isN))
  | _ => stk
theorem isN_ok (h : Rep K ca F H t v fv) : decide (v = V.non) = t.isN := by
  cases t with
  | non => simp only [Rep] at h; rw [h.1]; rfl
  | bl b => simp only [Rep] at h; rw [h.1]; rfl
  | int b => simp only [Rep] at h; rw [h.1]; rfl
  | str b => simp only [Rep] at h; rw [h.1]; rfl
  | lst o xs => cases o <;> (simp only [Rep] at h; obtain ⟨a, us, h⟩ := h; first | (obtain ⟨g, h, _⟩ := h; rw [h]; rfl) | (rw [h.1]; rfl))
  | lk xs => simp only [Rep] at h; obtain ⟨a, us, h, _⟩ := h; rw [h]; rfl
  | tup xs => simp only [Rep] at h; obtain ⟨a, us, h, _⟩ := h; rw [h]; rfl
  | dct o xs => cases o <;> (simp only [Rep] at h; obtain ⟨a, us, h⟩ := h; first | (obtain ⟨g, h, _⟩ := h; rw [h]; rfl) | (rw [h.1]; rfl))
  | obj c fs => simp only [Rep] at h; obtain ⟨a, dx, us, g, h, _⟩ := h; rw [h]; rfl
  | hole => simp only [Rep] at h; rw [h.1]; rfl
  | pr xs => simp only [Rep] at h; obtain ⟨a, us, h, _⟩ := h; rw [h]; rfl
theorem s_isN : OpS K ca (fun x y H Q => y = .non ∧ Q (.bl (decide (x = .non))) H) oIsN := by
  intro F H ts vs f t Q s r nd e q
  unfold oIsN at e
  split at e
  · cases e
    obtain ⟨x', y', g1, g2, rfl, r1, r2, rfl⟩ := reps2 r
    simp only [Rep] at r2
    exact ⟨_, _, rfl, r2.1, by rw [isN_ok r1]; exact give s (fun _ _ => rep_bl) q⟩
  · cases e
def oLen : List T → R T
  | [.str z] => do
    let _ ← ck (decide (z.length ≤ big))
    .ok (.int z.length)
  | [x] => match x.seq with
    | some xs => .ok (.int xs.length)
    | none => stk
  | _ => stk
abbrev rLenA (K : PySem.W.Frag) : List V → Hp → VK → Prop := fun xs H Q => ∃ x n, xs = [x] ∧ LenV K x H n ∧ Q (.int n) H
theorem s_len : CallS K ca (rLenA K) oLen := by
  intro F H ts vs f t Q s r nd e q
  unfold oLen at e
  split at e
  · obtain ⟨_, c, e⟩ := bind_ok e
    cases e
    obtain ⟨x, rfl, r1⟩ := reps1 r
    simp only [Rep] at r1
    obtain ⟨rfl, rfl⟩ := r1
    exact ⟨_, _, rfl, ⟨big_le (of_decide_eq_true (ck_ok c)), rfl⟩, give s (fun _ _ => rep_int) q⟩
  · split at e
    · rename_i x xs hx
      cases e
      obtain ⟨x', rfl, r1⟩ := reps1 r
      obtain ⟨a, us, g, rfl, h1, h2, h3, h4⟩ := r1.seq s nd hx
      refine ⟨_, us.length, rfl, ?_, ?_⟩
      · rcases h1 with h1 | h1
        · exact .inl ⟨us, h1, rfl⟩
        · exact .inr ⟨us, h1, rfl⟩
      · rw [Reps.length h2]
        exact give s (fun _ _ => rep_int) q
    · cases e
  · cases e
def oAbs : List T → R T
  | [.int i] => .ok (.int (if i < 0 then -i else i))
  | _ => stk
theorem s_abs : CallS K ca (fun xs H Q => ∃ i, xs = [.int i] ∧ Q (.int (if i < 0 then -i else i)) H) oAbs := by
  intro F H ts vs f t Q s r nd e q
  unfold oAbs at e
  split at e
  · cases e
    obtain ⟨x, rfl, r1⟩ := reps1 r
    simp only [Rep] at r1
    obtain ⟨rfl, rfl⟩ := r1
    exact ⟨_, rfl, give s (fun _ _ => rep_int) q⟩
  · cases e
def oMax2 : List T → R T
  | [.int i, .int j] => .ok (.int (if j > i then j else i))
  | _ => stk
def oMin2 : List T → R T
  | [.int i, .int j] => .ok (.int (if j < i then j else i))
  | _ => stk
theorem s_max2 : CallS K ca (fun xs H Q => ∃ i j, xs = [.int i, .int j] ∧ Q (.int (if j > i then j else i)) H) oMax2 := by
  intro F H ts vs f t Q s r nd e q
  unfold oMax2 at e
  split at e
  · cases e
    obtain ⟨x, y, g1, g2, rfl, r1, r2, rfl⟩ := reps2 r
    simp only [Rep] at r1 r2
    obtain ⟨rfl, rfl⟩ := r1
    obtain ⟨rfl, rfl⟩ := r2
    exact ⟨_, _, rfl, give s (fun _ _ => rep_int) q⟩
  · cases e
theorem s_min2 : CallS K ca (fun xs H Q => ∃ i j, xs = [.int i, .int j] ∧ Q (.int (if j < i then j else i)) H) oMin2 := by
  intro F H ts vs f t Q s r nd e q
  unfold oMin2 at e
  split at e
  · cases e
    obtain ⟨x, y, g1, g2, rfl, r1, r2, rfl⟩ := reps2 r
    simp only [Rep] at r1 r2
    obtain ⟨rfl, rfl⟩ := r1
    obtain ⟨rfl, rfl⟩ := r2
    exact ⟨_, _, rfl, give s (fun _ _ => rep_int) q⟩
  · cases e
def oInt : List T → R T
  | [.int i] => .ok (.int i)
  | [.bl k] => .ok (.int (if k then 1 else 0))
  | _ => stk
theorem s_int : CallS K ca (fun xs H Q => (∃ i, xs = [.int i] ∧ Q (.int i) H) ∨ ∃ k, xs = [.bl k] ∧ Q (.int (if k then 1 else 0)) H) oInt := by
  intro F H ts vs f t Q s r nd e q
  unfold oInt at e
  split at e
  · cases e
    obtain ⟨x, rfl, r1⟩ := reps1 r
    simp only [Rep] at r1
    obtain ⟨rfl, rfl⟩ := r1
    exact .inl ⟨_, rfl, give s (fun _ _ => rep_int) q⟩
  · cases e
    obtain ⟨x, rfl, r1⟩ := reps1 r
    simp only [Rep] at r1
    obtain ⟨rfl, rfl⟩ := r1
    exact .inr ⟨_, rfl, give s (fun _ _ => rep_int) q⟩
  · cases e
def oList : List T → R T
  | [x] => match x.seq with
    | some xs => .ok (.lst true xs)
    | none => stk
  | _ => stk
def oTuple : List T → R T
  | [.lst _ xs] => .ok (.tup xs)
  | [.tup xs] => .ok (.tup xs)
  | _ => stk
theorem s_tuple : CallS K ca (rTupN K) oTuple := by
  intro F H ts vs f t Q s r nd e q
  unfold oTuple at e
  split at e
  · cases e
    obtain ⟨x', rfl, r1⟩ := reps1 r
    obtain ⟨a, us, g, rfl, h1, h2, h3, h4, _⟩ := r1.lst s nd
    exact ⟨a, us, rfl, .inl ⟨SqL.of h1, fun l ob hl hd => newTup hd s hl h2 h3 h4 q⟩⟩
  · cases e
    obtain ⟨x', rfl, r1⟩ := reps1 r
    have r2 := r1
    simp only [Rep] at r1
    obtain ⟨a, us, rfl, h1, h2⟩ := r1
    exact ⟨a, us, rfl, .inr ⟨s.sqT h1.t, keep s r2 nd (fun _ z => z) q⟩⟩
  · cases e
/-- truths, ints of a list -/
def bls : List T → Option (List Bool)
  | [] => some []
  | .bl b :: ts => (bls ts).map (b :: ·)
  | _ => none
def intsOf : List T → Option (List Int)
  | [] => some []
  | .int b :: ts => (intsOf ts).map (b :: ·)
  | _ => none
theorem bls_ok : ∀ {ts : List T} {us : List V} {f : List Addr} {bs : List Bool}, Reps K ca F H ts us f → bls ts = some bs → us = bs.map V.bl
  | [], _, _, _, h, e => by cases e; simp only [Reps] at h; exact h.1
  | t :: ts, _, _, _, h, e => by
    simp only [Reps] at h
    obtain ⟨v, us, f, g, rfl, r, rs, rfl⟩ := h
    cases t with
    | bl b =>
      obtain ⟨bs, e1, e⟩ := Option.map_eq_some_iff.mp e
      subst e
      simp only [Rep] at r
      rw [bls_ok rs e1, r.1]
      rfl
    | _ => cases e
theorem intsOf_ok : ∀ {ts : List T} {us : List V} {f : List Addr} {bs : List Int}, Reps K ca F H ts us f → intsOf ts = some bs → us = bs.map V.int
  | [], _, _, _, h, e => by cases e; simp only [Reps] at h; exact h.1
  | t :: ts, _, _, _, h, e => by
    simp only [Reps] at h
    obtain ⟨v, us, f, g, rfl, r, rs, rfl⟩ := h
    cases t with
    | int b =>
      obtain ⟨bs, e1, e⟩ := Option.map_eq_some_iff.mp e
      subst e
      simp only [Rep] at r
      rw [intsOf_ok rs e1, r.1]
      rfl
    | _ => cases e
def oAll : List T → R T
  | [.lst _ xs] => match bls xs with
    | some bs => .ok (.bl (bs.all id))
    | none => stk
  | _ => stk
def oAny : List T → R T
  | [.lst _ xs] => match bls xs with
    | some bs => .ok (.bl (bs.any id))
    | none => stk
  | _ => stk
def oSum : List T → R T
  | [.lst _ xs] => match intsOf xs with
    | some ns => .ok (.int ns.sum)
    | none => stk
  | _ => stk
theorem s_all : CallS K ca (rAll K) oAll := by
  intro F H ts vs f t Q s r nd e q
  unfold oAll at e
  split at e
  · split at e
    · rename_i bs hb
      cases e
      obtain ⟨x', rfl, r1⟩ := reps1 r
      obtain ⟨a, us, g, rfl, h1, h2, h3, h4, _⟩ := r1.lst s nd
      have := bls_ok h2 hb
      subst this
      exact ⟨a, bs, rfl, SqL.of h1, give s (fun _ _ => rep_bl) q⟩
    · cases e
  · cases e
theorem s_sum : CallS K ca (rSum K) oSum := by
  intro F H ts vs f t Q s r nd e q
  unfold oSum at e
  split at e
  · split at e
    · rename_i bs hb
      cases e
      obtain ⟨x', rfl, r1⟩ := reps1 r
      obtain ⟨a, us, g, rfl, h1, h2, h3, h4, _⟩ := r1.lst s nd
      have := intsOf_ok h2 hb
      subst this
      exact ⟨a, bs, rfl, SqL.of h1, give s (fun _ _ => rep_int) q⟩
    · cases e
  · cases e
inductive Ty where
  | non | bool | int | str | list | tuple | dict
def Ty.nm : Ty → String
  | .non => "NoneType" | .bool => "bool" | .int => "int" | .str => "str" | .list => "list" | .tuple => "tuple" | .dict => "dict"
def T.ty : T → Option Ty
  | .non => some .non
  | .bl _ => some .bool
  | .int _ => some .int
  | .str _ => some .str
  | .lst _ _ => some .list
  | .lk _ => some .list
  | .tup _ => some .tuple
  | .dct _ _ => some .dict
  | .obj _ _ => none
  | .hole => none
  | .pr _ => none
def isTy : Ty → Ty → Bool
  | .bool, .int => true
  | .non, .non => true | .bool, .bool => true | .int, .int => true | .str, .str => true | .list, .list => true | .tuple, .tuple => true | .dict, .dict => true
  | _, _ => false
theorem kitB_ty {a b : Ty} : kitB a.nm b.nm = some (isTy a b) := by
  cases a <;> cases b <;> decide +kernel
theorem Rep.tyX {y : Ty} (s : Sub F H) (h : Rep K ca F H t v fv) (e : t.ty = some y) : TyX K H v (.type y.nm) := by
  cases t with
  | non => cases e; simp only [Rep] at h; rw [h.1]; exact .base .non
  | bl b => cases e; simp only [Rep] at h; rw [h.1]; exact .base (.bl b)
  | int b => cases e; simp only [Rep] at h; rw [h.1]; exact .base (.int b)
  | str b => cases e; simp only [Rep] at h; rw [h.1]; exact .base (.str b)
  | lst o xs =>
    cases e
    cases o with
    | true => simp only [Rep] at h; obtain ⟨a, us, g, h, h2, _⟩ := h; rw [h]; exact .base (.lst h2)
    | false => simp only [Rep] at h; obtain ⟨a, us, h, h2, _⟩ := h; rw [h]; exact .base (.lst (s _ _ h2))
  | lk xs =>
    cases e
    simp only [Rep] at h
    obtain ⟨a, us, h, h2, _⟩ := h
    rw [h]
    rcases h2 with (h2 | ⟨o, h2⟩) | ⟨o, its, n, h2, h3, _⟩
    · exact .base (.lst (s _ _ h2))
    · exact .base (.frz (s _ _ h2))
    · exact .kList h2 h3
  | tup xs =>
    cases e
    simp only [Rep] at h
    obtain ⟨a, us, h, h2, _⟩ := h
    rw [h]
    rcases h2 with ⟨o, h2, _⟩ | ⟨o, its, n, h2, h3, _⟩
    · exact .fTuple (s _ _ h2)
    · exact .kTuple h2 h3
  | dct o xs =>
    cases e
    cases o with
    | true => simp only [Rep] at h; obtain ⟨a, us, g, h, h2, _⟩ := h; rw [h]; exact .base (.dK h2)
    | false =>
      simp only [Rep] at h
      obtain ⟨a, us, h, h2, _⟩ := h
      rw [h]
      rcases h2 with h2 | ⟨o, h2⟩
      · exact .base (.dK (s _ _ h2))
      · exact .fDict (s _ _ h2)
  | obj _ _ => cases e
  | hole => cases e
  | pr _ => cases e
def oIsi (c : Ty) : List T → R T
  | [x] => match x.ty with
    | some y => .ok (.bl (isTy y c))
    | none => stk
  | _ => stk
def oIsi2 (c d : Ty) : List T → R T
  | [x] => match x.ty with
    | some y => .ok (.bl (isTy y c || isTy y d))
    | none => stk
  | _ => stk
theorem s_isi {c : Ty} : UnS K ca (fun x H Q => rIsi K [x, .ty c.nm] H Q) (oIsi c) := by
  intro F H ts vs f t Q s r nd e q
  unfold oIsi at e
  split at e
  · split at e
    · rename_i x y hy
      cases e
      obtain ⟨x', rfl, r1⟩ := reps1 r
      exact ⟨_, rfl, x', .ty c.nm, _, _, _, rfl, .ty _, r1.tyX s hy, kit_ty kitB_ty, give s (fun _ _ => rep_bl) q⟩
    · cases e
  · cases e
theorem te_isi {f : BM} {c : Ty} {Q : VK} (h : TEof K ca md (eOp (oIsi c) (aCons f aNil)) σ H Q) : tCB (rIsi K) (tCons (TBof K ca md f) (tCons (tC (.ty c.nm)) tNil)) σ H Q := te_op1 s_isi h
def rIsi2 (K : PySem.W.Frag) (c d : Ty) : V → Hp → VK → Prop := fun x H Q => ∀ p, H p = none → rIsiT K [x, .ref p] (upd H p (.tup [.ty c.nm, .ty d.nm])) Q
theorem s_isi2 {c d : Ty} : UnS K ca (rIsi2 K c d) (oIsi2 c d) := by
  intro F H ts vs f t Q s r nd e q
  unfold oIsi2 at e
  split at e
  · split at e
    · rename_i x y hy
      cases e
      obtain ⟨x', rfl, r1⟩ := reps1 r
      refine ⟨_, rfl, fun p hp => ⟨x', p, [.ty c.nm, .ty d.nm], .type y.nm, [.type c.nm, .type d.nm], (isTy y c || isTy y d), rfl, upd_same, .cons (.ty _) (.cons (.ty _) .nil), ?_, ?_, ?_⟩⟩
      · have g := Go.newF (F := F) (O := fun _ => False) (O' := fun _ => False) (o := .tup [.ty c.nm, .ty d.nm]) s hp fun _ z => z.elim
        exact (r1.of_go g fun _ _ z => z).tyX g.sub hy
      · refine kitAny_cons (kit_ty kitB_ty) (fun hb => ?_) fun hb => by rw [hb]; rfl
        rw [hb, Bool.false_or]
        refine kitAny_cons (kit_ty kitB_ty) (fun hb => ?_) fun hb => by rw [hb]
        rw [hb]
        exact kitAny_nil
      · exact q (.bl _) _ (upd F p (.tup [.ty c.nm, .ty d.nm])) [] (Go.newF s hp fun _ z => nomatch z) rep_bl List.nodup_nil
    · cases e
  · cases e

end
end QL
namespace QL
open PySem L2

section
variable {K : PySem.W.Frag} {ca : Ca} {F F' F1 H H' H1 : Hp} {O O' : Addr → Prop} {σ : St} {env : En} {fp : Fp} {t : T} {v : V} {fv : List Addr} {ts : List T} {vs : List V} {md : List Nat}

def cutL {α : Type} (xs : List α) (lo hi : Option Int) : List α := (xs.drop (HT.sIx xs.length 0 lo)).take (HT.sIx xs.length xs.length hi - HT.sIx xs.length 0 lo)
theorem Reps.drop (n : Nat) : ∀ {ts : List T} {us : List V} {f : List Addr} (k : Nat), Reps K ca F H ts us f → f.Nodup → ∃ g, Reps K ca F H (ts.drop k) (us.drop k) g ∧ g.Nodup ∧ ∀ a ∈ g, a ∈ f
  | ts, us, f, 0, h, nd => ⟨f, h, nd, fun _ z => z⟩
  | [], _, _, k + 1, h, nd => by
    simp only [Reps] at h
    obtain ⟨rfl, rfl⟩ := h
    exact ⟨[], by simp only [List.drop_nil, Reps]; trivial, nd, fun _ z => z⟩
  | t :: ts, _, _, k + 1, h, nd => by
    simp only [Reps] at h
    obtain ⟨v, us, f, g, rfl, r, rs, rfl⟩ := h
    obtain ⟨l, h1, h2, h3⟩ := Reps.drop n k rs (nd_app nd).2
    exact ⟨l, h1, h2, fun a ha => List.mem_append_right _ (h3 a ha)⟩
theorem Reps.take : ∀ {ts : List T} {us : List V} {f : List Addr} (k : Nat), Reps K ca F H ts us f → f.Nodup → ∃ g, Reps K ca F H (ts.take k) (us.take k) g ∧ g.Nodup ∧ ∀ a ∈ g, a ∈ f
  | ts, us, f, 0, h, nd => ⟨[], by simp only [List.take_zero, Reps]; trivial, List.nodup_nil, fun _ z => absurd z (by simp)⟩
  | [], _, _, k + 1, h, nd => by
    simp only [Reps] at h
    obtain ⟨rfl, rfl⟩ := h
    exact ⟨[], by simp only [List.take_nil, Reps]; trivial, nd, fun _ z => z⟩
  | t :: ts, _, _, k + 1, h, nd => by
    simp only [Reps] at h
    obtain ⟨v, us, f, g, rfl, r, rs, rfl⟩ := h
    obtain ⟨l, h1, h2, h3⟩ := Reps.take k rs (nd_app nd).2
    refine ⟨f ++ l, ?_, nd_sub nd (nd_app nd).1 h2 (fun _ z => z) h3, mem_sub (fun _ z => z) h3⟩
    simp only [List.take_succ_cons, Reps]
    exact ⟨v, _, f, l, rfl, r, h1, rfl⟩
theorem Reps.cut {us : List V} {f : List Addr} (h : Reps K ca F H ts us f) (nd : f.Nodup) (lo hi : Option Int) : ∃ g, Reps K ca F H (cutL ts lo hi) (cutV us lo hi) g ∧ g.Nodup ∧ ∀ a ∈ g, a ∈ f := by
  have hl := Reps.length h
  unfold cutL cutV
  rw [hl]
  obtain ⟨g, h1, h2, h3⟩ := Reps.drop 0 (HT.sIx ts.length 0 lo) h nd
  obtain ⟨k, h4, h5, h6⟩ := Reps.take (HT.sIx ts.length ts.length hi - HT.sIx ts.length 0 lo) h1 h2
  exact ⟨k, h4, h5, fun a ha => h3 a (h6 a ha)⟩
theorem cutL_whole {α : Type} {xs : List α} {lo hi : Option Int} (h : HT.sIx xs.length 0 lo = 0 ∧ HT.sIx xs.length xs.length hi = xs.length) : cutL xs lo hi = xs := by
  unfold cutL
  rw [h.1, h.2]
  simp
def slT (x : T) (lo hi : Option Int) : R T := match x with
  | .str z => do
    let _ ← ck (decide (z.length ≤ big))
    .ok (.str (cutS z lo hi))
  | .lst _ xs => .ok (.lst true (cutL xs lo hi))
  | .tup xs => .ok (.tup (cutL xs lo hi))
  | _ => stk
def rSlAny (K : PySem.W.Frag) : V → Option Int → Option Int → Hp → VK → Prop := fun x lo hi H Q => rSlL K x lo hi H Q ∨ rSlN K x lo hi H Q ∨ rSlS x lo hi H Q
theorem sl_any {X : Cx} : SlR X (rSlAny X.K) := sl_list.or (sl_tupN.or sl_str)
theorem s_sl {x : T} {u : V} {f : List Addr} {lo hi : Option Int} {Q : VK} (s : Sub F H) (r1 : Rep K ca F H x u f) (nd : f.Nodup) (e : slT x lo hi = .ok t) (q : ∀ v H' F' k, Go F H (· ∈ f) F' H' (· ∈ k) → Rep K ca F' H' t v k → k.Nodup → Q v H') : rSlAny K u lo hi H Q := by
  unfold slT at e
  split at e
  · obtain ⟨_, c, e⟩ := bind_ok e
    cases e
    simp only [Rep] at r1
    obtain ⟨rfl, rfl⟩ := r1
    exact .inr (.inr ⟨_, rfl, big_le (of_decide_eq_true (ck_ok c)), give s (fun _ _ => rep_str) q⟩)
  · cases e
    obtain ⟨a, us, g, rfl, h1, h2, h3, h4, _⟩ := r1.lst s nd
    obtain ⟨k, h5, h6, h7⟩ := Reps.cut h2 h3 lo hi
    exact .inl ⟨a, us, rfl, SqL.of h1, fun p hp => newLst s hp h5 h6 (fun a ha => h4 a (h7 a ha)) q⟩
  · rename_i xs
    cases e
    have r2 := r1
    simp only [Rep] at r1
    obtain ⟨a, us, rfl, h1, h2⟩ := r1
    obtain ⟨k, h5, h6, h7⟩ := Reps.cut h2 nd lo hi
    refine .inr (.inl ⟨a, us, rfl, s.sqT h1.t, fun hw => ?_, fun _ p ob hp hd => newTup hd s hp h5 h6 h7 q⟩)
    rw [Reps.length h2] at hw
    rw [cutL_whole hw] at q
    exact keep s r2 nd (fun _ z => z) q
  · cases e
def oSl (a b : Bool) : List T → R T := fun ts => match a, b, ts with
  | false, false, [x] => slT x none none
  | true, false, [x, .int i] => slT x (some i) none
  | false, true, [x, .int i] => slT x none (some i)
  | true, true, [x, .int i, .int j] => slT x (some i) (some j)
  | _, _, _ => stk
theorem te_sl10 {f g : BM} {Q : VK} (h : TEof K ca md (eOp (oSl true false) (aCons f (aCons g aNil))) σ H Q) : tSl (rSlAny K) (TBof K ca md f) (tPart (TBof K ca md g)) tNoPart σ H Q := by
  refine te_op2 (r := fun x y H Q => ∃ i, y = .int i ∧ rSlAny K x (some i) none H Q) (fun F H ts vs f t Q s r nd e q => ?_) h
  unfold oSl at e
  split at e
  case h_2 =>
    obtain ⟨x, y, f1, f2, rfl, r1, r2, rfl⟩ := reps2 r
    simp only [Rep] at r2
    obtain ⟨rfl, rfl⟩ := r2
    rw [List.append_nil] at *
    exact ⟨x, _, rfl, _, rfl, s_sl s r1 nd e q⟩
  all_goals first | (rename_i h1 _; cases h1; done) | (rename_i h1 _ _; cases h1; done) | (rename_i h1; cases h1; done) | cases e
theorem te_sl01 {f g : BM} {Q : VK} (h : TEof K ca md (eOp (oSl false true) (aCons f (aCons g aNil))) σ H Q) : tSl (rSlAny K) (TBof K ca md f) tNoPart (tPart (TBof K ca md g)) σ H Q := by
  refine te_op2 (r := fun x y H Q => ∃ i, y = .int i ∧ rSlAny K x none (some i) H Q) (fun F H ts vs f t Q s r nd e q => ?_) h
  unfold oSl at e
  split at e
  case h_3 =>
    obtain ⟨x, y, f1, f2, rfl, r1, r2, rfl⟩ := reps2 r
    simp only [Rep] at r2
    obtain ⟨rfl, rfl⟩ := r2
    rw [List.append_nil] at *
    exact ⟨x, _, rfl, _, rfl, s_sl s r1 nd e q⟩
  all_goals first | (rename_i h1 _; cases h1; done) | (rename_i h1 _ _; cases h1; done) | (rename_i h1; cases h1; done) | cases e
/-- an operand that is an int -/
def Bop.isI : Bop → Option Int
  | .tmp (.int i) => some i
  | .br (.int i) _ => some i
  | _ => none
def bI (f : BM) : BM := fun env => do
  let (b, env1) ← f env
  let _ ← ck b.isI.isSome
  .ok (b, env1)
theorem SR.replace {i : Nat} {w : V} {ft fi' : List Addr} {t' : T} (s : SR K ca F H σ env fp) (hσ : σ[i]? = some (some w)) (g : Go F H (fun a => a ∈ fp i ∨ a ∈ ft) F' H' (fun a => a ∈ fi' ∨ a ∈ fv)) (off : ∀ a ∈ ft, ¬ Ow fp a)
    (r : Rep K ca F' H' t' w fi') (nd : fi'.Nodup) (dv : ∀ a ∈ fv, a ∉ fi') : SR K ca F' H' σ (env.set i (some t')) (fpSet fp i fi') ∧ ∀ a ∈ fv, ¬ Ow (fpSet fp i fi') a := by
  have hil : i < env.length := by rw [s.len]; exact (List.getElem?_eq_some_iff.mp hσ).1
  have offi : ∀ a, (a ∈ fi' ∨ a ∈ fv) → ∀ j, j ≠ i → a ∉ fp j := fun a ha j hj z => by
    rcases g.fresh a ha with q | q
    · rcases q with q | q
      · exact hj (s.one j i a z q)
      · exact off a q ⟨j, z⟩
    · exact (s.alive a ⟨j, z⟩).1 q
  have sD : SR K ca F' H' σ (env.set i none) (fpSet fp i []) := s.drop.of_go g fun a ha z => by
    obtain ⟨j, hj⟩ := ha
    by_cases hji : j = i
    · subst hji; rw [fpSet_same] at hj; cases hj
    · rw [fpSet_ne hji] at hj
      rcases z with z | z
      · exact hji (s.one j i a hj z)
      · exact off a z ⟨j, hj⟩
  have sP := sD.put (i := i) (t := t') (v := w) (fv := fi') ⟨r, nd, fun a ha ⟨j, hj⟩ => by
    by_cases hji : j = i
    · subst hji; rw [fpSet_same] at hj; cases hj
    · rw [fpSet_ne hji] at hj; exact offi a (.inl ha) j hji hj⟩ (by rw [List.length_set]; exact hil)
  have e1' : σ.set i (some w) = σ := List.ext_getElem? fun j => by
    by_cases hji : i = j
    · subst hji; rw [List.getElem?_set_self (by rw [← s.len]; exact hil), hσ]
    · rw [List.getElem?_set_ne hji]
  have e2' : (env.set i none).set i (some t') = env.set i (some t') := List.set_set ..
  have e3' : fpSet (fpSet fp i []) i fi' = fpSet fp i fi' := funext fun j => by
    unfold fpSet
    split <;> rfl
  rw [e1', e2', e3'] at sP
  refine ⟨sP, fun a ha ⟨j, hj⟩ => ?_⟩
  by_cases hji : j = i
  · subst hji; rw [fpSet_same] at hj; exact dv a ha hj
  · rw [fpSet_ne hji] at hj; exact offi a (.inr ha) j hji hj
/-- the steps joined: operands under md0, then slot i changed -/
theorem Go.slot {md0 : List Nat} {i : Nat} {fp1 : Fp} {env1 : En} {ft fi' : List Addr} (him : i ∈ md) (hm : ∀ j, j ∈ md0 → j ∈ md) (g1 : Go F H (OwM md0 fp) F1 H1 (fun a => OwM md0 fp1 a ∨ a ∈ ft)) (k1 : Keep md0 env fp env1 fp1)
    (g3 : Go F1 H1 (fun a => a ∈ fp1 i ∨ a ∈ ft) F' H' (fun a => a ∈ fi' ∨ a ∈ fv)) : Go F H (OwM md fp) F' H' (fun a => OwM md (fpSet fp1 i fi') a ∨ a ∈ fv) := by
  have up : ∀ b, OwM md0 fp b → OwM md fp b := fun b ⟨j, hj, hj2⟩ => ⟨j, hm j hj, hj2⟩
  have back1 : ∀ b, (b ∈ fp1 i ∨ b ∈ ft) ∨ H1 b = none → OwM md fp b ∨ H b = none := fun b z => by
    rcases z with (z | z) | z
    · by_cases hmi : i ∈ md0
      · exact (g1.fresh b (.inl ⟨i, hmi, z⟩)).imp (up b) id
      · rw [k1.fp i hmi] at z
        exact .inl ⟨i, him, z⟩
    · exact (g1.fresh b (.inr z)).imp (up b) id
    · cases wH : H b with
      | none => exact .inr rfl
      | some o =>
        by_cases n1 : OwM md0 fp b
        · exact .inl (up b n1)
        · rw [g1.frame b o wH n1] at z; cases z
  refine ⟨g1.ext.trans g3.ext, g3.sub, fun b o eb n => ?_, fun b eb => ?_, fun b z => ?_⟩
  · have n1 : ¬ OwM md0 fp b := fun z => n (up b z)
    have h1b := g1.frame b o eb n1
    refine g3.frame b o h1b fun z => ?_
    rcases back1 b (.inl z) with q | q
    · exact n q
    · rw [q] at eb; cases eb
  · rcases g3.nofz b eb with q | q | q
    · exact (g1.nofz b q).imp id (Or.imp (up b) id)
    · exact .inr (back1 b (.inl q))
    · exact .inr (back1 b (.inr q))
  · rcases z with ⟨j, hj, hj2⟩ | z
    · by_cases hji : j = i
      · subst hji
        rw [fpSet_same] at hj2
        exact back1 b (g3.fresh b (.inl hj2))
      · rw [fpSet_ne hji] at hj2
        by_cases hmj : j ∈ md0
        · exact (g1.fresh b (.inl ⟨j, hmj, hj2⟩)).imp (up b) id
        · rw [k1.fp j hmj] at hj2
          exact .inl ⟨j, hj, hj2⟩
    · exact back1 b (g3.fresh b (.inr z))
def MutS (K : PySem.W.Frag) (ca : Ca) (r : V → List V → Hp → VK → Prop) (m : T → List T → R (T × T)) : Prop :=
  ∀ (F H : Hp) (t : T) (v : V) (fv : List Addr) (ts : List T) (vs : List V) (ft : List Addr) (t' u : T) (Q : VK), Sub F H → Rep K ca F H t v fv → fv.Nodup → Reps K ca F H ts vs ft → ft.Nodup → (∀ a ∈ fv, a ∉ ft) → m t ts = .ok (t', u) →
    (∀ w H' F' fv' fw, Go F H (fun a => a ∈ fv ∨ a ∈ ft) F' H' (fun a => a ∈ fv' ∨ a ∈ fw) → Rep K ca F' H' t' v fv' → Rep K ca F' H' u w fw → fv'.Nodup → fw.Nodup → (∀ a ∈ fw, a ∉ fv') → Q w H') → r v vs H Q
def T.at (env : En) (i : Nat) : Option T := env[i]?.join
theorem T.at_some {i : Nat} (h : T.at env i = some t) : env[i]? = some (some t) := by
  unfold T.at at h
  cases e : env[i]? with
  | none => rw [e] at h; cases h
  | some o => rw [e] at h; rw [show o = some t from h]
def eMut (i : Nat) (sh : T → Bool) (m : T → List T → R (T × T)) (f : AM) : EM := fun env => do
  let _ ← ck (match T.at env i with | some t => sh t | none => false)
  let (bs, env1) ← f env
  let ts ← tmps bs
  match env1[i]? with
  | some (some t) => do
    let (t', u) ← m t ts
    .ok (u, env1.set i (some t'))
  | _ => stk
theorem te_mut {md0 : List Nat} {i : Nat} {sh : T → Bool} {m : T → List T → R (T × T)} {ty : String} {r : V → List V → Hp → VK → Prop} {f : AM} {Q : VK} (him : i ∈ md) (hm : ∀ j, j ∈ md0 → j ∈ md) (hi0 : i ∉ md0) (hs : MutS K ca r m)
    (hty : ∀ (F H : Hp) (t : T) (v : V) (fv : List Addr), sh t = true → Sub F H → Rep K ca F H t v fv → tyV K ty v H) (h : TEof K ca md (eMut i sh m f) σ H Q) : tBM K ty r (tVar i) (TAof K ca md0 f) σ H Q := by
  obtain ⟨F, env, fp, u, env', s, e, k⟩ := h
  obtain ⟨_, c0, e0⟩ := bind_ok e
  have c0 := ck_ok c0
  obtain ⟨⟨bs, env1⟩, e1, ea⟩ := bind_ok e0
  obtain ⟨ts, e2, eb⟩ := bind_ok ea
  clear e ea e0
  have eb : (match env1[i]? with
    | some (some t) => m t ts >>= fun z => match z with
      | (t', u) => Except.ok (u, env1.set i (some t'))
    | _ => stk) = Except.ok (u, env') := eb
  split at eb
  case h_2 => cases eb
  case h_1 t et =>
    obtain ⟨⟨t', u'⟩, e3, e4⟩ := bind_ok eb
    cases e4
    -- where the slot stands: length tells that it is there before
    have go : ∀ vs H1 F1 fp1 ft, Go F H (OwM md0 fp) F1 H1 (fun a => OwM md0 fp1 a ∨ a ∈ ft) → Keep md0 env fp env1 fp1 → SR K ca F1 H1 σ env1 fp1 → Ops K ca md0 F1 H1 σ fp1 bs vs ft → ft.Nodup → (∀ a ∈ ft, ¬ Ow fp1 a) → ∀ v, σ[i]? = some (some v) → r v vs H1 Q := by
      intro vs H1 F1 fp1 ft g1 k1 s1 o1 n1 d1 v hv
      obtain ⟨v', e5, rv⟩ := s1.slot i t et
      rw [hv] at e5
      cases e5
      refine hs F1 H1 t v (fp1 i) ts vs ft t' u Q s1.sub rv (s1.nd i) (o1.tmps e2) n1 (fun a ha z => d1 a z ⟨i, ha⟩) e3 fun w H2 F2 fv' fw g2 r1 r2 n2 n3 d2 => ?_
      obtain ⟨sP, dP⟩ := s1.replace hv g2 (fun a ha => d1 a ha) r1 n2 d2
      refine k w H2 F2 (fpSet fp1 i fv') fw (Go.slot him hm g1 k1 g2) ⟨fun j hj => ?_, fun j hj => ?_⟩ sP ⟨r2, n3, dP⟩
      · have hji : j ≠ i := fun z => hj (by rw [z]; exact him)
        rw [fpSet_ne hji]
        exact k1.fp j fun z => hj (hm j z)
      · have hji : i ≠ j := fun z => hj (by rw [← z]; exact him)
        rw [List.getElem?_set_ne hji]
        exact k1.env j fun z => hj (hm j z)
    -- the slot ahead of the operands
    cases h0 : T.at env i with
    | none => rw [h0] at c0; cases c0
    | some t0 =>
      rw [h0] at c0
      obtain ⟨v0, hv0, r0⟩ := s.slot i t0 (T.at_some h0)
      exact ⟨v0, hv0, hty F H t0 v0 (fp i) c0 s.sub r0, F, env, fp, bs, env1, s, e1, fun vs H1 F1 fp1 ft g1 k1 s1 o1 n1 d1 => go vs H1 F1 fp1 ft g1 k1 s1 o1 n1 d1 v0 hv0⟩

def T.isLst : T → Bool
  | .lst true _ => true
  | _ => false
theorem ty_lst (F H : Hp) (t : T) (v : V) (fv : List Addr) (h : t.isLst = true) (s : Sub F H) (r : Rep K ca F H t v fv) : tyV K "list" v H := by
  cases t with
  | lst o xs =>
    cases o with
    | true =>
      simp only [Rep] at r
      obtain ⟨a, us, g, rfl, h1, _⟩ := r
      exact .inl ⟨rfl, us, SqL.of h1⟩
    | false => cases h
  | _ => cases h
/-- the list's object as it is changed -/
theorem lst_mut {ys : List T} {a : Addr} {us ws : List V} {g ft g' fw : List Addr} {u : T} {Q : VK} {w : V} (s : Sub F H) (h1 : H a = some (.lst us)) (h2 : F a = none) (ha : a ∉ ft) (hag : a ∉ g)
    (hs : ∀ F' H', Go F H (· = a) F' H' (fun _ => False) → Reps K ca F' H' ys ws g' ∧ Rep K ca F' H' u w fw) (n1 : g'.Nodup) (n2 : fw.Nodup) (d : ∀ x ∈ fw, x ∉ g') (m1 : ∀ x ∈ g', x ∈ g ∨ x ∈ ft) (m2 : ∀ x ∈ fw, x ∈ g ∨ x ∈ ft)
    (q : ∀ w H' F' fv' fw, Go F H (fun b => b ∈ a :: g ∨ b ∈ ft) F' H' (fun b => b ∈ fv' ∨ b ∈ fw) → Rep K ca F' H' (.lst true ys) (.ref a) fv' → Rep K ca F' H' u w fw → fv'.Nodup → fw.Nodup → (∀ x ∈ fw, x ∉ fv') → Q w H') : Q w (upd H a (.lst ws)) := by
  have gw : Go F H (· = a) F (upd H a (.lst ws)) (fun _ => False) := Go.write s rfl h2 fun b z => z.elim
  obtain ⟨r1, r2⟩ := hs _ _ gw
  have a1 : a ∉ g' := fun z => (m1 a z).elim hag ha
  have a2 : a ∉ fw := fun z => (m2 a z).elim hag ha
  have g0 : Go F H (fun b => b ∈ a :: g ∨ b ∈ ft) F (upd H a (.lst ws)) (fun _ => False) := gw.weak (fun x z => .inl (by rw [z]; exact List.mem_cons_self)) fun _ z => z
  refine q w _ F (a :: g') fw ⟨g0.ext, g0.sub, g0.frame, g0.nofz, fun b z => ?_⟩ ?_ r2 (List.nodup_cons.mpr ⟨a1, n1⟩) n2 fun x hx z => ?_
  · rcases z with z | z
    · rcases List.mem_cons.mp z with z | z
      · exact .inl (.inl (by rw [z]; exact List.mem_cons_self))
      · exact .inl ((m1 b z).imp (List.mem_cons_of_mem _) id)
    · exact .inl ((m2 b z).imp (List.mem_cons_of_mem _) id)
  · simp only [Rep]
    exact ⟨a, ws, g', rfl, upd_same, h2, r1, rfl⟩
  · rcases List.mem_cons.mp z with z | z
    · exact a2 (by rw [← z]; exact hx)
    · exact d x hx z
def mAppend : T → List T → R (T × T)
  | .lst true xs, [t] => do
    let _ ← ck (decide (xs.length < big))
    .ok (.lst true (xs ++ [t]), .non)
  | _, _ => stk
theorem s_append : MutS K ca rAppend mAppend := by
  intro F H t v fv ts vs ft t' u Q s r n rs ns d e q
  unfold mAppend at e
  split at e
  · rename_i xs x
    obtain ⟨_, c, e⟩ := bind_ok e
    cases e
    obtain ⟨y, rfl, ry⟩ := reps1 rs
    simp only [Rep] at r
    obtain ⟨a, us, g, rfl, h1, h2, h3, rfl⟩ := r
    have nc := List.nodup_cons.mp n
    refine ⟨a, us, y, rfl, rfl, h1, by rw [Reps.length h3]; exact big_lt (of_decide_eq_true (ck_ok c)), ?_⟩
    refine lst_mut (g := g) (ft := ft) (g' := g ++ ft) (fw := []) s h1 h2 (d a List.mem_cons_self) nc.1 (fun F' H' gg => ⟨?_, rep_non⟩) (List.nodup_append.mpr ⟨nc.2, ns, fun x hx y hy z => d x (List.mem_cons_of_mem _ hx) (by rw [z]; exact hy)⟩) List.nodup_nil (fun _ z => absurd z (by simp)) (fun x hx => List.mem_append.mp hx) (fun _ z => absurd z (by simp)) q
    refine (h3.of_go gg fun b hb z => nc.1 (by rw [← z]; exact hb)).append ?_
    simp only [Reps]
    exact ⟨y, [], ft, [], rfl, ry.of_go gg fun b hb z => d a List.mem_cons_self (by rw [← z]; exact hb), ⟨rfl, rfl⟩, by rw [List.append_nil]⟩
  · cases e
def mExtend : T → List T → R (T × T)
  | .lst true xs, [.lst _ ys] => do
    let _ ← ck (decide (xs.length + ys.length ≤ big))
    .ok (.lst true (xs ++ ys), .non)
  | _, _ => stk
theorem s_extend : MutS K ca rExtend mExtend := by
  intro F H t v fv ts vs ft t' u Q s r n rs ns d e q
  unfold mExtend at e
  split at e
  · rename_i xs o ys
    obtain ⟨_, c, e⟩ := bind_ok e
    cases e
    obtain ⟨y, rfl, ry⟩ := reps1 rs
    simp only [Rep] at r
    obtain ⟨a, us, g, rfl, h1, h2, h3, rfl⟩ := r
    have nc := List.nodup_cons.mp n
    obtain ⟨b, ws, gb, rfl, hb1, hb2, hb3, hb4, hb5⟩ := ry.lst s ns
    have nab : a ≠ b := fun z => by
      subst z
      rcases hb5 with ⟨_, e5, _⟩ | ⟨_, _, _, e5⟩
      · exact d a List.mem_cons_self (by rw [e5]; exact List.mem_cons_self)
      · rw [h2] at e5; cases e5
    refine ⟨a, b, us, ws, rfl, rfl, h1, hb1, by rw [Reps.length h3, Reps.length hb2]; exact big_le (of_decide_eq_true (ck_ok c)), ?_⟩
    refine lst_mut (g := g) (ft := ft) (g' := g ++ gb) (fw := []) s h1 h2 (d a List.mem_cons_self) nc.1 (fun F' H' gg => ⟨?_, rep_non⟩) (List.nodup_append.mpr ⟨nc.2, hb3, fun x hx y hy z => d x (List.mem_cons_of_mem _ hx) (by rw [z]; exact hb4 y hy)⟩) List.nodup_nil (fun _ z => absurd z (by simp)) (fun x hx => (List.mem_append.mp hx).imp id (hb4 x)) (fun _ z => absurd z (by simp)) q
    exact (h3.of_go gg fun b hb z => nc.1 (by rw [← z]; exact hb)).append (hb2.of_go gg fun b hb z => d a List.mem_cons_self (by rw [← z]; exact hb4 b hb))
  · cases e
def mReverse : T → List T → R (T × T)
  | .lst true xs, [] => do
    let _ ← ck (!T.owl xs)
    .ok (.lst true xs.reverse, .non)
  | _, _ => stk
theorem Reps.reverse {ts : List T} {us : List V} (h : Reps K ca F H ts us []) : Reps K ca F H ts.reverse us.reverse [] := by
  induction ts generalizing us with
  | nil => simp only [Reps] at h; rw [h.1]; simp [Reps]
  | cons t ts ih =>
    simp only [Reps] at h
    obtain ⟨v, us', f, g, rfl, r, rs, e⟩ := h
    have e1 : f = [] := List.append_eq_nil_iff.mp e.symm |>.1
    have e2 : g = [] := List.append_eq_nil_iff.mp e.symm |>.2
    subst e1 e2
    rw [List.reverse_cons, List.reverse_cons]
    have := (ih rs).append (show Reps K ca F H [t] [v] [] by simp only [Reps]; exact ⟨v, [], [], [], rfl, r, ⟨rfl, rfl⟩, rfl⟩)
    simpa using this
def mClear : T → List T → R (T × T)
  | .lst true _, [] => .ok (.lst true [], .non)
  | _, _ => stk
abbrev rInsert : V → List V → Hp → VK → Prop := fun x vs H Q => ∃ (l : Addr) (xs : List V) (i : Int) (y : V), x = .ref l ∧ vs = [.int i, y] ∧ H l = some (.lst xs) ∧ xs.length < sizeLine ∧ 0 ≤ i ∧ i < 2 ^ 63 ∧ Q .non (upd H l (.lst (xs.take i.toNat ++ [y] ++ xs.drop i.toNat)))
def mInsert : T → List T → R (T × T)
  | .lst true xs, [.int i, t] => do
    let _ ← ck (!T.owl xs && (decide (xs.length < big) && (decide (0 ≤ i) && decide (i < 2 ^ 63))))
    .ok (.lst true (xs.take i.toNat ++ [t] ++ xs.drop i.toNat), .non)
  | _, _ => stk
end
end QL
namespace QL
open PySem L2 RZ PyProof.Rows

/-- the tuple at a and the list at b as they stand at each turn, the items in new pairs -/
def ItzM (K : PySem.W.Frag) (a b : Addr) : It where
  go := fun i H => ∃ (xs ys : List V) (x y : V), SqT K H a xs ∧ SqL K H b ys ∧ xs[i]? = some x ∧ ys[i]? = some y
  yld := fun i H v H' => ∃ T x y, v = .ref T ∧ H T = none ∧ H' = upd H T (.tup [x, y]) ∧ (∀ xs, SqT K H a xs → xs[i]? = some x) ∧ ∀ ys, SqL K H b ys → ys[i]? = some y
  stop := fun i H => ∃ xs ys : List V, SqT K H a xs ∧ SqL K H b ys ∧ (xs.length = i ∧ i ≤ ys.length ∨ ys.length = i ∧ i ≤ xs.length)
theorem ZipApart.sep {z TI TO i1 i2 a b : Addr} (D : ZipApart z TI TO i1 i2 a b) : ZipSep2 z TI TO i1 i2 [i1, a] [i2, b] where
  TIz := D.TIz
  TOz := D.TOz
  TITO := D.TITO
  TIi1 := D.TIi1
  mem1 := by simp
  zf1 := by simp [D.i1z.symm, D.l1z.symm]
  Tf1 := by simp [D.TOi1, D.l1TO.symm]
  TIi2 := D.TIi2
  mem2 := by simp
  zf2 := by simp [D.i2z.symm, D.l2z.symm]
  Tf2 := by simp [D.TOi2, D.l2TO.symm]
  sep1_2 := by simp [D.i12, D.l2i1.symm]
  sep2_1 := by simp [D.i12.symm, D.l1i2.symm]
theorem turn_zipM {P : Program} {w : World} {K : PySem.W.Frag} {elts : List Expr} {kk : Nat} {tpos : Pos} {a b z TI TO i1 i2 : Addr} (D : ZipApart z TI TO i1 i2 a b) :
    Turn P w K (.Tuple elts kk tpos) (ItzM K a b) [z, TI, TO, i1, i2] z (fun i h => IsZip h z TI TO .none ∧ IsPair h TI (.ref i1) (.ref i2) ∧ (∃ x y, IsPair h TO x y) ∧ h.IsTupleIter i1 a i ∧ h.IsListIter i2 b i) where
  mem := by simp
  obj := fun i h st c hc => by
    obtain ⟨hz, hTI, ⟨x, y, hTO⟩, ⟨o1, e1, _, d1⟩, ⟨o2, e2, _, d2⟩⟩ := st
    have e' : c = z ∨ c = TI ∨ c = TO ∨ c = i1 ∨ c = i2 := by simpa using hc
    rcases e' with rfl | rfl | rfl | rfl | rfl
    · exact ⟨_, hz, fun v q => nomatch q⟩
    · exact ⟨_, hTI, fun v q => nomatch q⟩
    · exact ⟨_, hTO, fun v q => nomatch q⟩
    · exact ⟨o1, e1, fun v q => by rw [d1] at q; cases q⟩
    · exact ⟨o2, e2, fun v q => by rw [d2] at q; cases q⟩
  keep := fun i h h' st k =>
    let ⟨hz, hTI, ⟨x, y, hTO⟩, h1, h2⟩ := st
    ⟨k z (by simp) _ hz, k TI (by simp) _ hTI, ⟨x, y, k TO (by simp) _ hTO⟩, h1.at fun o q => k i1 (by simp) o q, h2.at fun o q => k i2 (by simp) o q⟩
  item := by
    intro X hP hw hK hc i pins s σ H E I hf st hg
    subst hP hw hK
    obtain ⟨hz, hTI, ⟨x0, y0, hTO⟩, h1, h2⟩ := st
    obtain ⟨xs, ys, x, y, hqx, hqy, hx, hy⟩ := hg
    obtain ⟨its, rv, p, _⟩ := I.tuple hqx
    obtain ⟨its2, rv2, p2, _⟩ := I.list hqy
    obtain ⟨u, hu, ru⟩ := rv.get hx
    obtain ⟨u2, hu2, ru2⟩ := rv2.get hy
    have hzl : z < s.heap.objs.size := Heap.lt_size hz
    have l1 : i < its.toArray.size := by
      rcases Nat.lt_or_ge i its.length with q | q
      · simpa using q
      · rw [List.getElem?_eq_none q] at hu; cases hu
    have l2 : i < its2.toArray.size := by
      rcases Nat.lt_or_ge i its2.length with q | q
      · simpa using q
      · rw [List.getElem?_eq_none q] at hu2; cases hu2
    refine wpAny_pyNext_zipD2_item (ZipApart.sep D) (Draws.tuple (prog := X.prog) (w := X.w) (A := X.A.in1) (show X.A.in1.handled = none from I.ok.hd hc) i1 a D.l1i1 its.toArray) (Draws.list (prog := X.prog) (w := X.w) (A := X.A.in1) (show X.A.in1.handled = none from I.ok.hd hc) i2 b D.l2i2 its2.toArray) hz hTI hTO ⟨h1, p⟩ ⟨h2, p2.isList⟩ l1 l2 fun x1 x2 h' tk e1 e2 z' TO' st1' st2' hT hsz hk => ?_
    have e1 : some u = some x1 := by rw [← hu]; simpa using e1
    have e2 : some u2 = some x2 := by rw [← hu2]; simpa using e2
    cases e1
    cases e2
    obtain ⟨h1', _⟩ := st1'
    obtain ⟨h2', _⟩ := st2'
    refine ⟨_, rfl, wpAny_letOwnedTupleGo_zip (s := { s with heap := h', toks := tk }) z' fun h'' z'' sb => ?_⟩
    have hT2 : h''.get? s.heap.objs.size = some { cls := .type "tuple", data := .seq #[u, u2] } := (sb.2 _ (Nat.ne_of_gt hzl)).trans hT
    have new : ObjOk X.prog X.w (upd H s.heap.objs.size (.tup [x, y])) h'' s.heap.objs.size (.tup [x, y]) :=
      ⟨by show 2 ≤ sizeLine; decide, [u, u2], .cons ru (.cons ru2 .nil), ⟨_, hT2, rfl, _, rfl⟩⟩
    have I1 : Inv X pins σ (upd H s.heap.objs.size (.tup [x, y])) { s with heap := h'', toks := tk } :=
      I.turnedNew (t' := tk) (ch := [z, TI, TO, i1, i2]) (fun c o hb q => by
        simp only [List.mem_cons, List.not_mem_nil, not_or, or_false] at hb
        exact (sb.2 c hb.1).trans (hk c o hb.1 hb.2.2.1 hb.2.2.2.1 hb.2.2.2.2 q)) hf (Nat.le_refl _) new
    refine ⟨.ref s.heap.objs.size, _, I1, rfl, ⟨_, x, y, rfl, I.hok.fresh (Nat.le_refl _), rfl, fun l hl => by rw [I.tuple_inj hl hqx]; exact hx, fun l hl => by rw [I.list_inj hl hqy]; exact hy⟩, ⟨z'', ?_, ⟨u, u2, ?_⟩, ?_, ?_⟩, fun c hcm => ?_⟩
    · exact (sb.2 _ D.TIz).trans (hk _ _ D.TIz D.TITO D.TIi1 D.TIi2 hTI)
    · exact (sb.2 _ D.TOz).trans TO'
    · exact h1'.at fun o q => (sb.2 _ D.i1z).trans q
    · exact h2'.at fun o q => (sb.2 _ D.i2z).trans q
    · have hlt : c < s.heap.objs.size := by
        have e' : c = z ∨ c = TI ∨ c = TO ∨ c = i1 ∨ c = i2 := by simpa using hcm
        rcases e' with rfl | rfl | rfl | rfl | rfl
        · exact hzl
        · exact Heap.lt_size hTI
        · exact Heap.lt_size hTO
        · obtain ⟨_, e1, _⟩ := h1; exact Heap.lt_size e1
        · obtain ⟨_, e2, _⟩ := h2; exact Heap.lt_size e2
      rw [upd_ne (Nat.ne_of_lt hlt)]
      exact (hf c hcm).1
  done := by
    intro X hP hw hK hc i pins s σ H E I hf st hg
    subst hP hw hK
    obtain ⟨hz, hTI, ⟨x0, y0, hTO⟩, h1, h2⟩ := st
    obtain ⟨xs, ys, hqx, hqy, hend⟩ := hg
    obtain ⟨its, rv, p, _⟩ := I.tuple hqx
    obtain ⟨its2, rv2, p2, _⟩ := I.list hqy
    have l1 := rv.length
    have l2 := rv2.length
    refine wpAny_pyNext_zipD2_end (ZipApart.sep D) (Draws.tuple (prog := X.prog) (w := X.w) (A := X.A.in1) (show X.A.in1.handled = none from I.ok.hd hc) i1 a D.l1i1 its.toArray) (Draws.list (prog := X.prog) (w := X.w) (A := X.A.in1) (show X.A.in1.handled = none from I.ok.hd hc) i2 b D.l2i2 its2.toArray) hz hTI hTO ⟨h1, p⟩ ⟨h2, p2.isList⟩ (by simp; omega) (by simp; omega) (by simp; omega) fun h' tk hk =>
      ⟨rfl, I.turnedL (t' := tk) (ch := [z, TI, TO, i1, i2]) (fun c o hb q => by
        simp only [List.mem_cons, List.not_mem_nil, not_or, or_false] at hb
        exact hk c o hb.1 hb.2.2.1 hb.2.2.2.1 hb.2.2.2.2 q) hf⟩
  self := fun A i s Q E st h => wpAny_pyIter_zip st.1 h

section
variable {prog : Program} {w : World} {A : Around} {E : Value → Shared → Prop} {s : Shared}
abbrev zm1 (h : Heap) (l1 : Addr) : Heap := h.push { cls := .type "tuple_iterator", data := .fields #[.ref l1, .int 0 0] }
abbrev zm2 (h : Heap) (l1 l2 : Addr) : Heap := (zm1 h l1).push { cls := .type "list_iterator", data := .fields #[.ref l2, .int 0 0] }
abbrev zm3 (h : Heap) (l1 l2 : Addr) : Heap := (zm2 h l1 l2).push { cls := .type "tuple", data := .seq #[.ref h.objs.size, .ref (zm1 h l1).objs.size] }
abbrev zm4 (h : Heap) (l1 l2 : Addr) : Heap := (zm3 h l1 l2).push { cls := .type "tuple", data := .seq #[.none, .none] }
abbrev zm5 (h : Heap) (l1 l2 : Addr) : Heap := (zm4 h l1 l2).push { cls := .type "zip", data := .fields #[.none, .bool false, .bool false, .ref (zm2 h l1 l2).objs.size, .ref (zm3 h l1 l2).objs.size] }
theorem meets_zipM (l1 l2 : Addr) (xs ys : Array Value) :
    Meets (Builtin.«zip.__new__» ⟨[.type "zip", .ref l1, .ref l2], []⟩) (fun _ R s => s.heap.IsTuple l1 xs ∧ s.heap.IsList l2 ys ∧ R (.ok (.ret (.ref (zm4 s.heap l1 l2).objs.size))) { s with heap := zm5 s.heap l1 l2 }) :=
  .of_wp fun prog w A R s h => by
    obtain ⟨hp, g, d, tk, os⟩ := s
    obtain ⟨hl1, hl2, h⟩ := h
    have hsub := sub_zip
    have hL1 : Heap.IsTuple (Shared.heap ⟨hp, g, d, tk, os⟩) l1 xs := hl1
    have hL2 : Heap.IsList (Shared.heap ⟨hp.push { cls := .type "tuple_iterator", data := .fields #[.ref l1, .int 0 0] }, g, d, tk, os⟩) l2 ys := Heap.IsList.push hl2 _
    wp_walk using wpAny_pyIter_tuple hL1, wpAny_pyIter_list hL2
    exact ⟨_, rfl, h⟩
theorem call_zipM {l1 l2 : Addr} {xs ys : Array Value} {Q : Value → Shared → Prop} (hl1 : s.heap.IsTuple l1 xs) (hl2 : s.heap.IsList l2 ys)
    (h : ∀ h', IsZip h' (s.heap.objs.size + 4) (s.heap.objs.size + 2) (s.heap.objs.size + 3) .none → IsPair h' (s.heap.objs.size + 2) (.ref s.heap.objs.size) (.ref (s.heap.objs.size + 1)) →
      IsPair h' (s.heap.objs.size + 3) .none .none → h'.IsTupleIter s.heap.objs.size l1 0 → h'.IsListIter (s.heap.objs.size + 1) l2 0 →
      (∀ c o, s.heap.get? c = some o → h'.get? c = some o) → Q (.ref (s.heap.objs.size + 4)) { s with heap := h' }) :
    wpAny (model prog w) A (call (.type "zip") [.ref l1, .ref l2]) Q E s := by
  refine callType_new F.called_zip (by decide) (F.typeCall_zip_2 _ _) (F.newCall_zip_2 _ _) (fun obj => F.args_object_init_3 obj _ _) F.entry_zip_new (meets_zipM l1 l2 xs ys) ⟨hl1, hl2, ?_⟩
  have z1 : (zm1 s.heap l1).objs.size = s.heap.objs.size + 1 := Heap.size_push ..
  have z2 : (zm2 s.heap l1 l2).objs.size = s.heap.objs.size + 2 := by rw [Heap.size_push, z1]
  have z3 : (zm3 s.heap l1 l2).objs.size = s.heap.objs.size + 3 := by rw [Heap.size_push, z2]
  have z4 : (zm4 s.heap l1 l2).objs.size = s.heap.objs.size + 4 := by rw [Heap.size_push, z3]
  have g5 : (zm5 s.heap l1 l2).get? (zm4 s.heap l1 l2).objs.size = some _ := Heap.get?_push_size _ rfl
  have g4 : (zm5 s.heap l1 l2).get? (zm3 s.heap l1 l2).objs.size = some _ := Heap.get?_push_of_some _ (Heap.get?_push_size _ rfl)
  have g3 : (zm5 s.heap l1 l2).get? (zm2 s.heap l1 l2).objs.size = some _ := Heap.get?_push_of_some _ (Heap.get?_push_of_some _ (Heap.get?_push_size _ rfl))
  have g2 : (zm5 s.heap l1 l2).get? (zm1 s.heap l1).objs.size = some _ := Heap.get?_push_of_some _ (Heap.get?_push_of_some _ (Heap.get?_push_of_some _ (Heap.get?_push_size _ rfl)))
  have g1 : (zm5 s.heap l1 l2).get? s.heap.objs.size = some _ := Heap.get?_push_of_some _ (Heap.get?_push_of_some _ (Heap.get?_push_of_some _ (Heap.get?_push_of_some _ (Heap.get?_push_size _ rfl))))
  show _ ∧ _
  rw [z2, z3, z4] at g5
  rw [z1, z2] at g3
  rw [z3] at g4
  rw [z1] at g2
  rw [z4]
  exact ⟨⟨_, g5, rfl⟩, h _ g5 g3 g4 ⟨_, g1, rfl, rfl⟩ ⟨_, g2, rfl, rfl⟩ fun c o x =>
    Heap.get?_push_of_some _ (Heap.get?_push_of_some _ (Heap.get?_push_of_some _ (Heap.get?_push_of_some _ (Heap.get?_push_of_some _ x))))⟩
end
/-- zip of two lists, of two tuples, of a tuple and a list -/
def iZipB (K : PySem.W.Frag) (ta : TA) : TI := fun σ H R => ta σ H fun vs H1 => ∃ a b xs ys, vs = [.ref a, .ref b] ∧
  ((SqL K H1 a xs ∧ SqL K H1 b ys ∧ R (Itz K a b) H1) ∨ (SqT K H1 a xs ∧ SqT K H1 b ys ∧ R (ItzT K a b) H1) ∨ (SqT K H1 a xs ∧ SqL K H1 b ys ∧ R (ItzM K a b) H1))
theorem pi_zipB {X : Cx} {e e2 : Expr} {ta : TA} {p pos tpos : Pos} {elts : List Expr} {kk : Nat} (hg : Gl X "zip") (hm : X.mg "zip" = none) (ha : PA X [e, e2] ta)
    (hs : starEach [e, e2] X.env = (false, eval e X.env) :: starEach [e2] X.env := by rfl) (hpl : (backTo pos (starEach [e2] X.env)).any (·.1) = false := by rfl) :
    PI X (.Tuple elts kk tpos) (.Call (.Name "zip" p) [e, e2] [] pos) (iZipB X.K ta) := by
  refine ⟨fun pins s σ H R I h => ?_⟩
  refine Call_ (ld_blt I hg hm PyProof.Rows.boot_zip (PyProof.Rows.callWith_type1 (thn (ha.run pos pins s σ H _ I h) fun us s1 ⟨vs, H1, I1, r1, q1⟩ => ?_) hs hpl))
  obtain ⟨a, b, xs, ys, ex, q1⟩ := q1
  subst ex
  cases r1 with
  | cons r rr =>
    cases rr with
    | cons r' rr =>
      cases rr
      cases r
      cases r'
      have fresh5 : ∀ c, c ∈ [s1.heap.objs.size + 4, s1.heap.objs.size + 2, s1.heap.objs.size + 3, s1.heap.objs.size, s1.heap.objs.size + 1] → FpOk X pins H1 c := fun c hcm => by
        have e' : c = s1.heap.objs.size + 4 ∨ c = s1.heap.objs.size + 2 ∨ c = s1.heap.objs.size + 3 ∨ c = s1.heap.objs.size ∨ c = s1.heap.objs.size + 1 := by simpa using hcm
        have hle : s1.heap.objs.size ≤ c := by
          rcases e' with rfl | rfl | rfl | rfl | rfl <;> first | exact Nat.le_refl _ | exact Nat.le_add_right _ _
        exact I1.fpOk hle (I1.hok.fresh hle)
      rcases q1 with ⟨hqx, hqy, q⟩ | ⟨hqx, hqy, q⟩ | ⟨hqx, hqy, q⟩
      · obtain ⟨its, rv, p1, _⟩ := I1.list hqx
        obtain ⟨its2, rv2, p2, _⟩ := I1.list hqy
        refine call_zip_2 p1.isList p2.isList fun h' hz hTI hTO h1 h2 hsz hk => wpAny_pyIter_zip hz ?_
        exact ⟨s1.heap.objs.size + 4, _, _, _, H1, rfl, I1.kept (t' := s1.toks) hk, turn_zip (PySem.W.ktu_apart s1.heap.objs.size a b p1.lt p2.lt), ⟨hz, hTI, ⟨_, _, hTO⟩, h1, h2⟩, fresh5, q⟩
      · obtain ⟨its, rv, p1, _⟩ := I1.tuple hqx
        obtain ⟨its2, rv2, p2, _⟩ := I1.tuple hqy
        obtain ⟨o1, ho1, _⟩ := id p1
        obtain ⟨o2, ho2, _⟩ := id p2
        refine call_zipT (show s1.heap.IsTuple a its.toArray from p1) (show s1.heap.IsTuple b its2.toArray from p2) fun h' hz hTI hTO h1 h2 hsz hk => wpAny_pyIter_zip hz ?_
        exact ⟨s1.heap.objs.size + 4, _, _, _, H1, rfl, I1.kept (t' := s1.toks) hk, turn_zipT (PySem.W.ktu_apart s1.heap.objs.size a b (Heap.lt_size ho1) (Heap.lt_size ho2)), ⟨hz, hTI, ⟨_, _, hTO⟩, h1, h2⟩, fresh5, q⟩
      · obtain ⟨its, rv, p1, _⟩ := I1.tuple hqx
        obtain ⟨its2, rv2, p2, _⟩ := I1.list hqy
        obtain ⟨o1, ho1, _⟩ := id p1
        refine call_zipM (show s1.heap.IsTuple a its.toArray from p1) p2.isList fun h' hz hTI hTO h1 h2 hk => wpAny_pyIter_zip hz ?_
        exact ⟨s1.heap.objs.size + 4, _, _, _, H1, rfl, I1.kept (t' := s1.toks) hk, turn_zipM (PySem.W.ktu_apart s1.heap.objs.size a b (Heap.lt_size ho1) p2.lt), ⟨hz, hTI, ⟨_, _, hTO⟩, h1, h2⟩, fresh5, q⟩
theorem zipM_walk {K : PySem.W.Frag} {a b : Addr} {us ws : List V} {n : Nat} (hn : n = min us.length ws.length) : Walk (ItzM K a b) n (fun H => SqT K H a us ∧ SqL K H b ws) (YPair (fun i => us[i]?) (fun i => ws[i]?)) where
  goes := fun i H hi q => ⟨us, ws, _, _, q.1, q.2, List.getElem?_eq_getElem (show i < us.length by omega), List.getElem?_eq_getElem (show i < ws.length by omega)⟩
  stops := fun H q => ⟨us, ws, q.1, q.2, by omega⟩
  yields := fun i H v H' _ q ⟨p, x, y, e, hp, e2, f1, f2⟩ => ⟨p, x, y, e, hp, e2, f1 us q.1, f2 ws q.2⟩
end QL
namespace QL
open PySem L2 RZ

def iAny (K : PySem.W.Frag) (tl : TE) : TI := fun σ H R => tl σ H fun x H1 => (∃ a, x = .ref a ∧ (∃ xs, SqL K H1 a xs) ∧ R (Itl K a) H1) ∨ (∃ a, x = .ref a ∧ (∃ xs, SqT K H1 a xs) ∧ R (Itt K a) H1) ∨ ∃ z, x = .str z ∧ R (Its z) H1
theorem pi_any {X : Cx} {tg l : Expr} {tl : TE} (hl : PE X l tl) : PI X tg l (iAny X.K tl) := by
  refine ⟨fun pins s σ H R I h => ?_⟩
  refine thn (hl.run pins s σ H _ I h) fun v s1 ⟨x, H1, I1, r1, q1⟩ => ?_
  rcases q1 with ⟨a, e, ⟨xs, hq⟩, q⟩ | ⟨a, e, ⟨xs, hq⟩, q⟩ | ⟨z, ex, q⟩
  · subst e
    cases r1
    obtain ⟨its, rv, p, hz⟩ := I1.list hq
    refine wpAny_pyIter_list p.isList ?_
    refine ⟨s1.heap.objs.size, [s1.heap.objs.size], _, _, H1, rfl, I1.kept (t' := s1.toks) fun b o e => Heap.get?_push_of_some _ e, turn_list a _, ⟨_, Heap.get?_push_size _ rfl, rfl, rfl⟩, fun b hb => ?_, q⟩
    have e : b = s1.heap.objs.size := by simpa using hb
    subst e
    exact I1.fpOk (Nat.le_refl _) (I1.hok.fresh (Nat.le_refl _))
  · subst e
    cases r1
    obtain ⟨its, rv, p, hz⟩ := I1.tuple hq
    refine wpAny_pyIter_tuple (show s1.heap.IsTuple a its.toArray from p) ?_
    refine ⟨s1.heap.objs.size, [s1.heap.objs.size], _, _, H1, rfl, I1.kept (t' := s1.toks) fun b o e => Heap.get?_push_of_some _ e, turn_tuple a _, ⟨_, Heap.get?_push_size _ rfl, rfl, rfl⟩, fun b hb => ?_, q⟩
    have e : b = s1.heap.objs.size := by simpa using hb
    subst e
    exact I1.fpOk (Nat.le_refl _) (I1.hok.fresh (Nat.le_refl _))
  · subst ex
    obtain ⟨t, rfl⟩ := r1
    cases ha : z.cps.all (· < 128)
    · exact wpAny_pyIter_wide ha (pi_one (tk := s1.toks) I1 _ (turn_str _ z t "str_iterator" (.inr rfl)) ⟨_, Heap.get?_push_size _ rfl, rfl, rfl⟩ q)
    · exact wpAny_pyIter_ascii ha (pi_one (tk := s1.toks) I1 _ (turn_str _ z t "str_ascii_iterator" (.inl rfl)) ⟨_, Heap.get?_push_size _ rfl, rfl, rfl⟩ q)

section
variable {K : PySem.W.Frag} {ca : Ca} {F F' F1 H H' H1 : Hp} {O O' : Addr → Prop} {σ : L2.St} {env : En} {fp : Fp} {t : T} {v : V} {fv : List Addr} {ts : List T} {vs : List V} {md : List Nat}
/-- operands that may be walked: no owned slot -/
def Bop.still : Bop → Bool
  | .tmp _ => true
  | .br t _ => !t.ow
  | .io _ => false
def srcT (bs : List Bop) (env : En) : R (List T) := do
  let _ ← ck (bs.all Bop.still)
  argsT env bs
theorem reps_of {us : List V} : ∀ {ts : List T}, ts.length = us.length → (∀ (p : Nat) (t : T), ts[p]? = some t → ∃ v, us[p]? = some v ∧ Rep K ca F H t v []) → Reps K ca F H ts us [] := by
  induction us with
  | nil => intro ts hl _; have : ts = [] := List.length_eq_zero_iff.mp (by simpa using hl); subst this; simp only [Reps]; trivial
  | cons u us ih =>
    intro ts hl h
    cases ts with
    | nil => simp at hl
    | cons t ts =>
      obtain ⟨v, e, r⟩ := h 0 t rfl
      simp only [List.getElem?_cons_zero, Option.some.injEq] at e
      subst e
      simp only [Reps]
      exact ⟨u, us, [], [], rfl, r, ih (by simpa using hl) (fun p t e => by simpa using h (p + 1) t (by simpa using e)), rfl⟩
theorem srcT_ok {bs : List Bop} {ft : List Addr} (s : SR K ca F H σ env fp) (h : Ops K ca md F H σ fp bs vs ft) (n : ft.Nodup) (d : ∀ a ∈ ft, ¬ Ow fp a) (e : srcT bs env = .ok ts) :
    ∃ F2, Go F H (· ∈ ft) F2 H (fun _ => False) ∧ Reps K ca F2 H ts vs [] := by
  obtain ⟨_, c, e⟩ := bind_ok e
  have c := ck_ok c
  obtain ⟨B, hB1, hB2, hB3⟩ := Ops.args s h e
  have nob : bs.any Bop.bo = false := by
    rw [List.any_eq_false]
    intro b hb
    have := List.all_eq_true.mp c b hb
    cases b with
    | tmp t => simp [Bop.bo]
    | br t i => simpa [Bop.bo, Bop.still] using this
    | io i => simp [Bop.bo]
  have noio : ∀ i, Bop.io i ∉ bs := fun i hi => by
    have := List.all_eq_true.mp c _ hi
    simp [Bop.still] at this
  have hB := hB2 nob
  subst hB
  have al := h.alive
  have view : ∃ Fv : Hp, (∀ a, a ∈ ft → Fv a = H a) ∧ (∀ a, a ∉ ft → Fv a = F a) := by
    classical
    exact ⟨fun a => if a ∈ ft then H a else F a, fun a z => if_pos z, fun a z => if_neg z⟩
  obtain ⟨Fv, v1, v2⟩ := view
  have sv : Sub F Fv := fun a o ea => by
    by_cases z : a ∈ ft
    · rw [v1 a z]; exact s.sub a o ea
    · rw [v2 a z]; exact ea
  have svH : Sub Fv H := fun a o ea => by
    by_cases z : a ∈ ft
    · rw [v1 a z] at ea; exact ea
    · rw [v2 a z] at ea; exact s.sub a o ea
  obtain ⟨l1, l2, hr⟩ := hB3 Fv sv (fun a ha => absurd ha (by simp)) v1 (fun i hi => absurd hi (noio i))
  refine ⟨Fv, ⟨sv, svH, fun _ _ e _ => e, fun b e => ?_, fun _ z => z.elim⟩, reps_of (by rw [l1, l2]) fun p t et => ?_⟩
  · by_cases z : b ∈ ft
    · exact .inr (.inl z)
    · rw [v2 b z] at e; exact .inl e
  · obtain ⟨w, h1, h2⟩ := hr p t et
    refine ⟨w, h1, ?_⟩
    rcases h2 with ⟨i, h2, _⟩ | ⟨_, h2⟩
    · exact absurd (List.mem_of_getElem? h2) (noio i)
    · exact h2
/-- from operands to what is walked -/
theorem is_of {f : AM} {w : List T → R (List T)} {R : It → Hp → Prop} {Q : List V → Hp → Prop} (h : ISof K ca md (fun env => do
    let (bs, env1) ← f env
    let ts ← srcT bs env1
    let xs ← w ts
    .ok (xs, env1)) σ H R)
    (q : ∀ vs H' F' ts xs, Sub F' H' → Reps K ca F' H' ts vs [] → w ts = .ok xs → (∀ J, Iter K ca J xs F' → R J H') → Q vs H') : TAof K ca md f σ H Q := by
  obtain ⟨F, env, fp, xs, env', s, e, k⟩ := h
  obtain ⟨⟨bs, env1⟩, e1, ea⟩ := bind_ok e
  obtain ⟨ts, e2, eb⟩ := bind_ok ea
  obtain ⟨ys, e3, ec⟩ := bind_ok eb
  clear e ea eb
  cases ec
  refine ⟨F, env, fp, bs, env', s, e1, fun vs H1 F1 fp1 ft g1 k1 s1 o1 n1 d1 => ?_⟩
  obtain ⟨F2, g2, r2⟩ := srcT_ok s1 o1 n1 d1 e2
  have g12 : Go F H (OwM md fp) F2 H1 (OwM md fp1) := g1.trans g2 (fun a z => .inr z) fun a z => .inr (.inl z)
  exact q vs H1 F2 ts xs g2.sub r2 e3 fun J it => k J H1 F2 fp1 g12 k1 (s1.of_go g2 fun a z w => d1 a w z) it
def chars (z : Str) : List T := z.cps.toList.map fun c => .str ⟨#[c]⟩
def seqT : List T → R (List T)
  | [.str z] => .ok (chars z)
  | [x] => match x.seq with
    | some xs => .ok xs
    | none => stk
  | _ => stk
def iSeq (f : BM) : En → R (List T × En) := fun env => do
  let (bs, env1) ← aCons f aNil env
  let ts ← srcT bs env1
  let xs ← seqT ts
  .ok (xs, env1)
theorem reps_at {us : List V} {i : Nat} {x : T} (h : Reps K ca F H ts us []) (e : ts[i]? = some x) : ∃ u, us[i]? = some u ∧ Rep K ca F H x u [] := by
  obtain ⟨u, g, h1, h2, _, h4⟩ := Reps.at (i := i) h List.nodup_nil e
  have : g = [] := List.eq_nil_iff_forall_not_mem.mpr fun a ha => absurd (h4 a ha) (by simp)
  subst this
  exact ⟨u, h1, h2⟩
theorem iter_list {a : Addr} {us : List V} (hq : SqL K F a us) (h : Reps K ca F H ts us []) : Iter K ca (Itl K a) ts F := by
  refine ⟨_, _, (Reps.length h) ▸ walk_list (K := K) (a := a) (xs := us), fun H' s => s.sqL hq, fun i t F1 H1 x H2 et s1 s2 y => ?_⟩
  obtain ⟨e, y⟩ := y
  subst e
  obtain ⟨u, h1, h2⟩ := reps_at (i := i) h et
  rw [h1] at y
  cases y
  exact ⟨F1, Go.refl s2 fun _ z => z, Rep.go s1 t h2 (fun _ z => absurd z (by simp)) (fun _ z => absurd z (by simp))⟩
theorem iter_tup {a : Addr} {us : List V} (hq : SqT K F a us) (h : Reps K ca F H ts us []) : Iter K ca (Itt K a) ts F := by
  refine ⟨_, _, (Reps.length h) ▸ walk_tup (K := K) (a := a) (xs := us), fun H' s => s.sqT hq, fun i t F1 H1 x H2 et s1 s2 y => ?_⟩
  obtain ⟨e, y⟩ := y
  subst e
  obtain ⟨u, h1, h2⟩ := reps_at (i := i) h et
  rw [h1] at y
  cases y
  exact ⟨F1, Go.refl s2 fun _ z => z, Rep.go s1 t h2 (fun _ z => absurd z (by simp)) (fun _ z => absurd z (by simp))⟩
theorem iter_str {z : Str} : Iter K ca (Its z) (chars z) F := by
  have hl : (chars z).length = z.cps.size := by simp [chars]
  refine ⟨_, _, hl ▸ walk_str (z := z), fun H' s => trivial, fun i t F1 H1 x H2 et s1 s2 y => ?_⟩
  obtain ⟨e, c, hc, hx⟩ := y
  subst e hx
  have : t = .str ⟨#[c]⟩ := by
    simp only [chars, List.getElem?_map, Array.getElem?_toList, hc, Option.map_some, Option.some.injEq] at et
    exact et.symm
  subst this
  exact ⟨F1, Go.refl s2 fun _ z => z, rep_str⟩
/-- a frozen list or tuple in F itself -/
theorem Rep.seqF {xs : List T} (h : Rep K ca F H t v []) (e : t.seq = some xs) : ∃ a us, v = .ref a ∧ (SqL K F a us ∨ SqT K F a us) ∧ Reps K ca F H xs us [] := by
  cases t with
  | lst o ys =>
    cases e
    cases o with
    | true => simp only [Rep] at h; obtain ⟨a, us, g, _, _, _, _, h⟩ := h; cases h
    | false => simp only [Rep] at h; obtain ⟨a, us, h1, h2, h3, _⟩ := h; exact ⟨a, us, h1, .inl (SqL.of h2), h3⟩
  | lk ys =>
    cases e
    simp only [Rep] at h
    obtain ⟨a, us, h1, h2, h3, _⟩ := h
    exact ⟨a, us, h1, .inl h2, h3⟩
  | tup ys =>
    cases e
    simp only [Rep] at h
    obtain ⟨a, us, h1, h2, h3⟩ := h
    exact ⟨a, us, h1, .inr h2.t, h3⟩
  | _ => cases e
theorem is_seq {f : BM} {R : It → Hp → Prop} (h : ISof K ca md (iSeq f) σ H R) : iAny K (TBof K ca md f) σ H R := by
  have h1 : TAof K ca md (aCons f aNil) σ H (fun vs H1 => ∃ x, vs = [x] ∧ ((∃ a, x = .ref a ∧ (∃ xs, SqL K H1 a xs) ∧ R (Itl K a) H1) ∨ (∃ a, x = .ref a ∧ (∃ xs, SqT K H1 a xs) ∧ R (Itt K a) H1) ∨ ∃ z, x = .str z ∧ R (Its z) H1)) := by
    refine is_of h fun vs H' F' ts xs s r e q => ?_
    unfold seqT at e
    split at e
    · cases e
      obtain ⟨x, rfl, r1⟩ := reps1 r
      simp only [Rep] at r1
      exact ⟨x, rfl, .inr (.inr ⟨_, r1.1, q _ iter_str⟩)⟩
    · split at e
      · rename_i x ys hx
        cases e
        obtain ⟨x', rfl, r1⟩ := reps1 r
        obtain ⟨a, us, rfl, h1, h2⟩ := r1.seqF hx
        rcases h1 with h1 | h1
        · exact ⟨_, rfl, .inl ⟨a, rfl, ⟨us, s.sqL h1⟩, q _ (iter_list h1 h2)⟩⟩
        · exact ⟨_, rfl, .inr (.inl ⟨a, rfl, ⟨us, s.sqT h1⟩, q _ (iter_tup h1 h2)⟩)⟩
      · cases e
    · cases e
  exact ta_one (r := fun x H1 _ => (∃ a, x = .ref a ∧ (∃ xs, SqL K H1 a xs) ∧ R (Itl K a) H1) ∨ (∃ a, x = .ref a ∧ (∃ xs, SqT K H1 a xs) ∧ R (Itt K a) H1) ∨ ∃ z, x = .str z ∧ R (Its z) H1) (Q := fun _ _ => True) h1
def rngT (lo : Int) (n : Nat) : List T := (List.range n).map fun i => .int (lo + (i : Nat))
def rngC (lo c : Int) (n : Nat) : List T := (List.range n).map fun i => .int (lo + (i : Nat) * c)
def fitI (i : Int) : Bool := decide (-1000000000000 < i) && decide (i < 1000000000000)
theorem fitI_ok {i : Int} (h : fitI i = true) : -(2 ^ 62) ≤ i ∧ i < 2 ^ 62 := by
  unfold fitI at h
  simp only [Bool.and_eq_true, decide_eq_true_eq] at h
  omega
def rng1 : List T → R (List T)
  | [.int j] => do
    let _ ← ck (fitI j)
    .ok (rngT 0 j.toNat)
  | _ => stk
def rng2 : List T → R (List T)
  | [.int i, .int j] => do
    let _ ← ck (fitI i && fitI j)
    .ok (rngT i (j - i).toNat)
  | _ => stk
def rng3 : List T → R (List T)
  | [.int i, .int j, .int c] => do
    let _ ← ck (Builtin.Range.small i j c && (decide (c ≠ 0) && decide (c.natAbs < 1073741824)))
    .ok (rngC i c (Builtin.Range.rangeSize i j c).toNat)
  | _ => stk
def iRng (w : List T → R (List T)) (f : AM) : En → R (List T × En) := fun env => do
  let (bs, env1) ← f env
  let ts ← srcT bs env1
  let xs ← w ts
  .ok (xs, env1)
theorem iter_rng {lo : Int} {n : Nat} : Iter K ca (Itr lo n) (rngT lo n) F := by
  have hl : (rngT lo n).length = n := by simp [rngT]
  refine ⟨_, _, by rw [hl]; exact walk_range, fun H' s => trivial, fun i t F1 H1 x H2 et s1 s2 y => ?_⟩
  obtain ⟨e, y⟩ := y
  subst e y
  have hi : i < n := by
    have := (List.getElem?_eq_some_iff.mp et).1
    rw [hl] at this
    exact this
  have : t = .int (lo + (i : Nat)) := by
    simp [rngT, List.getElem?_map, List.getElem?_range hi] at et
    exact et.symm
  subst this
  exact ⟨F1, Go.refl s2 fun _ z => z, rep_int⟩
theorem is_rng1 {f : AM} {R : It → Hp → Prop} (h : ISof K ca md (iRng rng1 f) σ H R) : iRng1 (TAof K ca md f) σ H R := by
  refine is_of h fun vs H' F' ts xs s r e q => ?_
  unfold rng1 at e
  split at e
  · obtain ⟨_, c, e⟩ := bind_ok e
    cases e
    obtain ⟨x, rfl, r1⟩ := reps1 r
    simp only [Rep] at r1
    obtain ⟨h1, h2⟩ := fitI_ok (ck_ok c)
    exact ⟨_, by rw [r1.1], h1, h2, q _ iter_rng⟩
  · cases e
def enumT : Nat → List T → List T
  | _, [] => []
  | n, x :: xs => .pr [.int n, x] :: enumT (n + 1) xs
def zipT : List T → List T → List T
  | x :: xs, y :: ys => .pr [x, y] :: zipT xs ys
  | _, _ => []
theorem enumT_length : ∀ {n : Nat} {xs : List T}, (enumT n xs).length = xs.length
  | _, [] => rfl
  | n, x :: xs => by simp [enumT, enumT_length]
theorem enumT_get : ∀ {n : Nat} {xs : List T} {i : Nat}, (enumT n xs)[i]? = (xs[i]?).map fun x => .pr [.int ((n + i : Nat) : Int), x]
  | n, [], i => by simp [enumT]
  | n, x :: xs, 0 => by simp [enumT]
  | n, x :: xs, i + 1 => by
    simp only [enumT, List.getElem?_cons_succ]
    rw [enumT_get]
    congr 1
    funext y
    congr 4
    omega
theorem zipT_length : ∀ {xs ys : List T}, (zipT xs ys).length = min xs.length ys.length
  | [], _ => by simp [zipT]
  | _ :: _, [] => by simp [zipT]
  | x :: xs, y :: ys => by simp only [zipT, List.length_cons, zipT_length]; omega
theorem zipT_get : ∀ {xs ys : List T} {i : Nat} {t : T}, (zipT xs ys)[i]? = some t → ∃ x y, xs[i]? = some x ∧ ys[i]? = some y ∧ t = .pr [x, y]
  | [], _, i, t, h => by simp [zipT] at h
  | _ :: _, [], i, t, h => by simp [zipT] at h
  | x :: xs, y :: ys, 0, t, h => by simp [zipT] at h; exact ⟨x, y, rfl, rfl, h.symm⟩
  | x :: xs, y :: ys, i + 1, t, h => by
    simp only [zipT, List.getElem?_cons_succ] at h
    obtain ⟨a, b, h1, h2, h3⟩ := zipT_get h
    exact ⟨a, b, h1, h2, h3⟩
/-- a new pair as it is given -/
theorem pair_new {x y : T} {a b : V} {p : Addr} {F1 H1 : Hp} (s : Sub F1 H1) (hp : H1 p = none) (rx : Rep K ca F1 H1 x a []) (ry : Rep K ca F1 H1 y b []) :
    ∃ F2, Go F1 H1 (fun _ => False) F2 (upd H1 p (.tup [a, b])) (fun _ => False) ∧ Rep K ca F2 (upd H1 p (.tup [a, b])) (.pr [x, y]) (.ref p) [] := by
  have g : Go F1 H1 (fun _ => False) (upd F1 p (.tup [a, b])) (upd H1 p (.tup [a, b])) (fun _ => False) := Go.newF s hp fun _ z => z.elim
  refine ⟨_, g, ?_⟩
  simp only [Rep, Reps]
  exact ⟨p, [a, b], rfl, SqT.of upd_same, a, [b], [], [], rfl, rx.of_go g fun _ z => absurd z (by simp), ⟨b, [], [], [], rfl, ry.of_go g fun _ z => absurd z (by simp), ⟨rfl, rfl⟩, rfl⟩, rfl⟩
def enm : List T → R (List T)
  | [.lst _ xs] => .ok (enumT 0 xs)
  | _ => stk
def zp : List T → R (List T)
  | [.lst _ xs, .lst _ ys] => .ok (zipT xs ys)
  | [.tup xs, .tup ys] => .ok (zipT xs ys)
  | [.tup xs, .lst _ ys] => .ok (zipT xs ys)
  | _ => stk
theorem lstF {o : Bool} {xs : List T} (h : Rep K ca F H (.lst o xs) v []) : ∃ a us, v = .ref a ∧ SqL K F a us ∧ Reps K ca F H xs us [] := by
  cases o with
  | true => simp only [Rep] at h; obtain ⟨a, us, g, _, _, _, _, h⟩ := h; cases h
  | false => simp only [Rep] at h; obtain ⟨a, us, h1, h2, h3, _⟩ := h; exact ⟨a, us, h1, SqL.of h2, h3⟩
theorem iter_enum {a : Addr} {us : List V} (hq : SqL K F a us) (h : Reps K ca F H ts us []) : Iter K ca (Ite K a) (enumT 0 ts) F := by
  refine ⟨_, _, by rw [enumT_length, ← Reps.length h]; exact walk_enum (K := K) (a := a) (xs := us), fun H' s => s.sqL hq, fun i t F1 H1 x H2 et s1 s2 y => ?_⟩
  obtain ⟨p, a', b', rfl, hp, rfl, h1, h2⟩ := y
  cases h1
  rw [enumT_get] at et
  obtain ⟨z, hz, rfl⟩ := Option.map_eq_some_iff.mp et
  obtain ⟨u, h3, h4⟩ := reps_at (i := i) h hz
  have h2 : us[i]? = some b' := h2
  rw [h3] at h2
  cases h2
  have := pair_new (x := .int ((0 + i : Nat) : Int)) (a := .int (i : Nat)) s2 hp (by rw [Nat.zero_add]; exact rep_int) (Rep.go s1 z h4 (fun _ z => absurd z (by simp)) (fun _ z => absurd z (by simp)))
  exact this
theorem iter_zip {a b : Addr} {us ws : List V} {ys : List T} (hq : SqL K F a us) (hw : SqL K F b ws) (h : Reps K ca F H ts us []) (h' : Reps K ca F H ys ws []) : Iter K ca (Itz K a b) (zipT ts ys) F := by
  refine ⟨_, _, walk_zip (K := K) (a := a) (b := b) (xs := us) (ys := ws) (by rw [zipT_length, Reps.length h, Reps.length h']), fun H' s => ⟨s.sqL hq, s.sqL hw⟩, fun i t F1 H1 x H2 et s1 s2 y => ?_⟩
  obtain ⟨p, a', b', rfl, hp, rfl, h1, h2⟩ := y
  have h1 : us[i]? = some a' := h1
  have h2 : ws[i]? = some b' := h2
  obtain ⟨z1, z2, e1, e2, rfl⟩ := zipT_get et
  obtain ⟨u1, h3, h4⟩ := reps_at (i := i) h e1
  obtain ⟨u2, h5, h6⟩ := reps_at (i := i) h' e2
  rw [h3] at h1
  rw [h5] at h2
  cases h1
  cases h2
  exact pair_new s2 hp (Rep.go s1 z1 h4 (fun _ z => absurd z (by simp)) (fun _ z => absurd z (by simp))) (Rep.go s1 z2 h6 (fun _ z => absurd z (by simp)) (fun _ z => absurd z (by simp)))
theorem zipT_walk {a b : Addr} {us ws : List V} {n : Nat} (hn : n = min us.length ws.length) : Walk (ItzT K a b) n (fun H => SqT K H a us ∧ SqT K H b ws) (YPair (fun i => us[i]?) (fun i => ws[i]?)) where
  goes := fun i H hi q => ⟨us, ws, _, _, q.1, q.2, List.getElem?_eq_getElem (show i < us.length by omega), List.getElem?_eq_getElem (show i < ws.length by omega)⟩
  stops := fun H q => ⟨us, ws, q.1, q.2, by omega⟩
  yields := fun i H v H' _ q ⟨p, x, y, e, hp, e2, f1, f2⟩ => ⟨p, x, y, e, hp, e2, f1 us q.1, f2 ws q.2⟩
theorem iter_zipTup {a b : Addr} {us ws : List V} {ys : List T} (hq : SqT K F a us) (hw : SqT K F b ws) (h : Reps K ca F H ts us []) (h' : Reps K ca F H ys ws []) : Iter K ca (ItzT K a b) (zipT ts ys) F := by
  refine ⟨_, _, zipT_walk (K := K) (a := a) (b := b) (us := us) (ws := ws) (by rw [zipT_length, Reps.length h, Reps.length h']), fun H' s => ⟨s.sqT hq, s.sqT hw⟩, fun i t F1 H1 x H2 et s1 s2 y => ?_⟩
  obtain ⟨p, a', b', rfl, hp, rfl, h1, h2⟩ := y
  have h1 : us[i]? = some a' := h1
  have h2 : ws[i]? = some b' := h2
  obtain ⟨z1, z2, e1, e2, rfl⟩ := zipT_get et
  obtain ⟨u1, h3, h4⟩ := reps_at (i := i) h e1
  obtain ⟨u2, h5, h6⟩ := reps_at (i := i) h' e2
  rw [h3] at h1
  rw [h5] at h2
  cases h1
  cases h2
  exact pair_new s2 hp (Rep.go s1 z1 h4 (fun _ z => absurd z (by simp)) (fun _ z => absurd z (by simp))) (Rep.go s1 z2 h6 (fun _ z => absurd z (by simp)) (fun _ z => absurd z (by simp)))
theorem iter_zipM {a b : Addr} {us ws : List V} {ys : List T} (hq : SqT K F a us) (hw : SqL K F b ws) (h : Reps K ca F H ts us []) (h' : Reps K ca F H ys ws []) : Iter K ca (ItzM K a b) (zipT ts ys) F := by
  refine ⟨_, _, zipM_walk (K := K) (a := a) (b := b) (us := us) (ws := ws) (by rw [zipT_length, Reps.length h, Reps.length h']), fun H' s => ⟨s.sqT hq, s.sqL hw⟩, fun i t F1 H1 x H2 et s1 s2 y => ?_⟩
  obtain ⟨p, a', b', rfl, hp, rfl, h1, h2⟩ := y
  have h1 : us[i]? = some a' := h1
  have h2 : ws[i]? = some b' := h2
  obtain ⟨z1, z2, e1, e2, rfl⟩ := zipT_get et
  obtain ⟨u1, h3, h4⟩ := reps_at (i := i) h e1
  obtain ⟨u2, h5, h6⟩ := reps_at (i := i) h' e2
  rw [h3] at h1
  rw [h5] at h2
  cases h1
  cases h2
  exact pair_new s2 hp (Rep.go s1 z1 h4 (fun _ z => absurd z (by simp)) (fun _ z => absurd z (by simp))) (Rep.go s1 z2 h6 (fun _ z => absurd z (by simp)) (fun _ z => absurd z (by simp)))
theorem is_enum {f : AM} {R : It → Hp → Prop} (h : ISof K ca md (iRng enm f) σ H R) : iEnum K (TAof K ca md f) σ H R := by
  refine is_of h fun vs H' F' ts xs s r e q => ?_
  unfold enm at e
  split at e
  · cases e
    obtain ⟨x, rfl, r1⟩ := reps1 r
    obtain ⟨a, us, rfl, h1, h2⟩ := lstF r1
    exact ⟨a, us, rfl, s.sqL h1, q _ (iter_enum h1 h2)⟩
  · cases e
theorem is_zip {f : AM} {R : It → Hp → Prop} (h : ISof K ca md (iRng zp f) σ H R) : iZipB K (TAof K ca md f) σ H R := by
  refine is_of h fun vs H' F' ts xs s r e q => ?_
  unfold zp at e
  split at e
  · cases e
    obtain ⟨x, y, f1, f2, rfl, r1, r2, e0⟩ := reps2 r
    have e1 : f1 = [] := (List.append_eq_nil_iff.mp e0.symm).1
    have e2 : f2 = [] := (List.append_eq_nil_iff.mp e0.symm).2
    subst e1 e2
    obtain ⟨a, us, rfl, h1, h2⟩ := lstF r1
    obtain ⟨b, ws, rfl, h3, h4⟩ := lstF r2
    exact ⟨a, b, us, ws, rfl, .inl ⟨s.sqL h1, s.sqL h3, q _ (iter_zip h1 h3 h2 h4)⟩⟩
  · cases e
    obtain ⟨x, y, f1, f2, rfl, r1, r2, e0⟩ := reps2 r
    have e1 : f1 = [] := (List.append_eq_nil_iff.mp e0.symm).1
    have e2 : f2 = [] := (List.append_eq_nil_iff.mp e0.symm).2
    subst e1 e2
    simp only [Rep] at r1 r2
    obtain ⟨a, us, rfl, h1, h2⟩ := r1
    obtain ⟨b, ws, rfl, h3, h4⟩ := r2
    exact ⟨a, b, us, ws, rfl, .inr (.inl ⟨s.sqT h1.t, s.sqT h3.t, q _ (iter_zipTup h1.t h3.t h2 h4)⟩)⟩
  · cases e
    obtain ⟨x, y, f1, f2, rfl, r1, r2, e0⟩ := reps2 r
    have e1 : f1 = [] := (List.append_eq_nil_iff.mp e0.symm).1
    have e2 : f2 = [] := (List.append_eq_nil_iff.mp e0.symm).2
    subst e1 e2
    simp only [Rep] at r1
    obtain ⟨a, us, rfl, h1, h2⟩ := r1
    obtain ⟨b, ws, rfl, h3, h4⟩ := lstF r2
    exact ⟨a, b, us, ws, rfl, .inr (.inr ⟨s.sqT h1.t, s.sqL h3, q _ (iter_zipM h1.t h3 h2 h4)⟩)⟩
  · cases e

def sSetIx (i : Nat) (fv fi : EM) : SM := fun env => do
  let (x, env1) ← fv env
  let (j, env2) ← fi env1
  let j ← toI j
  match T.at env2 i with
  | some (.lst true xs) => do
    let _ ← ck (!T.owl xs && (!x.ow && T.isLst ((T.at env1 i).getD .non)))
    match ixN xs.length j with
    | some n => .ok (.nx, env2.set i (some (.lst true (xs.set n x))))
    | none => stk
  | _ => stk
theorem Reps.set {x : T} {u : V} (hx : Rep K ca F H x u []) : ∀ {ts : List T} {us : List V} (n : Nat), Reps K ca F H ts us [] → Reps K ca F H (ts.set n x) (us.set n u) []
  | [], _, n, h => by simp only [Reps] at h; rw [h.1]; simp [Reps]
  | t :: ts, _, 0, h => by
    simp only [Reps] at h
    obtain ⟨v, us, f, g, rfl, r, rs, e⟩ := h
    have e2 : g = [] := (List.append_eq_nil_iff.mp e.symm).2
    subst e2
    simp only [List.set_cons_zero, Reps]
    exact ⟨u, us, [], [], rfl, hx, rs, rfl⟩
  | t :: ts, _, n + 1, h => by
    simp only [Reps] at h
    obtain ⟨v, us, f, g, rfl, r, rs, e⟩ := h
    have e1 : f = [] := (List.append_eq_nil_iff.mp e.symm).1
    have e2 : g = [] := (List.append_eq_nil_iff.mp e.symm).2
    subst e1 e2
    simp only [List.set_cons_succ, Reps]
    exact ⟨v, us.set n u, [], [], rfl, r, Reps.set hx n rs, rfl⟩
theorem ts_setIx {pn : List Nat} {i : Nat} {f g : EM} {D : Ends} (hi : i ∉ md) (h : TSof K ca pn (sSetIx i f g) D σ H) : tAsg (TEof K ca md f) (gSub (tVar i) (TEof K ca md g) rSetL) D σ H := by
  obtain ⟨F, env, fp, fl, env', s, e, k⟩ := h
  obtain ⟨⟨x, env1⟩, e1, ea⟩ := bind_ok e
  obtain ⟨⟨j, env2⟩, e2, eb⟩ := bind_ok ea
  obtain ⟨jj, e3, ec⟩ := bind_ok eb
  clear e ea eb
  have := toI_ok e3
  subst this
  cases h2 : T.at env2 i with
  | none => simp only [h2] at ec; cases ec
  | some t2 =>
    simp only [h2] at ec
    cases t2 with
    | lst o xs =>
      cases o with
      | false => cases ec
      | true =>
        obtain ⟨_, c, ed⟩ := bind_ok ec
        have c := ck_ok c
        simp only [Bool.and_eq_true, Bool.not_eq_true'] at c
        cases hn : ixN xs.length jj with
        | none => simp only [hn] at ed; cases ed
        | some n =>
          simp only [hn] at ed
          cases ed
          refine ⟨F, env, fp, x, env1, s, e1, fun v H1 F1 fp1 fv g1 k1 s1 m1 => ?_⟩
          -- the slot
          cases h1 : T.at env1 i with
          | none => rw [h1] at c; exact absurd c.2.2 (by simp [T.isLst])
          | some t1 =>
            obtain ⟨w, hw, r1⟩ := s1.slot i t1 (T.at_some h1)
            refine ⟨w, hw, F1, env1, fp1, .int jj, env2, s1, e2, fun v2 H2 F2 fp2 fv2 g2 k2 s2 m2 => ?_⟩
            obtain ⟨rfl, rfl⟩ := m2.int
            obtain ⟨w2, hw2, r2⟩ := s2.slot i _ (T.at_some h2)
            rw [hw] at hw2
            cases hw2
            have hfv := Rep.pure_fp x c.2.1 m1.rep
            subst hfv
            have rx := m1.rep.of_go g2.nilr (fun _ z => absurd z (by simp))
            simp only [Rep] at r2
            obtain ⟨a, us, gg, rfl, h3, h4, h5, h6⟩ := r2
            have hgg := Reps.pure_fp xs c.1 h5
            subst hgg
            refine ⟨a, us, jj, n, rfl, rfl, h3, by rw [Reps.length h5]; exact hn, ?_⟩
            have ga : Go F2 H2 (fun b => b ∈ fp2 i ∨ b ∈ ([] : List Addr)) F2 (upd H2 a (.lst (us.set n v))) (fun b => b ∈ [a] ∨ b ∈ ([] : List Addr)) := Go.write s2.sub (.inl (by rw [h6]; exact List.mem_cons_self)) h4 fun b z => .inl (.inl (by rw [h6]; exact z.elim id (fun w => absurd w (by simp))))
            have rN : Rep K ca F2 (upd H2 a (.lst (us.set n v))) (.lst true (xs.set n x)) (.ref a) [a] := by
              simp only [Rep]
              refine ⟨a, us.set n v, [], rfl, upd_same, h4, ?_, rfl⟩
              have gw : Go F2 H2 (· = a) F2 (upd H2 a (.lst (us.set n v))) (fun _ => False) := Go.write s2.sub rfl h4 fun _ z => z.elim
              exact (Reps.set rx n h5).of_go gw fun _ z => absurd z (by simp)
            obtain ⟨sP, _⟩ := s2.replace hw ga (fun _ z => absurd z (by simp)) rN (by simp) (fun _ z => absurd z (by simp))
            have g12 := ((g1.nilr).full0 k1).trans ((g2.nilr).full0 k2) (fun _ z => z) (P := Ow fp2) fun _ z => .inl z
            refine k σ _ F2 (fpSet fp2 i [a]) (g12.trans ga (fun b z => z.elim (fun z => ⟨i, z⟩) (fun z => absurd z (by simp))) fun b z => ?_) sP Pin.refl
            rcases ow_fpSet z with z | z
            · exact .inr z
            · exact .inl (.inl z)
    | _ => cases ec
def sAug (i : Nat) (f : EM) : SM := fun env => do
  let a ← toI ((T.at env i).getD .non)
  let (y, env1) ← f env
  let j ← toI y
  .ok (.nx, env1.set i (some (.int (a + j))))
end
end QL
namespace QL
open PySem L2 RZ PyProof.Rows

structure RoomG (k : Nat) (A : Around) : Prop extends L2.Room k A where
  gd : A.guards = some []
namespace RoomG
variable {j k : Nat} {A : Around}
theorem mono (r : RoomG k A) (h : j ≤ k) : RoomG j A := ⟨r.toRoom.mono h, r.gd⟩
theorem deeper (r : RoomG (k + 1) A) (env : Env) : RoomG k (A.deeper env) := ⟨r.toRoom.deeper env, r.gd⟩
theorem make (r : RoomG (k + 1) A) (C : Addr) (us : List Value) (kw : List (Str × Value)) : RoomG k (A.under (.builtin "type.__call__" ⟨.ref C :: us, kw⟩)) := by
  refine ⟨r.toRoom.make C us kw, ?_⟩
  have e : (Code.builtin "type.__call__" ⟨.ref C :: us, kw⟩).isGuard = false := by show guardIds.contains "type.__call__" = false; decide +kernel
  unfold Around.under Code.guards
  rw [e]
  exact r.gd
end RoomG
theorem callerG {k : Nat} (h : L2.Room k callerA) : RoomG k callerA := ⟨h, rfl⟩

/-- as FnOk, of such surroundings alone, and none lets an exception out -/
structure FnG (P : Program) (w : World) (K : PySem.W.Frag) (mg : Str → Option Value) (base : Heap) (k : Nat) (f : Addr) (fd : FuncData) (ps : List Str) (sp : Sp) : Prop where
  len : ∀ vs H Q E, sp vs H Q E → vs.length = ps.length
  run : ∀ (A : Around) (outer : List Env) (s : Shared) (H : Hp) (args : Args) (us : List Value) (vs : List V) (Q : VK) (E : XK), RoomG k A → Env0 P w K mg base A outer s H → BindsTo s fd args (ps.zip us) → Vals vs us → sp vs H Q E →
    codeAny (model P w) A (.call (.ref f) args) (CR CX0 outer P w H s Q E) s
section
variable {P : Program} {w : World} {K : PySem.W.Frag} {mg : Str → Option Value} {base : Heap} {k : Nat} {f : Addr} {fd : FuncData} {ps : List Str} {sp : Sp}
theorem FnG.mono {j : Nat} (F : FnG P w K mg base j f fd ps sp) (h : j ≤ k) : FnG P w K mg base k f fd ps sp := ⟨F.len, fun A o s H a us vs Q E r => F.run A o s H a us vs Q E (r.mono h)⟩
/-- a def of the text, by its body -/
theorem FnG.by_body {x qual : Str} {params : Arguments} {body : List Stmt} {scope : Scope} {N : List Str} (F : FunD K x qual params body scope [] [] f fd) (S : FnScope N ps scope) (len : ∀ vs H Q E, sp vs H Q E → vs.length = ps.length)
    (hbody : ∀ (cdv : Value) (A : Around) (outer : List Env) (s : Shared) (H : Hp) (vs : List V) (Q : VK) (E : XK), RoomG k (A.deeper (envOfC qual scope s.heap.objs.size f cdv)) → sp vs H Q E →
      ∃ t, PSs (cxOf CX0 P w K mg base N qual scope f cdv A outer s H E) body t ∧ t { nx := fun _ H' => Q .non H', rt := Q } (start N vs) H) : FnG P w K mg base (k + 1) f fd ps sp := by
  obtain ⟨oc, od, dV, kV, doc, pm, an, cdv, ct, osl, rfl, lk, hcd, _, _⟩ := F.ex
  refine ⟨len, fun A outer s H args us vs Q E hr e0 hb r q => ?_⟩
  have kin : K.In s.heap := e0.mod.kin.keeps fun b o e => (e0.bs b o e).1
  -- the parameters stand in the frame or in cells
  have kinds : ∀ y ∈ ps.zip us, scope.names.lookup y.1 = some .local ∨ (scope.names.lookup y.1 = some .cell ∧ ((cellsFrom (s.heap.objs.size + 1) scope.names []).lookup y.1).isSome = true) := by
    rintro ⟨y, u⟩ hy
    refine (S.par y (List.of_mem_zip hy).1).imp id fun z => ⟨z, PySem.W.cellsFrom_some _ _ _ (.inl z)⟩
  refine codeAny_call_function hr.depth (kin _ _ lk) rfl S.co S.gen rfl (PySem.W.codeRec_of kin hcd) (hb _ _ _ _ (wpAny_newFunctionEnv_cells S.kind kinds ?_))
  rintro env rfl s1 st
  have lim : s1.heap.NoLimit := (e0.mod.nolimit.keeps fun b o e => (e0.bs b o e).1).keeps st.toInCall.keep
  refine ⟨lim, codeAny_func ?_⟩
  obtain ⟨t, ht, ht2⟩ := hbody cdv A outer s H vs Q E (hr.deeper _) q
  have I1 := inv_start (CX := CX0) (cd := cdv) (qual := qual) (E := E) S hr.hd e0 (len _ _ _ _ q) r st
  refine wpAny_mono (ht.run [] s1 (start N vs) H _ I1 ht2) ?_ fun _ _ z => z
  intro fl s2 z
  cases fl with
  | next => obtain ⟨_, H2, J, w⟩ := z; exact ⟨.non, H2, J.os, J.bare, J.base, J.hok, rfl, w⟩
  | ret u => obtain ⟨v, _, H2, J, rv, w⟩ := z; exact ⟨v, H2, J.os, J.bare, J.base, J.hok, rv, w⟩
  | brk => obtain ⟨_, _, _, w⟩ := z; exact w.elim
  | cont => obtain ⟨_, _, _, w⟩ := z; exact w.elim
end
/-- the function at f answers as sp says, from this body -/
def Ans (X : Cx) (f : Addr) (sp : Sp) : Prop := ∀ (pins : List (Addr × Obj)) (σ : L2.St) (H : Hp) (s : Shared) (Q : VK) (vs : List V) (us : List Value), Inv X pins σ H s → Vals vs us → sp vs H Q E0 → wpAny (model X.prog X.w) X.A (call (.ref f) us) (EP X pins σ Q) X.xe s
theorem back_of {X : Cx} {pins : List (Addr × Obj)} {σ : L2.St} {H : Hp} {s s' : Shared} {Q : VK} {E : XK} {r : Result} (I : Inv X pins σ H s) (h : CR CX0 X.stack X.prog X.w H s Q E r s') :
    ∃ u, r = .ok (.ret u) ∧ EP X pins σ Q u s' := by
  match r, h with
  | .ok (.ret u), h => exact ⟨u, rfl, I.after h⟩
  | .error _, h => exact h.elim
section
variable {X : Cx} {k : Nat} {f C : Addr} {fd : FuncData} {ps : List Str} {sp : Sp} {x m : Str} {p pos apos : Pos} {e o : Expr} {es : List Expr} {to : TE} {t : TA}
theorem FnG.ans (F : FnG X.prog X.w X.K X.mg X.base k f fd ps sp) (hr : RoomG k X.A) (hb : Binds X.K fd ps []) : Ans X f sp := by
  intro pins σ H s Q vs us I r q
  have hl : (us ++ []).length = ps.length := by rw [List.append_nil, ← r.length, F.len _ _ _ _ q]
  have b := hb s us I.kIn hl
  rw [List.append_nil] at b
  refine wpAny_call (codeAny_mono (F.run X.A X.stack s H ⟨us, []⟩ us vs Q E0 hr I.env0 b r q) fun z s' h => ?_)
  obtain ⟨u, rfl, h2⟩ := back_of I h
  exact h2
theorem g_call (F : Ans X f sp) (hg : Gl X x) (hm : X.mg x = some (.ref f)) (hk : PySem.W.keepIn X.K (.ref f) = true) (ha : PA X (e :: es) t) (hdb : (x == ("__debug__" : Str)) = false) (he : starEach (e :: es) X.env = (false, eval e X.env) :: starEach es X.env) (hpl : (backTo pos (starEach es X.env)).any (·.1) = false) :
    PE X (.Call (.Name x p) (e :: es) [] pos) (tCall sp [] E0 t) where
  run := fun pins s σ H Q I h => wpAny_Call_Name_kw (ld_glob I hg hm (PySem.W.callWith_K I.ok.mod.kin hk (thn (ha.run pos pins s σ H _ I h) fun us s1 ⟨vs, H1, I1, r, q⟩ => ⟨I1.kIn, F pins σ H1 s1 Q vs us I1 r (by simpa only [List.append_nil] using q)⟩) he hpl) hdb)
theorem g_meth {pl : Sem Bool} (ho : PE X o to) (hC : Cls X.K C) (hm : Meth X.K C m f) (F : Ans X f sp) (ha : PA X (e :: es) t) (hst : starEach (e :: es) X.env = (false, eval e X.env) :: starEach es X.env) (hpl : (backTo pos (starEach es X.env)).any (·.1) = false)
    (ht : eval (.Call (.Attribute o m apos) (e :: es) [] pos) X.env = (do
      let ov ← eval o X.env
      standAt apos.atName
      let (f, first) ← holding [ov] (getMethod ov m pl)
      callWith pos f first (backTo pos (starEach (e :: es) X.env)) (backToKw pos (keywordEach [] X.env)))) :
    PE X (.Call (.Attribute o m apos) (e :: es) [] pos) (tMeth C m sp [] E0 to t) where
  run := by
    intro pins s σ H Q I h
    refine PySem.W.methodCall_KW (pl := pl) (thn (ho.run pins s σ H _ I h) ?_) ht
    rintro u s1 ⟨_, H1, I1, ru, a, dx, fs, rfl, ea, hl, q⟩
    cases ru
    refine getmeth_ok I1 ea hC hm hl (PySem.W.callWith_K (first := [.ref a]) I1.ok.mod.kin hm.kp (thn (ha.run pos pins s1 σ H1 _ I1 q) fun us s2 ⟨vs, H2, I2, r, q2⟩ => ⟨I2.kIn, ?_⟩) hst hpl)
    have q2 : sp (.ref a :: (vs ++ [])) H2 Q E0 := q2
    rw [List.append_nil] at q2
    exact F pins σ H2 s2 Q (.ref a :: vs) (.ref a :: us) I2 (.cons rfl r) q2
theorem g_meth0 {pl : Sem Bool} (ho : PE X o to) (hC : Cls X.K C) (hm : Meth X.K C m f) (F : Ans X f sp)
    (ht : eval (.Call (.Attribute o m apos) [] [] pos) X.env = (do
      let ov ← eval o X.env
      standAt apos.atName
      let (f, first) ← holding [ov] (getMethod ov m pl)
      callWith pos f first (backTo pos (starEach [] X.env)) (backToKw pos (keywordEach [] X.env)))) :
    PE X (.Call (.Attribute o m apos) [] [] pos) (tMeth C m sp [] E0 to tNil) where
  run := by
    intro pins s σ H Q I h
    refine PySem.W.methodCall_KW (pl := pl) (thn (ho.run pins s σ H _ I h) ?_) ht
    rintro u s1 ⟨_, H1, I1, ru, a, dx, fs, rfl, ea, hl, q⟩
    cases ru
    exact getmeth_ok I1 ea hC hm hl (PySem.W.callWith_K0 (first := [.ref a]) I1.kIn hm.kp (F pins σ H1 s1 Q [.ref a] [.ref a] I1 (.cons rfl .nil) q))
/-- a new instance, its __init__ asked -/
def AnsM (X : Cx) (C : Addr) (sp : Sp) : Prop := ∀ (pins : List (Addr × Obj)) (σ : L2.St) (H : Hp) (s : Shared) (Q : VK) (vs : List V) (us : List Value), Inv X pins σ H s → Vals vs us →
  (∀ x dx, H x = none → H dx = none → dx ≠ x → sp (.ref x :: vs) (upd (upd H dx (.own x)) x (.ins C dx [])) (fun v H2 => v = .non ∧ Q (.ref x) H2) E0) → wpAny (model X.prog X.w) X.A (call (.ref C) us) (EP X pins σ Q) X.xe s
/-- the law is asked of a script's list: asked where nothing is around it -/
theorem lawG_call {P : Program} {w : World} {K : PySem.W.Frag} {mg mb : Str → Option Value} {k : Nat} {fa a : Addr} {fd : FuncData} {x : Str} {sp : Sp} {s : Shared} {vs : List Value} {ns : List Int}
    (kin : K.In s.heap) (hm : s.heap.Ns mainGlobals mg) (hb : s.heap.Ns builtinsNs mb) (hbb : ∀ x : Str, x ≠ "__name__" → mb x = bootBuiltins x) (hlim : s.heap.NoLimit) (hg : s.gens = #[])
    (ha : s.heap.get? a = some { cls := .type "list", data := .seq vs.toArray }) (hi : IntsAre vs ns) (hl : ns.length ≤ sizeLine) (hr : L2.Room k callerA)
    (F : ∀ base : Heap, K.In base → base.Ns mainGlobals mg → FnG P w K mg base k fa fd [x] sp) (hbind : ∀ (s : Shared) (u : Value), BindsTo s fd ⟨[u], []⟩ [(x, u)])
    (hsp : ∀ H : Hp, Only H → SqL K H a (ns.map V.int) → sp [.ref a] H (fun v _ => v = .bl true) fun _ _ _ => False) :
    codeAny (model P w) callerA (.call (.ref fa) ⟨[.ref a], []⟩) (fun r s' => r = .ok (.ret (.bool true)) ∧ OldK s.heap s'.heap ∧ s'.os = s.os ∧ AllBare s'.gens) s := by
  have rv := vals_ints hi
  -- the abstract heap: the script's list as it stands, if it is none of the module's own
  suffices h : ∃ H : Hp, Only H ∧ SqL K H a (ns.map V.int) ∧ HOk P w H s.heap ∧ ∀ b, H b ≠ none → b = a ∧ K.lookup a = none by
    obtain ⟨H, h1, h2, h3, h4⟩ := h
    have shown_ : ∀ {b : Addr} {o : Obj}, s.heap.get? b = some o → H b = none → (hidT s.heap H).get? b = some o := fun e n => hidT_get e n
    have free : ∀ {b : Addr} {o : Obj} {es : Array DictEntry} {ep : Nat}, s.heap.get? b = some o → o.data = .dict es ep → H b = none := fun {b o es ep} e d => Classical.byContradiction fun z => by
      obtain ⟨rfl, _⟩ := h4 b z
      rw [ha] at e
      injection e with e
      subst e
      cases d
    have ns_ : ∀ {b : Addr} {m : Str → Option Value}, s.heap.Ns b m → (hidT s.heap H).Ns b m := fun {b m} ⟨o, es, ep, e, d, r⟩ => ⟨o, es, ep, shown_ e (free e d), d, r⟩
    have kin2 : K.In (hidT s.heap H) := fun b o e => shown_ (kin b o e) (Classical.byContradiction fun z => by
      obtain ⟨rfl, e2⟩ := h4 b z
      rw [e2] at e
      cases e)
    obtain ⟨mc, l1, l2⟩ := hlim
    have e0 : Env0 P w K mg (hidT s.heap H) callerA [] s H := ⟨rfl, ⟨kin2, ns_ hm, ⟨mb, ns_ hb, hbb⟩, ⟨mc, ns_ l1, l2⟩⟩, fun b o e => of_hidT e, Nat.le_of_eq (hidT_size _ _), trivial, fun b z => absurd z (List.not_mem_nil), h3, .of_eq hg⟩
    refine codeAny_mono ((F _ kin2 (ns_ hm)).run callerA [] s H ⟨[.ref a], []⟩ [.ref a] [.ref a] _ _ (callerG hr) e0 (hbind s (.ref a)) (.cons rfl .nil) (hsp H h1 h2)) fun r s' z => ?_
    match r, z with
    | .error _, z => exact z.elim
    | .ok (.ret u), z =>
      obtain ⟨_, H2, os, bare, un, ok2, ru, rfl⟩ := z
      cases ru
      refine ⟨rfl, OldK.of_keep fun b o e => ?_, os, bare⟩
      match q : H b with
      | none => exact un.keep b o e q (List.not_mem_nil) (List.not_mem_nil)
      | some u =>
        obtain z | ⟨ob, xs, z⟩ := h1 b
        · rw [q] at z; cases z
        · obtain ⟨e1, _⟩ := h3 b _ z
          obtain ⟨e2, _⟩ := ok2 b _ (un.frzs b ob _ z)
          rw [e] at e1
          rw [e2, e1]
  cases hk : K.lookup a with
  | some o =>
    have e := kin a o hk
    rw [ha] at e
    injection e with e
    subst e
    exact ⟨fun _ => none, fun _ => .inl rfl, .inr ⟨_, vs.toArray, _, hk, rfl, rfl, rfl, by rw [List.size_toArray, hi.length]; exact hl, by simpa using rv⟩, fun b u z => (nomatch z), fun b z => absurd rfl z⟩
  | none =>
    refine ⟨upd (fun _ => none) a (.frz { cls := .type "list", data := .seq vs.toArray } (.lst (ns.map V.int))), fun b => ?_, .inl (.inr ⟨_, upd_same⟩), fun b u z => ?_, fun b z => ⟨?_, rfl⟩⟩
    · by_cases e : b = a
      · subst e; exact .inr ⟨_, _, upd_same⟩
      · exact .inl (upd_ne e)
    · by_cases e : b = a
      · subst e
        rw [upd_same] at z
        cases z
        exact ⟨ha, by rw [List.length_map]; exact hl, vs, _, rv, ha⟩
      · rw [upd_ne e] at z; cases z
    · exact Classical.byContradiction fun e => z (upd_ne e)
theorem walk_ofG {l : PySem.W.OpenLaw} {n k : Nat} {q : Program} {loose : List Str} {XP : (Str → Option Value) → Heap → Prop} {YP : World → Heap → Prop} {d : DefRec} {x : Str}
    (hn : l.most = some n) (hn2 : n ≤ sizeLine) (hdf : d.params.defaults = []) (hr : L2.Room k callerA)
    (F : ∀ (w : World) (mg : Str → Option Value) (fa : Addr) (h : Heap), YP w h → h.Ns mainGlobals mg → mg d.name = some (.ref fa) →
      ∃ (K : PySem.W.Frag) (fd : FuncData) (sp : Sp), K.In h ∧ (∀ (s : Shared) (u : Value), BindsTo s fd ⟨[u], []⟩ [(x, u)]) ∧
        (∀ (H : Hp) (a : Addr) (ns : List Int), ns.length ≤ n → Only H → SqL K H a (ns.map V.int) → sp [.ref a] H (fun v _ => v = .bl true) fun _ _ _ => False) ∧
        ∀ base : Heap, K.In base → base.Ns mainGlobals mg → FnG l.prog w K mg base k fa fd [x] sp) :
    PySem.W.WalkO q loose XP YP l.row.toRowW d [] (fun f vs => PySem.call f vs) := by
  refine Att.attach_call hn hdf ?_
  intro w s0 s1 mg mb fa o pm cd doc a vs ns G Y ho hd hcd hmg hobj hints hlen hg
  obtain ⟨K, fd, sp, kin, hb, hs, hF⟩ := F w mg fa _ Y G.T.g hmg
  exact lawG_call kin G.T.g G.T.b G.T.builtins G.T.nolimit hg hobj hints (Nat.le_trans hlen hn2) hr hF hb fun H h1 h2 => hs H a ns hlen h1 h2
theorem FnG.ansM (M : Mk X.K C f) (F : FnG X.prog X.w X.K X.mg X.base k f fd ps sp) (hr : RoomG (k + 1) X.A) (hb : Binds X.K fd ps []) : AnsM X C sp := by
  intro pins σ H s Q vs us I r h
  have q := h (s.heap.objs.size + 1) s.heap.objs.size (I.hok.fresh (Nat.le_succ _)) (I.hok.fresh (Nat.le_refl _)) (Nat.ne_of_lt (Nat.lt_succ_self _))
  have J := Inv.made (C := C) I
  have r2 : Vals (V.ref (s.heap.objs.size + 1) :: vs) (Value.ref (s.heap.objs.size + 1) :: us) := .cons rfl r
  have b := hb _ (Value.ref (s.heap.objs.size + 1) :: us) J.kIn (by rw [List.append_nil, ← r2.length, F.len _ _ _ _ q])
  rw [List.append_nil] at b
  refine wpAny_call (make_map (f := f) I.kIn M.makes M.init (beq_iff_eq.mp M.fn) (codeAny_mono (F.run _ X.stack _ _ _ _ _ _ E0 (hr.make C us []) (J.env0.make C us []) b r2 q) fun z s' w => ?_))
  match z, w with
  | .ok (.ret u), w =>
    obtain ⟨_, H2, J2, ru, rfl, q2⟩ := J.after w
    exact ⟨ru, .ref (s.heap.objs.size + 1), H2, J2, rfl, q2⟩
  | .error _, w => exact w.elim
theorem g_make0 (F : AnsM X C sp) (hk : PySem.W.keepIn X.K (.ref C) = true) (hg : Gl X x) (hm : X.mg x = some (.ref C)) (hdb : (x == ("__debug__" : Str)) = false) : PE X (.Call (.Name x p) [] [] pos) (tMake C sp [] E0 tNil) where
  run := fun pins s σ H Q I h => wpAny_Call_Name_kw (ld_glob I hg hm (PySem.W.callWith_K0 I.kIn hk (F pins σ H s Q [] [] I .nil h)) hdb)
end
end QL
namespace QL
open PySem L2 RZ

abbrev DE (ca : Ca) (X : Cx) (md : List Nat) (e : Expr) (f : EM) : Prop := PE X e (TEof X.K ca md f)
abbrev DB (ca : Ca) (X : Cx) (md : List Nat) (e : Expr) (f : BM) : Prop := PE X e (TBof X.K ca md f)
abbrev DA (ca : Ca) (X : Cx) (md : List Nat) (es : List Expr) (f : AM) : Prop := PA X es (TAof X.K ca md f)
abbrev DT (ca : Ca) (X : Cx) (md : List Nat) (e : Expr) (f : BT) : Prop := PT X e (TTof X.K ca md f)
abbrev DW (ca : Ca) (X : Cx) (md : List Nat) (e : Expr) (f : BT) : Prop := PW X e (TTof X.K ca md f)
abbrev DI (ca : Ca) (X : Cx) (md : List Nat) (tg e : Expr) (f : En → R (List T × En)) : Prop := PI X tg e (ISof X.K ca md f)
abbrev DG (ca : Ca) (X : Cx) (tv : List Nat) (e : Expr) (f : T → En → R En) : Prop := PG X e (GTof X.K ca tv f)
abbrev DGs (ca : Ca) (X : Cx) (tv : List Nat) (es : List Expr) (f : List T → En → R En) : Prop := PGs X es (GLof X.K ca tv f)
abbrev DS (ca : Ca) (X : Cx) (pn : List Nat) (s : Stmt) (f : SM) : Prop := PS X s (TSof X.K ca pn f)
abbrev DSs (ca : Ca) (X : Cx) (pn : List Nat) (ss : List Stmt) (f : SM) : Prop := PSs X ss (TSof X.K ca pn f)

section
variable {ca : Ca} {X : Cx} {md md0 tv pn : List Nat} {a b c e o : Expr} {es : List Expr} {pos p apos cpos : Pos} {f g h : EM} {bf bg bh : BM} {af : AM} {x : Str}

theorem d_var (i : Nat) (hN : X.N[i]? = some x := by rfl) (hv : Vis X.env.scope x := by first | exact Or.inl rfl | exact Or.inr (Or.inl rfl) | exact Or.inr (Or.inr rfl)) (hd : (x == ("__debug__" : Str)) = false := by decide) (hcd : (x == ("__classdict__" : Str)) = false := by decide) :
    DE ca X md (.Name x pos) (eVar i) := PEm (pv i hN hv hd hcd) fun _ _ _ h => te_var h
theorem d_mv (i : Nat) (hi : i ∈ md := by decide) (hN : X.N[i]? = some x := by rfl) (hv : Vis X.env.scope x := by first | exact Or.inl rfl | exact Or.inr (Or.inl rfl) | exact Or.inr (Or.inr rfl)) (hd : (x == ("__debug__" : Str)) = false := by decide) (hcd : (x == ("__classdict__" : Str)) = false := by decide) :
    DE ca X md (.Name x pos) (eMv i) := PEm (pv i hN hv hd hcd) fun _ _ _ h => te_mv hi h
theorem d_al (i : Nat) (hi : i ∈ md := by decide) (hN : X.N[i]? = some x := by rfl) (hv : Vis X.env.scope x := by first | exact Or.inl rfl | exact Or.inr (Or.inl rfl) | exact Or.inr (Or.inr rfl)) (hd : (x == ("__debug__" : Str)) = false := by decide) (hcd : (x == ("__classdict__" : Str)) = false := by decide) :
    DE ca X md (.Name x pos) (eAl i) := PEm (pv i hN hv hd hcd) fun _ _ _ h => te_al hi h
theorem b_v (i : Nat) (hi : i ∉ md := by decide) (hN : X.N[i]? = some x := by rfl) (hv : Vis X.env.scope x := by first | exact Or.inl rfl | exact Or.inr (Or.inl rfl) | exact Or.inr (Or.inr rfl)) (hd : (x == ("__debug__" : Str)) = false := by decide) (hcd : (x == ("__classdict__" : Str)) = false := by decide) :
    DB ca X md (.Name x pos) (bV i) := PEm (pv i hN hv hd hcd) fun _ _ _ h => tb_v hi h
/-- a slot handed to a def that may change it -/
def bIo (i : Nat) : BM := fun env => match env[i]? with
  | some (some _) => .ok (.io i, env)
  | _ => stk
theorem tb_io {K : PySem.W.Frag} {σ : St} {H : Hp} {i : Nat} {Q : VK} (h : TBof K ca md (bIo i) σ H Q) : tVar i σ H Q := by
  obtain ⟨F, env, fp, b, env', s, e, k⟩ := h
  unfold bIo at e
  split at e
  case h_2 => cases e
  case h_1 t et =>
    cases e
    obtain ⟨v, e1, r⟩ := s.slot i t et
    refine ⟨v, e1, k v H F fp [] (Go.refl s.sub fun b z => z.elim id (fun z => nomatch z)) Keep.refl s ?_ List.nodup_nil (fun _ z => nomatch z)⟩
    simp only [Ops]
    exact ⟨v, [], [], [], rfl, ⟨rfl, e1⟩, ⟨rfl, rfl⟩, rfl⟩
theorem b_io (i : Nat) (hN : X.N[i]? = some x := by rfl) (hv : Vis X.env.scope x := by first | exact Or.inl rfl | exact Or.inr (Or.inl rfl) | exact Or.inr (Or.inr rfl)) (hd : (x == ("__debug__" : Str)) = false := by decide) (hcd : (x == ("__classdict__" : Str)) = false := by decide) :
    DB ca X md (.Name x pos) (bIo i) := PEm (pv i hN hv hd hcd) fun _ _ _ h => tb_io h
theorem b_e (h : DE ca X md e f) : DB ca X md e (bE f) := PEm h fun _ _ _ h => tb_e h
theorem d_int {i : Int} {j} : DE ca X md (.Constant (.int i) j pos) (eC (.int i)) := PEm pe_int fun _ _ _ h => te_c (fun _ _ => rep_int) h
theorem d_bl {i : Bool} {j} : DE ca X md (.Constant (.bool i) j pos) (eC (.bl i)) := PEm pe_bl fun _ _ _ h => te_c (fun _ _ => rep_bl) h
theorem d_str {i : Str} {j} : DE ca X md (.Constant (.str i) j pos) (eC (.str i)) := PEm pe_str fun _ _ _ h => te_c (fun _ _ => rep_str) h
theorem d_non {j} : DE ca X md (.Constant .none j pos) (eC .non) := PEm pe_non fun _ _ _ h => te_c (fun _ _ => rep_non) h
/-- a module's constant, told by the head -/
structure Glb (ca : Ca) (K : PySem.W.Frag) (mg : Str → Option Value) (x : Str) (t : T) : Prop where
  ex : ∃ u v, mg x = some u ∧ RelV v u ∧ ∀ F H, Rep K ca F H t v []
theorem d_gl {t : T} (hm : Glb ca X.K X.mg x t) (hg : Gl X x := by rfl) (hd : (x == ("__debug__" : Str)) = false := by decide) : DE ca X md (.Name x pos) (eC t) :=
  let ⟨_, _, hm, r, hr⟩ := hm.ex
  PEm (pe_glob hg hm r hd) fun _ _ _ h => te_c hr h
theorem a_nil : DA ca X md [] aNil := PAm pa_nil fun _ _ _ h => ta_nil h
theorem a_cons (he : DB ca X md e bf) (hr : DA ca X md es af) (hs : starEach (e :: es) X.env = (false, eval e X.env) :: starEach es X.env := by rfl) : DA ca X md (e :: es) (aCons bf af) := PAm (pa_cons he hr hs) fun _ _ _ h => ta_cons h
theorem d_bin {op : Operator} {r : R2} {w : List T → R T} (ho : OpR X (binaryOp op) r) (hs : OpS X.K ca r w) (ha : DB ca X md a bf) (hb : DB ca X md b bg) : DE ca X md (.BinOp a op b pos) (eOp w (aCons bf (aCons bg aNil))) := PEm (pe_op ho ha hb) fun _ _ _ h => te_op2 hs h
theorem d_un {op : UnaryOp} {r : V → Hp → VK → Prop} {w : List T → R T} (ho : UnR X (unaryOp op) r) (hs : UnS X.K ca r w) (ha : DB ca X md a bf) : DE ca X md (.UnaryOp op a pos) (eOp w (aCons bf aNil)) := PEm (pe_un ho ha) fun _ _ _ h => te_op1 hs h
theorem d_cmp {op : CmpOp} {r : R2} {w : List T → R T} (ho : OpR X (compareOp op) r) (hs : OpS X.K ca r w) (ha : DB ca X md a bf) (hb : DB ca X md b bg) (hm : behindInMarks op b = false := by rfl) : DE ca X md (.Compare a [op] [b] pos) (eOp w (aCons bf (aCons bg aNil))) := PEm (pe_cmpR ho ha hb hm) fun _ _ _ h => te_op2 hs h
theorem t_cmp {op : CmpOp} {r : R2} {w : List T → R T} (ho : OpR X (compareOp op) r) (hs : OpS X.K ca r w) (ha : DB ca X md a bf) (hb : DB ca X md b bg) (hm : behindInMarks op b = false := by rfl) : DT ca X md (.Compare a [op] [b] pos) (tV (eOp w (aCons bf (aCons bg aNil)))) := PTm (pt_cmpR ho ha hb hm) fun _ _ _ h => te_op2 hs (tt_v h)
theorem t_val (h : DE ca X md e f) (he : ∀ whole, isTrue e X.env whole = (do let v ← whole; standAt e.pos; holding [v] (truthy v)) := by intro _; rfl) : DT ca X md e (tV f) := PTm (pt_val h he) fun _ _ _ h => tt_v h
theorem d_chain {op op' : CmpOp} {q q' : Int → Int → Bool} (ho : OpR X (compareOp op) (rI0 fun i j => .bl (q i j))) (ho' : OpR X (compareOp op') (rI0 fun i j => .bl (q' i j))) (ha : DE ca X md a f) (hb : DE ca X md b g) (hc : DE ca X md c h)
    (hm : lastMarks [op, op'] [b, c] = false := by with_unfolding_all rfl) : DE ca X md (.Compare a [op, op'] [b, c] pos) (eChain q q' f g h) := PEm (pe_chain ho ho' ha hb hc hm) fun _ _ _ h => te_chain h
theorem t_chain {op op' : CmpOp} {q q' : Int → Int → Bool} (ho : OpR X (compareOp op) (rI0 fun i j => .bl (q i j))) (ho' : OpR X (compareOp op') (rI0 fun i j => .bl (q' i j))) (ha : DE ca X md a f) (hb : DE ca X md b g) (hc : DE ca X md c h)
    (hm : lastMarks [op, op'] [b, c] = false := by with_unfolding_all rfl) : DT ca X md (.Compare a [op, op'] [b, c] pos) (tV (eChain q q' f g h)) := PTm (pt_chain ho ho' ha hb hc hm) fun _ _ _ h => te_chain (tt_v h)
variable {tc td : BT} {rest : List Expr}
theorem w_and1 (ha : DT ca X md a tc) : DW ca X md (.BoolOp .And [a] pos) tc := pw_and1 ha
theorem w_or1 (ha : DT ca X md a tc) : DW ca X md (.BoolOp .Or [a] pos) tc := pw_or1 ha
theorem w_and (ha : DT ca X md a tc) (hb : DW ca X md (.BoolOp .And (b :: rest) pos) td) : DW ca X md (.BoolOp .And (a :: b :: rest) pos) (tAndS tc td) := PWm (pw_and ha hb) fun _ _ _ h => tt_and h
theorem w_or (ha : DT ca X md a tc) (hb : DW ca X md (.BoolOp .Or (b :: rest) pos) td) : DW ca X md (.BoolOp .Or (a :: b :: rest) pos) (tOrS tc td) := PWm (pw_or ha hb) fun _ _ _ h => tt_or h
theorem t_w (h : DW ca X md e tc) : DT ca X md e tc := h.pt
theorem t_not (ha : DT ca X md a tc) : DT ca X md (.UnaryOp .Not a pos) (tNotS tc) := PTm (pt_not ha) fun _ _ _ h => tt_not h
theorem d_one {op} (h : DE ca X md a f) : DE ca X md (.BoolOp op [a] pos) f := pe_one h
theorem d_and (ha : DE ca X md a f) (hb : DE ca X md (.BoolOp .And (b :: rest) pos) g) : DE ca X md (.BoolOp .And (a :: b :: rest) pos) (eAnd f g) := PEm (pe_and ha hb) fun _ _ _ h => te_and h
theorem d_not (ha : DE ca X md a f) : DE ca X md (.UnaryOp .Not a pos) (eNot f) := PEm (pe_not ha) fun _ _ _ h => te_not h
theorem d_if (hc : DT ca X md c tc) (ha : DE ca X md a f) (hb : DE ca X md b g) : DE ca X md (.IfExp c a b pos) (eIf tc f g) := PEm (pe_ifExp hc ha hb) fun _ _ _ h => te_if h
theorem d_tup {x1} (h : DA ca X md es af) : DE ca X md (.Tuple es x1 pos) (eTup af) := PEm (pe_tupN h) fun _ _ _ h => te_tup h
theorem d_lst (h : DA ca X md es af) : DE ca X md (.List es pos) (eLst af) := PEm (pe_lst h) fun _ _ _ h => te_lst h
theorem d_ix (ha : DB ca X md a bf) (hb : DB ca X md b bg) (hs : PlainIx b := by exact fun _ _ => rfl) : DE ca X md (.Subscript a b pos) (eOp oIx (aCons bf (aCons bg aNil))) := PEm (pe_ix ix_seq ha hb hs) fun _ _ _ h => te_op2 s_ix h
theorem d_sl10 {p2} (ha : DB ca X md a bf) (hb : DB ca X md b bg) : DE ca X md (.Subscript a (.Slice (some b) none none p2) pos) (eOp (oSl true false) (aCons bf (aCons bg aNil))) := PEm (pe_slice sl_any ha (po_some hb) po_none) fun _ _ _ h => te_sl10 h
theorem d_sl01 {p2} (ha : DB ca X md a bf) (hb : DB ca X md b bg) : DE ca X md (.Subscript a (.Slice none (some b) none p2) pos) (eOp (oSl false true) (aCons bf (aCons bg aNil))) := PEm (pe_slice sl_any ha po_none (po_some hb)) fun _ _ _ h => te_sl01 h
theorem d_callB {id : String} {r : List V → Hp → VK → Prop} {w : List T → R T} (hc : CallR X (.builtin id) r) (hs : CallS X.K ca r w) (hv : bootBuiltins x = some (.builtin id)) (hm : X.mg x = none) (ha : DA ca X md (e :: es) af) (hg : Gl X x := by rfl) (hn : x ≠ "__name__" := by decide) (hdb : (x == ("__debug__" : Str)) = false := by decide)
    (he : starEach (e :: es) X.env = (false, eval e X.env) :: starEach es X.env := by rfl) (hpl : (backTo pos (starEach es X.env)).any (·.1) = false := by rfl) : DE ca X md (.Call (.Name x p) (e :: es) [] pos) (eOp w af) := PEm (pe_callB hc hg hm hv ha hn hdb he hpl) fun _ _ _ h => te_op hs h
theorem d_callTy {T' : String} {r : List V → Hp → VK → Prop} {w : List T → R T} (hc : CallR X (.type T') r) (hs : CallS X.K ca r w) (hv : bootBuiltins x = some (.type T')) (hm : X.mg x = none) (ha : DA ca X md (e :: es) af) (hg : Gl X x := by rfl) (hn : x ≠ "__name__" := by decide) (hdb : (x == ("__debug__" : Str)) = false := by decide)
    (he : starEach (e :: es) X.env = (false, eval e X.env) :: starEach es X.env := by rfl) (hpl : (backTo pos (starEach es X.env)).any (·.1) = false := by rfl) : DE ca X md (.Call (.Name x p) (e :: es) [] pos) (eOp w af) := PEm (pe_callTy hc hg hm hv ha hn hdb he hpl) fun _ _ _ h => te_op hs h
theorem boot_len_ : bootBuiltins "len" = some (.builtin "len") := by decide +kernel
theorem boot_abs_ : bootBuiltins "abs" = some (.builtin "abs") := by decide +kernel
theorem boot_all_ : bootBuiltins "all" = some (.builtin "all") := by decide +kernel
theorem boot_max_ : bootBuiltins "max" = some (.builtin "max") := by decide +kernel
theorem boot_min_ : bootBuiltins "min" = some (.builtin "min") := by decide +kernel
theorem boot_sorted_ : bootBuiltins "sorted" = some (.builtin "sorted") := by decide +kernel
theorem boot_int_ : bootBuiltins "int" = some (.type "int") := by decide +kernel
theorem boot_tuple_ : bootBuiltins "tuple" = some (.type "tuple") := by decide +kernel
theorem boot_str_ : bootBuiltins "str" = some (.type "str") := by decide +kernel
theorem boot_set_ : bootBuiltins "set" = some (.type "set") := by decide +kernel
theorem boot_isinstance' : bootBuiltins "isinstance" = some (.builtin "isinstance") := by decide +kernel
theorem d_isi {y : Str} {p2 : Pos} (k : Ty) (hm : X.mg "isinstance" = none) (hm2 : X.mg y = none) (hv2 : bootBuiltins y = some (.type k.nm)) (ha : DB ca X md a bf) (hg : Gl X "isinstance" := by rfl) (hg2 : Gl X y := by rfl) (hn : y ≠ "__name__" := by decide) (hd : (y == ("__debug__" : Str)) = false := by decide)
    (hs1 : starEach [a, .Name y p2] X.env = (false, eval a X.env) :: starEach [.Name y p2] X.env := by rfl) (hs2 : starEach [.Name y p2] X.env = [(false, eval (.Name y p2) X.env)] := by rfl) (hpl : (backTo pos (starEach [.Name y p2] X.env)).any (·.1) = false := by rfl) :
    DE ca X md (.Call (.Name "isinstance" p) [a, .Name y p2] [] pos) (eOp (oIsi k) (aCons bf aNil)) :=
  PEm (pe_callB call_isi hg hm boot_isinstance' (pa_cons ha (pa_cons (pe_bltn (v := .ty k.nm) hg2 hm2 hv2 rfl hn hd) pa_nil hs2) hs1) (by decide) (by decide) hs1 hpl) fun _ _ _ h => te_isi h
theorem d_isi2 {y z : Str} {p2 p3 p4 : Pos} {kt} (k k2 : Ty) (hm : X.mg "isinstance" = none) (hm2 : X.mg y = none) (hm3 : X.mg z = none) (hv2 : bootBuiltins y = some (.type k.nm)) (hv3 : bootBuiltins z = some (.type k2.nm)) (ha : DB ca X md a bf) (hg : Gl X "isinstance" := by rfl) (hg2 : Gl X y := by rfl) (hg3 : Gl X z := by rfl)
    (hn : y ≠ "__name__" := by decide) (hd : (y == ("__debug__" : Str)) = false := by decide) (hn3 : z ≠ "__name__" := by decide) (hd3 : (z == ("__debug__" : Str)) = false := by decide)
    (hs1 : starEach [a, .Tuple [.Name y p2, .Name z p3] kt p4] X.env = (false, eval a X.env) :: starEach [.Tuple [.Name y p2, .Name z p3] kt p4] X.env := by rfl) (hs2 : starEach [.Tuple [.Name y p2, .Name z p3] kt p4] X.env = [(false, eval (.Tuple [.Name y p2, .Name z p3] kt p4) X.env)] := by rfl)
    (hpl : (backTo pos (starEach [.Tuple [.Name y p2, .Name z p3] kt p4] X.env)).any (·.1) = false := by rfl) :
    DE ca X md (.Call (.Name "isinstance" p) [a, .Tuple [.Name y p2, .Name z p3] kt p4] [] pos) (eOp (oIsi2 k k2) (aCons bf aNil)) :=
  PEm (pe_callB call_isiT hg hm boot_isinstance' (pa_cons ha (pa_cons (pe_tup (pa_cons (pe_bltn (v := .ty k.nm) hg2 hm2 hv2 rfl hn hd) (pa_cons (pe_bltn (v := .ty k2.nm) hg3 hm3 hv3 rfl hn3 hd3) pa_nil))) pa_nil hs2) hs1) (by decide) (by decide) hs1 hpl)
    fun σ H Q h => by
      have q : TBof X.K ca md bf σ H (fun x H1 => rIsi2 X.K k k2 x H1 Q) := te_op1 s_isi2 h
      exact TBof.mono q fun x H1 hq => ⟨by show 2 ≤ sizeLine; decide, fun p hp => hq p hp⟩
theorem d_lc {elt tg iter : Expr} {ifs : List Expr} {scope : Scope} (own : List (Str × Nat)) {src : En → R (List T × En)} {gt : T → En → R En} {cond : BT} (hN : X.N.Nodup) (hi : DI ca X md tg iter src) (ok : blkC X.N X.env.scope scope own = true)
    (hg : ∀ (s : Shared) (H : Hp) (C : Addr) (cl : List (Str × Addr)) (fp : List Addr), DG ca (X.blk s H scope (compEnvC scope cl C X.env) fp) (own.map (·.2)) tg gt)
    (ht : ∀ (s : Shared) (H : Hp) (C : Addr) (cl : List (Str × Addr)) (fp : List Addr), PTs (X.blk s H scope (compEnvC scope cl C X.env) fp) ifs (TTof X.K ca md cond))
    (he : ∀ (s : Shared) (H : Hp) (C : Addr) (cl : List (Str × Addr)) (fp : List Addr), DE ca (X.blk s H scope (compEnvC scope cl C X.env) fp) md elt f)
    (hm : ∀ i, i ∈ own.map (·.2) → i ∉ md := by decide) (hc : X.calm = true := by rfl) (hs : ∀ x, foldedSetIterable iter X.env x = pure x := by intro _; rfl) :
    DE ca X md (.ListComp elt [⟨tg, iter, ifs, 0⟩] scope pos) (eLc src gt cond f (own.map (·.2))) :=
  PEm (pe_lc hc hN hi (blkOk_by ok) hg ht he hs) fun _ _ _ h => te_lc hm h
theorem c_yes : PTs X [] (TTof X.K ca md cYes) := PTsm pts_nil fun _ _ _ h => tt_yes h
theorem c_if (h : DT ca X md e tc) : PTs X [e] (TTof X.K ca md tc) := pts_one h
theorem g_name (i : Nat) (hN : X.N.Nodup) (hi : X.N[i]? = some x := by rfl) (ht : i ∈ tv := by decide) (hx : Loc X.env.scope x := by first | exact Or.inl rfl | exact Or.inr rfl) (hf : X.fn x = true ∨ X.env.scope.names.lookup x = some .local := by first | exact .inl rfl | exact .inr rfl) : DG ca X tv (.Name x pos) (gN i) :=
  PGm (pg_name hN hi hx hf) fun _ _ _ _ h => tg_name ht h
theorem gs_nil : DGs ca X tv [] gsN := PGsm pgs_nil fun _ _ _ _ h => tgs_nil h
theorem gs_cons {gt : T → En → R En} {gs : List T → En → R En} (h1 : DG ca X tv e gt) (h2 : DGs ca X tv es gs) (hs : (assignEach (e :: es) X.env).map (·.2) = assign e X.env :: (assignEach es X.env).map (·.2) := by rfl) : DGs ca X tv (e :: es) (gsC gt gs) := PGsm (pgs_cons h1 h2 hs) fun _ _ _ _ h => tgs_cons h
theorem g_tup {k n : Nat} {gs : List T → En → R En} (h : DGs ca X tv es gs) (hc : X.calm = true := by rfl) (hn : (assignEach es X.env).length = n := by rfl) (hst : (assignEach es X.env).findIdx? (·.1) = none := by rfl) : DG ca X tv (.Tuple es k pos) (gT n gs) := PGm (pg_sq hc h hn hst) fun _ _ _ _ h => tg_tup h
variable {tg : Expr}
theorem i_seq (h : DB ca X md e bf) : DI ca X md tg e (iSeq bf) := PIm (pi_any h) fun _ _ _ h => is_seq h
theorem i_rng1 (hm : X.mg "range" = none) (ha : DA ca X md [a] af) (hg : Gl X "range" := by rfl) (hs : starEach [a] X.env = [(false, eval a X.env)] := by rfl) : DI ca X md tg (.Call (.Name "range" p) [a] [] pos) (iRng rng1 af) := PIm (pi_range1 hg hm ha hs) fun _ _ _ h => is_rng1 h
theorem i_enum {elts : List Expr} {kk : Nat} {tpos : Pos} (hm : X.mg "enumerate" = none) (ha : DA ca X md [a] af) (hg : Gl X "enumerate" := by rfl) (hs : starEach [a] X.env = [(false, eval a X.env)] := by rfl) : DI ca X md (.Tuple elts kk tpos) (.Call (.Name "enumerate" p) [a] [] pos) (iRng enm af) := PIm (pi_enum hg hm ha hs) fun _ _ _ h => is_enum h
theorem i_zip {elts : List Expr} {kk : Nat} {tpos : Pos} (hm : X.mg "zip" = none) (ha : DA ca X md [a, b] af) (hg : Gl X "zip" := by rfl) (hs : starEach [a, b] X.env = (false, eval a X.env) :: starEach [b] X.env := by rfl) (hpl : (backTo pos (starEach [b] X.env)).any (·.1) = false := by rfl) : DI ca X md (.Tuple elts kk tpos) (.Call (.Name "zip" p) [a, b] [] pos) (iRng zp af) := PIm (pi_zipB hg hm ha hs hpl) fun _ _ _ h => is_zip h
theorem d_mut {name : Str} {id : String} {r : V → List V → Hp → VK → Prop} {m : T → List T → R (T × T)} (i : Nat) (slot : Slot "list" name id) (hty : typeOf (.builtin id) = pure (.type "method_descriptor")) (hm : MtR X id r) (hs : MutS X.K ca r m) (md0 : List Nat) (ha : DA ca X md0 (e :: es) af)
    (hN : X.N[i]? = some x := by rfl) (him : i ∈ md := by decide) (hmd : ∀ j, j ∈ md0 → j ∈ md := by decide) (hi0 : i ∉ md0 := by decide) (hv : Vis X.env.scope x := by first | exact Or.inl rfl | exact Or.inr (Or.inl rfl) | exact Or.inr (Or.inr rfl)) (hd : (x == ("__debug__" : Str)) = false := by decide) (hcd : (x == ("__classdict__" : Str)) = false := by decide)
    (hbase : attributeBase (.Name x p) name X.env (eval (.Name x p) X.env) = eval (.Name x p) X.env := by rfl)
    (hfew : ((backTo cpos (starEach (e :: es) X.env)).all (fun x => !x.1) && (backToKw cpos (keywordEach [] X.env)).all (fun x => x.1.isSome)
      && decide ((e :: es).length + ([] : List Keyword).length + (if ([] : List Keyword).isEmpty then 0 else 1) < 30)) = true := by rfl)
    (hline : (apos.endLine == cpos.line) = true := by rfl) (hst : starEach (e :: es) X.env = (false, eval e X.env) :: starEach es X.env := by rfl) (hplain : (backTo cpos (starEach es X.env)).any (·.1) = false := by rfl) :
    DE ca X md (.Call (.Attribute (.Name x p) name apos) (e :: es) [] cpos) (eMut i T.isLst m af) :=
  PEm (pe_bm PySem.F.plainAttrs_list slot hty hm (pv i hN hv hd hcd) ha hbase hfew hline hst hplain) fun _ _ _ h => te_mut him hmd hi0 hs ty_lst h
variable {st : Stmt} {sts : List Stmt} {sf sg : SM} {value : Expr}
theorem ss_nil : DSs ca X pn [] sNil := PSsm pss_nil fun _ _ _ h => ts_nil h
theorem ss_cons (h1 : DS ca X pn st sf) (h2 : DSs ca X pn sts sg) : DSs ca X pn (st :: sts) (sSeq sf sg) := PSsm (pss_cons h1 h2) fun _ _ _ h => ts_seq h
theorem ss_one (h1 : DS ca X pn st sf) : DSs ca X pn [st] sf := pss_one h1
theorem s_cont : DS ca X pn (.Continue pos) sCont := PSm ps_continue fun _ _ _ h => ts_cont h
theorem s_if {as bs : List Stmt} (hc : DT ca X md c tc) (ha : DSs ca X pn as sf) (hb : DSs ca X pn bs sg) : DS ca X pn (.If c as bs pos) (sIf tc sf sg) := PSm (ps_if hc ha hb) fun _ _ _ h => ts_if h
theorem s_ret (h : DE ca X md e f) : DS ca X pn (.Return (some e) pos) (sRet f) := PSm (ps_ret h) fun _ _ _ h => ts_ret h
theorem s_retN : DS ca X pn (.Return none pos) sRetN := PSm ps_retN fun _ _ _ h => ts_retN h
theorem s_expr (h : DE ca X md e f) (hs : swapsWith e none pos.line X.env = pure false := by rfl) : DS ca X pn (.Expr e pos) (sDrop f) := PSm (ps_expr h hs) fun _ _ _ h => ts_drop h
theorem s_asg {gt : T → En → R En} (tv : List Nat) (he : DE ca X md e f) (hg : DG ca X tv a gt) (hp : Apt tv pn := by decide) (hs : swapsWithSole [a] e pos.line X.env = pure false := by rfl) (hw : swappedStores [a] e X.env = pure none := by rfl) (h1 : (assignEach [a] X.env).map (·.2) = [assign a X.env] := by rfl) :
    DS ca X pn (.Assign [a] e pos) (sAsg f gt) := PSm (ps_asg he hg hs hw h1) fun _ _ _ h => ts_asg hp h
theorem s_set {pos' : Pos} (i : Nat) (hN : X.N.Nodup) (he : DE ca X md e f) (hi : X.N[i]? = some x := by rfl) (hp : Apt [i] pn := by decide) (hx : Loc X.env.scope x := by first | exact Or.inl rfl | exact Or.inr rfl) (hs : swapsWith e (some (.Name x pos')) pos.line X.env = pure false := by rfl) (hf : X.fn x = true ∨ X.env.scope.names.lookup x = some .local := by first | exact .inl rfl | exact .inr rfl) :
    DS ca X pn (.Assign [.Name x pos'] e pos) (sAsg f (gN i)) := PSm (ps_set hN hi hx he hs hf) fun _ _ _ h => (ts_asg (md := md) (tv := [i]) hp h : tAsg _ _ _ _ _) |> fun q => TEof.mono q fun v H1 h1 => tg_name (List.mem_singleton.mpr rfl) h1
/-- y = [..] on one line -/
theorem s_setLc {py cpos : Pos} {elt tg iter : Expr} {ifs : List Expr} {scope : Scope} (i : Nat) (own : List (Str × Nat)) {src : En → R (List T × En)} {gt : T → En → R En} {cond : BT} (hN : X.N.Nodup) (hi : DI ca X md tg iter src) (ok : blkC X.N X.env.scope scope own = true)
    (hg : ∀ (s : Shared) (H : Hp) (C : Addr) (cl : List (Str × Addr)) (fp : List Addr), DG ca (X.blk s H scope (compEnvC scope cl C X.env) fp) (own.map (·.2)) tg gt)
    (ht : ∀ (s : Shared) (H : Hp) (C : Addr) (cl : List (Str × Addr)) (fp : List Addr), PTs (X.blk s H scope (compEnvC scope cl C X.env) fp) ifs (TTof X.K ca md cond))
    (he : ∀ (s : Shared) (H : Hp) (C : Addr) (cl : List (Str × Addr)) (fp : List Addr), DE ca (X.blk s H scope (compEnvC scope cl C X.env) fp) md elt f)
    (hsw : swapsWith (.ListComp elt [⟨tg, iter, ifs, 0⟩] scope cpos) (some (.Name x py)) pos.line X.env = pure true) (hy : X.N[i]? = some x := by rfl) (hyl : X.env.scope.names.lookup x = some .local := by rfl) (hp : Apt [i] pn := by decide)
    (hm : ∀ i, i ∈ own.map (·.2) → i ∉ md := by decide) (hc : X.calm = true := by rfl) (hs : ∀ x, foldedSetIterable iter X.env x = pure x := by intro _; rfl) :
    DS ca X pn (.Assign [.Name x py] (.ListComp elt [⟨tg, iter, ifs, 0⟩] scope cpos) pos) (sAsg (eLc src gt cond f (own.map (·.2))) (gN i)) :=
  PSm (ps_setLc hc hN hy hyl hsw hi (blkOk_by ok) hg ht he hs) fun _ _ _ h => te_lc hm ((ts_asg (md := md) (tv := [i]) hp h : tAsg _ _ _ _ _) |> fun q => TEof.mono q fun v H1 h1 => tg_name (List.mem_singleton.mpr rfl) h1)
theorem s_par {y : Str} {px py pt : Pos} {kt k2 pt2} (i j : Nat) (hN : X.N.Nodup) (ha : DA ca X md [a, b] af) (hw : swappedStores [.Tuple [.Name x px, .Name y py] kt pt] (.Tuple [a, b] k2 pt2) X.env = pure (some [x, y]) := by rfl) (hi : X.N[i]? = some x := by rfl) (hj : X.N[j]? = some y := by rfl) (hij : i ≠ j := by decide)
    (hpi : i ∉ pn := by decide) (hpj : j ∉ pn := by decide) (hx : X.env.scope.names.lookup x = some .local := by rfl) (hy : X.env.scope.names.lookup y = some .local := by rfl) (hc : X.calm = true := by rfl)
    (hs : swapsWithSole [.Tuple [.Name x px, .Name y py] kt pt] (.Tuple [a, b] k2 pt2) pos.line X.env = pure false := by rfl) :
    DS ca X pn (.Assign [.Tuple [.Name x px, .Name y py] kt pt] (.Tuple [a, b] k2 pt2) pos) (sPar af i j) := PSm (ps_par hc hN hi hj hij hx hy ha hw hs) fun _ _ _ h => ts_par hpi hpj hij h
theorem s_for {body : List Stmt} {iter : Expr} {src : En → R (List T × En)} {gt : T → En → R En} (tv : List Nat) (hp : PassesOwn (model X.prog X.w) X.A X.env X.xe) (hi : DI ca X md a iter src) (hg : DG ca X tv a gt) (hb : DSs ca X pn body sf) (ht : Apt tv pn := by decide) (hc : X.calm = true := by rfl)
    (hs : ∀ x, foldedSetIterable iter X.env x = pure x := by intro _; rfl) : DS ca X pn (.For a iter body [] pos) (sFor src gt sf) := PSm (ps_for hp hc hi hg hb hs) fun _ _ _ h => ts_for ht h
/-- xs[i] = v -/
theorem s_setix {px pos' : Pos} (i : Nat) (hi : DE ca X md b g) (hv : DE ca X md value f) (him : i ∉ md := by decide) (hN : X.N[i]? = some x := by rfl) (hvs : Vis X.env.scope x := by first | exact Or.inl rfl | exact Or.inr (Or.inl rfl) | exact Or.inr (Or.inr rfl)) (hd : (x == ("__debug__" : Str)) = false := by decide) (hcd : (x == ("__classdict__" : Str)) = false := by decide)
    (ha : ∀ v, assign (.Subscript (.Name x px) b pos') X.env v = (do
      let ov ← holding [v] (eval (.Name x px) X.env)
      let iv ← holding [v, ov] (eval b X.env)
      standAt pos'
      holding [v, ov, iv] (setItem ov iv v)
      release [v, ov, iv] []) := by intro _; rfl) (hs : swapsWithSole [.Subscript (.Name x px) b pos'] value pos.line X.env = pure false := by rfl) (hw : swappedStores [.Subscript (.Name x px) b pos'] value X.env = pure none := by rfl) (h1 : (assignEach [.Subscript (.Name x px) b pos'] X.env).map (·.2) = [assign (.Subscript (.Name x px) b pos') X.env] := by rfl) :
    DS ca X pn (.Assign [.Subscript (.Name x px) b pos'] value pos) (sSetIx i f g) := PSm (ps_asg hv (pg_sub (pv i hN hvs hd hcd) hi set_list ha) hs hw h1) fun _ _ _ h => ts_setIx him h
end

structure Def (ca : Ca) (P : Program) (w : World) (K : PySem.W.Frag) (mg : Str → Option Value) (base : Heap) (lvl : Nat) (name : Str) (ps : List Str) (io : Option Nat) (g : Fn) : Prop where
  ex : ∃ fd, FnG P w K mg base lvl (He.ga K name) fd ps (spOf K ca io g) ∧ Binds K fd ps [] ∧ ∃ oc od osl, K.lookup (He.ga K name) = some ⟨oc, od, .func fd, osl⟩
  at_ : mg name = some (.ref (He.ga K name))
  kp : PySem.W.keepIn K (.ref (He.ga K name)) = true
theorem Def.of {ca : Ca} {P : Program} {w : World} {K : PySem.W.Frag} {mg : Str → Option Value} {base : Heap} {lvl : Nat} {name : Str} {ps : List Str} {io : Option Nat} {g : Fn} (D : Def ca P w K mg base lvl name ps io g) {x qual : Str} {params : Arguments} {st : List Stmt} {sc : Scope} {fd : FuncData}
    (F : FunD K x qual params st sc [] [] (He.ga K name) fd) : FnG P w K mg base lvl (He.ga K name) fd ps (spOf K ca io g) := by
  obtain ⟨fd2, G, _, oc, od, osl, lk⟩ := D.ex
  obtain ⟨oc', od', dV, kV, doc, pm, an, cdv, ct, osl', e1, lk', _⟩ := F.ex
  rw [lk] at lk'
  have e : fd2 = fd := by
    injection Option.some.inj lk' with _ _ h3 _
    injection h3
  rw [← e]
  exact G
section
variable {ca : Ca} {X : Cx} {md : List Nat} {e : Expr} {es : List Expr} {p pos : Pos} {x : Str} {af : AM} {lvl k : Nat} {ps : List Str} {io : Option Nat} {g : Fn}
theorem d_call (D : Def ca X.prog X.w X.K X.mg X.base lvl x ps io g) (hr : RoomG k X.A) (md0 : List Nat) (sl : Option Nat) (ha : DA ca X md0 (e :: es) af) (hm : ∀ i, i ∈ md0 → i ∈ md := by decide) (hsl : ∀ i, sl = some i → i ∈ md := by first | (intro i h; cases h; done) | (intro i h; cases h; decide)) (hk : lvl ≤ k := by first | decide | omega) (hg : Gl X x := by rfl) (hdb : (x == ("__debug__" : Str)) = false := by decide)
    (he : starEach (e :: es) X.env = (false, eval e X.env) :: starEach es X.env := by rfl) (hpl : (backTo pos (starEach es X.env)).any (·.1) = false := by rfl) : DE ca X md (.Call (.Name x p) (e :: es) [] pos) (eCall io sl g af) := by
  obtain ⟨fd, F, B, _⟩ := D.ex
  exact PEm (g_call (F.ans (hr.mono hk) B) hg D.at_ D.kp ha hdb he hpl) fun _ _ _ h => te_call hm hsl h
end
section
variable {ca : Ca} {P : Program} {w : World} {K : PySem.W.Frag} {mg : Str → Option Value} {base h : Heap}
/-- a def that is never asked -/
theorem def_stk {x qual : Str} {params : Arguments} {st : List Stmt} {sc : Scope} {fd : FuncData} {ps : List Str} {k : Nat} {io : Option Nat} (F : FunD K x qual params st sc [] [] (He.ga K x) fd) (hat : mg x = some (.ref (He.ga K x)))
    (hb : ∀ (kV doc pm : Value) (an : Option Addr) (cdv ct : Value) (us : List Value), us.length = ps.length → bindArgs (PySem.W.fnOf x qual params st sc .none kV doc pm an cdv ct) ⟨us, []⟩ = pure (ps.zip us)) : Def ca P w K mg base k x ps io (fun _ => stk) := by
  have lk : ∃ oc od osl, K.lookup (He.ga K x) = some ⟨oc, od, .func fd, osl⟩ := by
    obtain ⟨oc, od, dV, kV, doc, pm, an, cdv, ct, osl, _, lk, _⟩ := F.ex
    exact ⟨oc, od, osl, lk⟩
  refine ⟨⟨fd, ⟨fun vs H Q E h => ?_, fun A outer s H args us vs Q E hr he hb hv h => ?_⟩, F.bindsN hb, lk⟩, hat, F.kp⟩
  · obtain ⟨F, ts, fi, t, out, s, e, k⟩ := h
    cases e
  · obtain ⟨F, ts, fi, t, out, s, e, k⟩ := h
    cases e
theorem spOf_len {io : Option Nat} {n : Nat} {g : Fn} (hg : ∀ ts z, g ts = .ok z → ts.length = n) : ∀ vs H Q E, spOf K ca io g vs H Q E → vs.length = n := by
  intro vs H Q E ⟨F, ts, fi, t, out, s, e, k⟩
  have := s.len
  simp at this
  rw [← this]
  exact hg ts _ e
/-- a def of so many parameters -/
def fnN (m n : Nat) (io : Option Nat) (body : SM) : Fn := fun ts => do
  let _ ← ck (decide (ts.length = m))
  fnOf n io body ts
theorem fnN_of {m n : Nat} {io : Option Nat} {body : SM} {ts : List T} {z : T × Option T} (h : fnN m n io body ts = .ok z) : ts.length = m ∧ fnOf n io body ts = .ok z := by
  obtain ⟨_, c, e⟩ := bind_ok h
  exact ⟨of_decide_eq_true (ck_ok c), e⟩
theorem spOf_body {io : Option Nat} {m n : Nat} {body : SM} {vs : List V} {H : Hp} {Q : VK} {E : XK} (h : spOf K ca io (fnN m n io body) vs H Q E) : spOf K ca io (fnOf n io body) vs H Q E := by
  obtain ⟨F, ts, fi, t, out, s, e, k⟩ := h
  exact ⟨F, ts, fi, t, out, s, (fnN_of e).2, k⟩
theorem def_mk {x qual : Str} {params : Arguments} {st : List Stmt} {sc : Scope} {fd : FuncData} {N ps : List Str} {k m n : Nat} {io : Option Nat} {body : SM} (F : FunD K x qual params st sc [] [] (He.ga K x) fd) (hat : mg x = some (.ref (He.ga K x))) (S : FnScope N ps sc) (hm : ps.length = m) (hn : N.length = n)
    (hb : ∀ (kV doc pm : Value) (an : Option Addr) (cdv ct : Value) (us : List Value), us.length = ps.length → bindArgs (PySem.W.fnOf x qual params st sc .none kV doc pm an cdv ct) ⟨us, []⟩ = pure (ps.zip us))
    (hbody : ∀ (cdv : Value) (A : Around) (outer : List Env) (s : Shared) (H : Hp) (E : XK), RoomG k (A.deeper (PyProof.Rows.envOfC qual sc s.heap.objs.size (He.ga K x) cdv)) → DSs ca (cxOf CX0 P w K mg base N qual sc (He.ga K x) cdv A outer s H E).nox (ioPins io) st body) :
    Def ca P w K mg base (k + 1) x ps io (fnN m n io body) := by
  have lk : ∃ oc od osl, K.lookup (He.ga K x) = some ⟨oc, od, .func fd, osl⟩ := by
    obtain ⟨oc, od, dV, kV, doc, pm, an, cdv, ct, osl, _, lk, _⟩ := F.ex
    exact ⟨oc, od, osl, lk⟩
  refine ⟨⟨fd, FnG.by_body F S (spOf_len fun ts z e => by rw [hm]; exact (fnN_of e).1) (fun cdv A outer s H vs Q E hr h => ⟨_, (hbody cdv A outer s H E hr).nox, body_ok hn (spOf_body h)⟩), F.bindsN hb, lk⟩, hat, F.kp⟩
end
end QL
namespace QL
open PySem L2
section
variable {K : PySem.W.Frag} {ca : Ca} {F F' F1 H H' H1 : Hp} {O O' : Addr → Prop} {σ : L2.St} {env : En} {fp : Fp} {t : T} {v : V} {fv : List Addr} {ts : List T} {vs : List V} {md : List Nat}
/-- an owned slot lent, frozen, to a value that changes nothing and keeps nothing -/
def eLd (i : Nat) (f : EM) : EM := fun env => match T.at env i with
  | some t => if t.ow then do
      let _ ← ck t.nob
      let (r, _) ← f (env.set i (some t.fz))
      let _ ← ck r.flat
      .ok (r, env)
    else f env
  | none => f env
open Classical in
end
section
variable {ca : Ca} {X : Cx} {md : List Nat} {e : Expr} {f : EM}
end
end QL
namespace QL
open PySem L2 RZ

section
variable {K : PySem.W.Frag} {ca : Ca} {F F' F1 H H' H1 : Hp} {O O' : Addr → Prop} {σ : L2.St} {env : En} {fp : Fp} {t : T} {v : V} {fv : List Addr} {ts : List T} {vs : List V} {md : List Nat}
def getT (ks : List (Key × T)) (k : Key) : Option T := (ks.find? fun p => decide (p.1 = k)).map (·.2)
def putT (ks : List (Key × T)) (k : Key) (t : T) : List (Key × T) := if (ks.any fun p => decide (p.1 = k)) = true then ks.map (fun p => if p.1 = k then (p.1, t) else p) else ks ++ [(k, t)]
def mergeT (ks more : List (Key × T)) : List (Key × T) := more.foldl (fun acc p => putT acc p.1 p.2) ks
theorem Repk.get {k : Key} : ∀ {ks : List (Key × T)} {us : List (Key × V)} {f : List Addr}, Repk K ca F H ks us f → f.Nodup →
    (∀ t, getT ks k = some t → ∃ v g, valV us k = some v ∧ Rep K ca F H t v g ∧ g.Nodup ∧ ∀ a ∈ g, a ∈ f) ∧ (getT ks k = none → valV us k = none)
  | [], _, _, h, _ => by
    simp only [Repk] at h
    rw [h.1]
    exact ⟨fun t e => by simp [getT] at e, fun _ => rfl⟩
  | (k0, t0) :: ks, _, _, h, n => by
    simp only [Repk] at h
    obtain ⟨v, us, f, g, rfl, r1, r2, rfl⟩ := h
    have hn := List.nodup_append.mp n
    by_cases e : k0 = k
    · have h1 : getT ((k0, t0) :: ks) k = some t0 := by simp [getT, List.find?_cons, e]
      rw [h1, valV_pos (p := (k0, v)) e]
      exact ⟨fun t q => by cases q; exact ⟨v, f, rfl, r1, hn.1, fun a ha => List.mem_append_left _ ha⟩, fun q => by cases q⟩
    · have h1 : getT ((k0, t0) :: ks) k = getT ks k := by simp [getT, List.find?_cons, e]
      rw [h1, valV_neg (p := (k0, v)) e]
      obtain ⟨i1, i2⟩ := Repk.get (k := k) r2 hn.2.1
      exact ⟨fun t q => by obtain ⟨v', g', a1, a2, a3, a4⟩ := i1 t q; exact ⟨v', g', a1, a2, a3, fun a ha => List.mem_append_right _ (a4 a ha)⟩, i2⟩
theorem nil_app {a b : List Addr} (h : ([] : List Addr) = a ++ b) : a = [] ∧ b = [] := List.append_eq_nil_iff.mp h.symm
theorem Repk.any0 {k : Key} : ∀ {ks : List (Key × T)} {us : List (Key × V)} {f : List Addr}, Repk K ca F H ks us f → (us.any fun p => decide (p.1 = k)) = (ks.any fun p => decide (p.1 = k))
  | [], _, _, h => by simp only [Repk] at h; rw [h.1]; rfl
  | (k0, t0) :: ks, _, _, h => by
    simp only [Repk] at h
    obtain ⟨v, us, f, g, rfl, _, r2, _⟩ := h
    rw [List.any_cons, List.any_cons, Repk.any0 r2]
theorem Repk.len : ∀ {ks : List (Key × T)} {us : List (Key × V)} {f : List Addr}, Repk K ca F H ks us f → us.length = ks.length
  | [], _, _, h => by simp only [Repk] at h; rw [h.1]; rfl
  | (k0, t0) :: ks, _, _, h => by
    simp only [Repk] at h
    obtain ⟨v, us, f, g, rfl, _, r2, _⟩ := h
    rw [List.length_cons, List.length_cons, Repk.len r2]
theorem Repk.snoc0 {k : Key} (r : Rep K ca F H t v []) : ∀ {ks : List (Key × T)} {us : List (Key × V)}, Repk K ca F H ks us [] → Repk K ca F H (ks ++ [(k, t)]) (us ++ [(k, v)]) []
  | [], _, h => by
    simp only [Repk] at h
    rw [h.1]
    simp only [List.nil_append, Repk]
    exact ⟨v, [], [], [], rfl, r, ⟨rfl, rfl⟩, rfl⟩
  | (k0, t0) :: ks, _, h => by
    simp only [Repk] at h
    obtain ⟨w, us, f, g, rfl, r1, r2, e⟩ := h
    obtain ⟨rfl, rfl⟩ := nil_app e
    simp only [List.cons_append, Repk]
    exact ⟨w, us ++ [(k, v)], [], [], rfl, r1, Repk.snoc0 r r2, rfl⟩
theorem Repk.map0 {k : Key} (r : Rep K ca F H t v []) : ∀ {ks : List (Key × T)} {us : List (Key × V)}, Repk K ca F H ks us [] → Repk K ca F H (ks.map fun p => if p.1 = k then (p.1, t) else p) (us.map fun p => if p.1 = k then (p.1, v) else p) []
  | [], _, h => by simp only [Repk] at h; rw [h.1]; simp only [List.map_nil, Repk]; trivial
  | (k0, t0) :: ks, _, h => by
    simp only [Repk] at h
    obtain ⟨w, us, f, g, rfl, r1, r2, e⟩ := h
    obtain ⟨rfl, rfl⟩ := nil_app e
    have ih := Repk.map0 (k := k) r r2
    by_cases e : k0 = k
    · simp only [List.map_cons, e, if_true, Repk]
      exact ⟨v, _, [], [], rfl, r, ih, rfl⟩
    · simp only [List.map_cons, e, if_false, Repk]
      exact ⟨w, _, [], [], rfl, r1, ih, rfl⟩
theorem Repk.put0 {k : Key} (r : Rep K ca F H t v []) {ks : List (Key × T)} {us : List (Key × V)} (h : Repk K ca F H ks us []) : Repk K ca F H (putT ks k t) (putK us k v) [] := by
  unfold putT putK
  rw [h.any0]
  split
  · exact h.map0 r
  · exact h.snoc0 r
theorem Repk.merge0 : ∀ {more : List (Key × T)} {ws : List (Key × V)} {ks : List (Key × T)} {us : List (Key × V)}, Repk K ca F H more ws [] → Repk K ca F H ks us [] → Repk K ca F H (mergeT ks more) (mergeK us ws) []
  | [], _, _, _, h, r => by simp only [Repk] at h; rw [h.1]; exact r
  | (k0, t0) :: more, _, ks, us, h, r => by
    simp only [Repk] at h
    obtain ⟨w, ws, f, g, rfl, r1, r2, e⟩ := h
    obtain ⟨rfl, rfl⟩ := nil_app e
    show Repk K ca F H (mergeT (putT ks k0 t0) more) (mergeK (putK us k0 w) ws) []
    exact Repk.merge0 r2 (r.put0 r1)
theorem Rep.dct {o : Bool} {ks : List (Key × T)} (s : Sub F H) (h : Rep K ca F H (.dct o ks) v fv) (n : fv.Nodup) : ∃ a us g, v = .ref a ∧ Rd H a (.dK us) ∧ Repk K ca F H ks us g ∧ g.Nodup ∧ (∀ x ∈ g, x ∈ fv) := by
  cases o with
  | true =>
    simp only [Rep] at h
    obtain ⟨a, us, g, h1, h2, h3, h4, h5⟩ := h
    subst h5
    exact ⟨a, us, g, h1, .inl h2, h4, (List.nodup_cons.mp n).2, fun x hx => List.mem_cons_of_mem _ hx⟩
  | false =>
    simp only [Rep] at h
    obtain ⟨a, us, h1, h2, h4, h5⟩ := h
    exact ⟨a, us, [], h1, s.rd h2, h4, List.nodup_nil, (fun _ z => absurd z (by simp))⟩
def keyT : T → Option Key
  | .int i => some (.inl i)
  | .str s => some (.inr s)
  | _ => none
theorem keyT_ok {k : Key} (e : keyT t = some k) (h : Rep K ca F H t v fv) : v = kV k ∧ fv = [] := by
  cases t <;> first | (cases e; simp only [Rep] at h; exact h) | cases e
/-- what stands at a key -/
def dctAt (d y : T) (k : Option T → R T) : R T := match d, keyT y with
  | .dct _ ks, some j => k (getT ks j)
  | _, _ => stk
def oDIn : List T → R T
  | [y, d] => dctAt d y fun o => .ok (.bl o.isSome)
  | _ => stk
def oDNin : List T → R T
  | [y, d] => dctAt d y fun o => .ok (.bl (!o.isSome))
  | _ => stk
def oDIx : List T → R T
  | [d, y] => dctAt d y fun o => match o with
    | some t => .ok t
    | none => stk
  | _ => stk
def oDGet : List T → R T
  | [d, y, z] => dctAt d y fun o => .ok (o.getD z)
  | _ => stk
theorem dctAt_ok {d y t : T} {k : Option T → R T} (e : dctAt d y k = .ok t) : ∃ o ks j, d = .dct o ks ∧ keyT y = some j ∧ k (getT ks j) = .ok t := by
  unfold dctAt at e
  split at e
  · exact ⟨_, _, _, rfl, by assumption, e⟩
  · cases e
theorem s_din : CallS K ca (fun vs H Q => ∃ y x, vs = [y, x] ∧ ∃ a o, x = .ref a ∧ DGet H a y o ∧ Q (.bl o.isSome) H) oDIn := by
  intro F H ts vs f t Q s r nd e q
  unfold oDIn at e
  split at e
  · rename_i y d
    obtain ⟨o, ks, j, rfl, hj, e⟩ := dctAt_ok e
    cases e
    obtain ⟨x', y', g1, g2, rfl, r1, r2, rfl⟩ := reps2 r
    obtain ⟨rfl, rfl⟩ := keyT_ok hj r1
    obtain ⟨a, us, g, rfl, h2, h3, h4, h5⟩ := r2.dct s (nd_app nd).2
    obtain ⟨i1, i2⟩ := h3.get (k := j) h4
    cases w : getT ks j with
    | some t =>
      obtain ⟨v, _, hv, _⟩ := i1 t w
      exact ⟨_, _, rfl, a, some v, rfl, .inl ⟨us, j, h2, rfl, hv.symm⟩, by rw [w] at q; exact give s (fun _ _ => rep_bl) q⟩
    | none => exact ⟨_, _, rfl, a, none, rfl, .inl ⟨us, j, h2, rfl, (i2 w).symm⟩, by rw [w] at q; exact give s (fun _ _ => rep_bl) q⟩
  · cases e
theorem s_dnin : CallS K ca (fun vs H Q => ∃ y x, vs = [y, x] ∧ ∃ a o, x = .ref a ∧ DGet H a y o ∧ Q (.bl (!o.isSome)) H) oDNin := by
  intro F H ts vs f t Q s r nd e q
  unfold oDNin at e
  split at e
  · rename_i y d
    obtain ⟨o, ks, j, rfl, hj, e⟩ := dctAt_ok e
    cases e
    obtain ⟨x', y', g1, g2, rfl, r1, r2, rfl⟩ := reps2 r
    obtain ⟨rfl, rfl⟩ := keyT_ok hj r1
    obtain ⟨a, us, g, rfl, h2, h3, h4, h5⟩ := r2.dct s (nd_app nd).2
    obtain ⟨i1, i2⟩ := h3.get (k := j) h4
    cases w : getT ks j with
    | some t =>
      obtain ⟨v, _, hv, _⟩ := i1 t w
      exact ⟨_, _, rfl, a, some v, rfl, .inl ⟨us, j, h2, rfl, hv.symm⟩, by rw [w] at q; exact give s (fun _ _ => rep_bl) q⟩
    | none => exact ⟨_, _, rfl, a, none, rfl, .inl ⟨us, j, h2, rfl, (i2 w).symm⟩, by rw [w] at q; exact give s (fun _ _ => rep_bl) q⟩
  · cases e
theorem s_dix : CallS K ca (fun vs H Q => ∃ x y, vs = [x, y] ∧ ∃ a v, x = .ref a ∧ DGet H a y (some v) ∧ Q v H) oDIx := by
  intro F H ts vs f t Q s r nd e q
  unfold oDIx at e
  split at e
  · rename_i d y
    obtain ⟨o, ks, j, rfl, hj, e⟩ := dctAt_ok e
    obtain ⟨x', y', g1, g2, rfl, r1, r2, rfl⟩ := reps2 r
    obtain ⟨rfl, rfl⟩ := keyT_ok hj r2
    obtain ⟨a, us, g, rfl, h2, h3, h4, h5⟩ := r1.dct s (nd_app nd).1
    obtain ⟨i1, i2⟩ := h3.get (k := j) h4
    cases w : getT ks j with
    | some t =>
      rw [w] at e
      cases e
      obtain ⟨v, g', hv, hr, hn, hg⟩ := i1 _ w
      exact ⟨_, _, rfl, a, v, rfl, .inl ⟨us, j, h2, rfl, hv.symm⟩, keep s hr hn (fun a ha => List.mem_append_left _ (h5 a (hg a ha))) q⟩
    | none => rw [w] at e; cases e
  · cases e
theorem s_dget : CallS K ca (fun vs H Q => ∃ x y z, vs = [x, y, z] ∧ ∃ a, x = .ref a ∧ IsD H a ∧ ∃ o, DGet H a y o ∧ Q (o.getD z) H) oDGet := by
  intro F H ts vs f t Q s r nd e q
  unfold oDGet at e
  split at e
  · rename_i d y z
    obtain ⟨o, ks, j, rfl, hj, e⟩ := dctAt_ok e
    cases e
    obtain ⟨x', y', z', g1, g2, g3, rfl, r1, r2, r3, rfl⟩ := reps3 r
    obtain ⟨rfl, rfl⟩ := keyT_ok hj r2
    obtain ⟨a, us, g, rfl, h2, h3, h4, h5⟩ := r1.dct s (nd_app nd).1
    obtain ⟨i1, i2⟩ := h3.get (k := j) h4
    refine ⟨_, _, _, rfl, a, rfl, .inl ⟨us, h2⟩, ?_⟩
    cases w : getT ks j with
    | some t =>
      rw [w] at q
      obtain ⟨v, g', hv, hr, hn, hg⟩ := i1 _ w
      exact ⟨some v, .inl ⟨us, j, h2, rfl, hv.symm⟩, keep s hr hn (fun a ha => List.mem_append_left _ (h5 a (hg a ha))) q⟩
    | none =>
      rw [w] at q
      exact ⟨none, .inl ⟨us, j, h2, rfl, (i2 w).symm⟩, keep s r3 (nd_app (nd_app nd).2).2 (fun a ha => List.mem_append_right _ (List.mem_append_right _ ha)) q⟩
  · cases e
/-- dict(pairs) -/
def pairsT : List T → Option (List (Key × T))
  | [] => some []
  | .tup [k, x] :: ts => match keyT k, pairsT ts with
    | some j, some r => if x.ow then none else some ((j, x) :: r)
    | _, _ => none
  | _ => none
def oDict : List T → R T
  | [.lst _ xs] => match pairsT xs with
    | some ks => .ok (.dct true (mergeT [] ks))
    | none => stk
  | _ => stk
def eDnew : EM := fun env => .ok (.dct true [], env)
theorem te_dnew {Q : VK} (h : TEof K ca md eDnew σ H Q) : tDNewK σ H Q := by
  obtain ⟨F, env, fp, t, env', s, e, k⟩ := h
  cases e
  intro p hp
  have g : Go F H (fun _ => False) F (upd H p (.dK [])) (· = p) := Go.newO s.sub hp fun b z => .inr (by rw [z]; exact hp)
  have g0 : Go F H (OwM md fp) F H (OwM md fp) := Go.refl s.sub fun _ z => z
  refine k (.ref p) _ F fp [p] (g0.trans g (fun _ z => z.elim) fun a z => ?_) Keep.refl (s.of_go g fun _ _ z => z) ⟨?_, by simp, fun a ha z => ?_⟩
  · rcases z with z | z
    · exact .inr z
    · exact .inl (List.mem_singleton.mp z)
  · simp only [Rep]
    exact ⟨p, [], [], rfl, upd_same, none_of_sub s.sub hp, by simp only [Repk]; trivial, rfl⟩
  · rw [List.mem_singleton.mp ha] at z
    exact (s.alive p z).1 hp
def oSorted : List T → R T
  | [.lst _ xs] => match intsOf xs with
    | some ns => .ok (.lst true ((ns.mergeSort (fun a b => decide (a ≤ b))).map T.int))
    | none => stk
  | _ => stk
theorem reps_ints : ∀ ns : List Int, Reps K ca F H (ns.map T.int) (ns.map V.int) []
  | [] => by simp only [List.map_nil, Reps]; trivial
  | n :: ns => by
    simp only [List.map_cons, Reps]
    exact ⟨_, _, [], [], rfl, rep_int, reps_ints ns, rfl⟩
end
end QL
namespace QL
open PySem L2 RZ

inductive Stp where
  | ix (k : Int)
  | fd (c x : Str)
def setF : List (Str × T) → Str → T → List (Str × T)
  | [], _, _ => []
  | (k, t) :: r, x, y => if x == k then (k, y) :: r else (k, t) :: setF r x y
def T.foc : List Stp → T → Option T
  | [], t => some t
  | .ix k :: p, t => match t with
    | .lst _ xs => (atI xs k).bind (T.foc p)
    | .tup xs => (atI xs k).bind (T.foc p)
    | _ => none
  | .fd c x :: p, t => match t with
    | .obj d fs => if c = d then (fs.lookup x).bind (T.foc p) else none
    | _ => none
/-- the place filled anew -/
def T.upf : List Stp → T → T → Option T
  | [], _, u => some u
  | .ix k :: p, t, u => match t with
    | .lst true xs => (ixN xs.length k).bind fun n => (xs[n]?).bind fun y => (T.upf p y u).map fun z => .lst true (xs.set n z)
    | .tup xs => (ixN xs.length k).bind fun n => (xs[n]?).bind fun y => (T.upf p y u).map fun z => .tup (xs.set n z)
    | _ => none
  | .fd c x :: p, t, u => match t with
    | .obj d fs => (fs.lookup x).bind fun y => (T.upf p y u).map fun z => .obj d (setF fs x z)
    | _ => none
def Via (K : PySem.W.Frag) (ca : Ca) (H : Hp) : List Stp → V → V → Prop
  | [], v, w => v = w
  | .ix k :: p, v, w => ∃ a us y, v = .ref a ∧ (SqL K H a us ∨ SqT K H a us) ∧ atI us k = some y ∧ Via K ca H p y w
  | .fd c x :: p, v, w => ∃ a dx gs y, v = .ref a ∧ H a = some (.ins (ca.cl c) dx gs) ∧ gs.lookup x = some y ∧ Via K ca H p y w
section
variable {K : PySem.W.Frag} {ca : Ca} {F F' F1 H H' H1 : Hp} {O O' : Addr → Prop} {σ : L2.St} {env : En} {fp : Fp} {t : T} {v : V} {fv : List Addr} {ts : List T} {vs : List V} {md : List Nat}
theorem Reps.foc : ∀ {xs : List T} {vs : List V} {g : List Addr} {n : Nat} {y : T}, Reps K ca F H xs vs g → g.Nodup → xs[n]? = some y →
    ∃ (z : V) (fy gr : List Addr), vs[n]? = some z ∧ Rep K ca F H y z fy ∧ (∀ a, a ∈ g ↔ a ∈ gr ∨ a ∈ fy) ∧ fy.Nodup ∧ gr.Nodup ∧ (∀ a ∈ fy, a ∉ gr) ∧
      ∀ F' H' y' fy', Sub F F' → (∀ a ∈ gr, H' a = H a ∧ F' a = none) → Rep K ca F' H' y' z fy' → fy'.Nodup → (∀ a ∈ fy', a ∉ gr) → ∃ g', Reps K ca F' H' (xs.set n y') vs g' ∧ g'.Nodup ∧ ∀ a, a ∈ g' ↔ a ∈ gr ∨ a ∈ fy'
  | [], _, _, n, y, _, _, e => by simp at e
  | x :: xs, _, _, 0, y, h, nd, e => by
    simp only [Reps] at h
    obtain ⟨v, us, f, g, rfl, r1, r2, rfl⟩ := h
    have hn := List.nodup_append.mp nd
    simp only [List.getElem?_cons_zero, Option.some.injEq] at e
    subst e
    refine ⟨v, f, g, rfl, r1, fun a => by rw [List.mem_append, or_comm], hn.1, hn.2.1, fun a ha hb => hn.2.2 a ha a hb rfl, fun F' H' y' fy' s hfr r' nd' dj => ?_⟩
    refine ⟨fy' ++ g, ?_, List.nodup_append.mpr ⟨nd', hn.2.1, fun a ha b hb e => by subst e; exact dj a ha hb⟩, fun a => by rw [List.mem_append, or_comm]⟩
    simp only [List.set_cons_zero, Reps]
    exact ⟨v, us, fy', g, rfl, r', Reps.go s xs r2 (fun a ha => (hfr a ha).1) (fun a ha => (hfr a ha).2), rfl⟩
  | x :: xs, _, _, n + 1, y, h, nd, e => by
    simp only [Reps] at h
    obtain ⟨v, us, f, g, rfl, r1, r2, rfl⟩ := h
    have hn := List.nodup_append.mp nd
    simp only [List.getElem?_cons_succ] at e
    obtain ⟨z, fy, gr, h1, h2, h3, h4, h5, h6, h7⟩ := Reps.foc r2 hn.2.1 e
    refine ⟨z, fy, f ++ gr, by simpa using h1, h2, fun a => by rw [List.mem_append, List.mem_append, h3, or_assoc], h4, List.nodup_append.mpr ⟨hn.1, h5, fun a ha b hb e => hn.2.2 a ha b ((h3 b).mpr (.inl hb)) e⟩, fun a ha hb => ?_, fun F' H' y' fy' s hfr r' nd' dj => ?_⟩
    · rcases List.mem_append.mp hb with hb | hb
      · exact hn.2.2 a hb a ((h3 a).mpr (.inr ha)) rfl
      · exact h6 a ha hb
    · obtain ⟨g', i1, i2, i3⟩ := h7 F' H' y' fy' s (fun a ha => hfr a (List.mem_append_right _ ha)) r' nd' fun a ha hb => dj a ha (List.mem_append_right _ hb)
      refine ⟨f ++ g', ?_, List.nodup_append.mpr ⟨hn.1, i2, fun a ha b hb e => ?_⟩, fun a => by rw [List.mem_append, List.mem_append, i3, or_assoc]⟩
      · simp only [List.set_cons_succ, Reps]
        exact ⟨v, us, f, g', rfl, Rep.go s x r1 (fun a ha => (hfr a (List.mem_append_left _ ha)).1) (fun a ha => (hfr a (List.mem_append_left _ ha)).2), i1, rfl⟩
      · subst e
        rcases (i3 a).mp hb with q | q
        · exact hn.2.2 a ha a ((h3 a).mpr (.inl q)) rfl
        · exact dj a q (List.mem_append_left _ ha)
theorem Repf.foc {x : Str} : ∀ {fs : List (Str × T)} {gs : List (Str × V)} {g : List Addr} {y : T}, Repf K ca F H fs gs g → g.Nodup → fs.lookup x = some y →
    ∃ (z : V) (fy gr : List Addr), gs.lookup x = some z ∧ Rep K ca F H y z fy ∧ (∀ a, a ∈ g ↔ a ∈ gr ∨ a ∈ fy) ∧ fy.Nodup ∧ gr.Nodup ∧ (∀ a ∈ fy, a ∉ gr) ∧
      ∀ F' H' y' fy', Sub F F' → (∀ a ∈ gr, H' a = H a ∧ F' a = none) → Rep K ca F' H' y' z fy' → fy'.Nodup → (∀ a ∈ fy', a ∉ gr) → ∃ g', Repf K ca F' H' (setF fs x y') gs g' ∧ g'.Nodup ∧ ∀ a, a ∈ g' ↔ a ∈ gr ∨ a ∈ fy'
  | [], _, _, y, _, _, e => by simp at e
  | (k, t) :: fs, _, _, y, h, nd, e => by
    simp only [Repf] at h
    obtain ⟨v, us, f, g, rfl, r1, r2, rfl⟩ := h
    have hn := List.nodup_append.mp nd
    simp only [List.lookup_cons] at e ⊢
    cases hk : x == k with
    | true =>
      rw [hk] at e
      cases e
      refine ⟨v, f, g, rfl, r1, fun a => by rw [List.mem_append, or_comm], hn.1, hn.2.1, fun a ha hb => hn.2.2 a ha a hb rfl, fun F' H' y' fy' s hfr r' nd' dj => ?_⟩
      refine ⟨fy' ++ g, ?_, List.nodup_append.mpr ⟨nd', hn.2.1, fun a ha b hb e => by subst e; exact dj a ha hb⟩, fun a => by rw [List.mem_append, or_comm]⟩
      simp only [setF, hk, if_true, Repf]
      exact ⟨v, us, fy', g, rfl, r', Repf.go s fs r2 (fun a ha => (hfr a ha).1) (fun a ha => (hfr a ha).2), rfl⟩
    | false =>
      rw [hk] at e
      obtain ⟨z, fy, gr, h1, h2, h3, h4, h5, h6, h7⟩ := Repf.foc r2 hn.2.1 e
      refine ⟨z, fy, f ++ gr, h1, h2, fun a => by rw [List.mem_append, List.mem_append, h3, or_assoc], h4, List.nodup_append.mpr ⟨hn.1, h5, fun a ha b hb e => hn.2.2 a ha b ((h3 b).mpr (.inl hb)) e⟩, fun a ha hb => ?_, fun F' H' y' fy' s hfr r' nd' dj => ?_⟩
      · rcases List.mem_append.mp hb with hb | hb
        · exact hn.2.2 a hb a ((h3 a).mpr (.inr ha)) rfl
        · exact h6 a ha hb
      · obtain ⟨g', i1, i2, i3⟩ := h7 F' H' y' fy' s (fun a ha => hfr a (List.mem_append_right _ ha)) r' nd' fun a ha hb => dj a ha (List.mem_append_right _ hb)
        refine ⟨f ++ g', ?_, List.nodup_append.mpr ⟨hn.1, i2, fun a ha b hb e => ?_⟩, fun a => by rw [List.mem_append, List.mem_append, i3, or_assoc]⟩
        · simp only [setF, hk, Repf]
          exact ⟨v, us, f, g', rfl, Rep.go s t r1 (fun a ha => (hfr a (List.mem_append_left _ ha)).1) (fun a ha => (hfr a (List.mem_append_left _ ha)).2), i1, rfl⟩
        · subst e
          rcases (i3 a).mp hb with q | q
          · exact hn.2.2 a ha a ((h3 a).mpr (.inl q)) rfl
          · exact dj a q (List.mem_append_left _ ha)
/-- a place, its value, what is around -/
structure Foc (K : PySem.W.Frag) (ca : Ca) (F H : Hp) (p : List Stp) (t u : T) (v w : V) (f fu fr : List Addr) : Prop where
  via : ∀ F1 H1, Sub F F1 → Sub F1 H1 → (∀ a ∈ fr, H1 a = H a) → Via K ca H1 p v w
  rep : Rep K ca F H u w fu
  mem : ∀ a, a ∈ f ↔ a ∈ fr ∨ a ∈ fu
  ndu : fu.Nodup
  dis : ∀ a ∈ fu, a ∉ fr
  ndr : fr.Nodup
  upd : ∀ F' H' u' fu' t', Sub F F' → (∀ a ∈ fr, H' a = H a ∧ F' a = none) → Rep K ca F' H' u' w fu' → fu'.Nodup → (∀ a ∈ fu', a ∉ fr) → T.upf p t u' = some t' → ∃ f', Rep K ca F' H' t' v f' ∧ f'.Nodup ∧ ∀ a, a ∈ f' ↔ a ∈ fr ∨ a ∈ fu'
theorem atI_get {α : Type} {xs : List α} {k : Int} {y : α} (h : atI xs k = some y) : ∃ n, ixN xs.length k = some n ∧ xs[n]? = some y := atI_some h
theorem atI_of {α : Type} {xs : List α} {k : Int} {n : Nat} {y : α} (h : ixN xs.length k = some n) (h2 : xs[n]? = some y) : atI xs k = some y := by
  unfold atI; rw [h]; exact h2
theorem Rep.foc : ∀ (p : List Stp) (t u : T) {v : V} {f : List Addr}, Rep K ca F H t v f → f.Nodup → T.foc p t = some u → ∃ w fu fr, Foc K ca F H p t u v w f fu fr
  | [], t, u, v, f, r, nd, e => by
    cases e
    exact ⟨v, f, [], ⟨fun _ _ _ _ _ => rfl, r, fun a => by simp, nd, fun _ _ => by simp, List.nodup_nil, fun F' H' u' fu' t' _ _ r' nd' _ e => by cases e; exact ⟨fu', r', nd', fun a => by simp⟩⟩⟩
  | .ix k :: p, t, u, v, f, r, nd, e => by
    cases t with
    | lst o xs =>
      have e : (atI xs k).bind (T.foc p) = some u := e
      obtain ⟨y, e1, e2⟩ := Option.bind_eq_some_iff.mp e
      obtain ⟨n, hn1, hn2⟩ := atI_get e1
      cases o with
      | true =>
        simp only [Rep] at r
        obtain ⟨a, us, g, rfl, h1, h2, h3, rfl⟩ := r
        have hna := List.nodup_cons.mp nd
        obtain ⟨z, fy, gr, q1, q2, q3, q4, q5, q6, q7⟩ := h3.foc hna.2 hn2
        obtain ⟨w, fu, fr, c⟩ := Rep.foc p y u q2 q4 e2
        refine ⟨w, fu, a :: (gr ++ fr), ⟨fun F1 H1 s1 s2 hh => ?_, c.rep, fun b => ?_, c.ndu, fun b hb hc => ?_, ?_, fun F' H' u' fu' t' s' hfr r' nd' dj e' => ?_⟩⟩
        · refine ⟨a, us, z, rfl, .inl (SqL.of (by rw [hh a List.mem_cons_self]; exact h1)), atI_of (by rw [Reps.length h3]; exact hn1) q1, c.via F1 H1 s1 s2 fun b hb => hh b (List.mem_cons_of_mem _ (List.mem_append_right _ hb))⟩
        · simp only [List.mem_cons, List.mem_append, q3, c.mem, or_assoc]
        · rcases List.mem_cons.mp hc with rfl | hc
          · exact hna.1 ((q3 _).mpr (.inr ((c.mem _).mpr (.inr hb))))
          · rcases List.mem_append.mp hc with hc | hc
            · exact q6 b ((c.mem b).mpr (.inr hb)) hc
            · exact c.dis b hb hc
        · refine List.nodup_cons.mpr ⟨fun hc => ?_, List.nodup_append.mpr ⟨q5, c.ndr, fun b hb d hd e => by subst e; exact q6 b ((c.mem b).mpr (.inl hd)) hb⟩⟩
          rcases List.mem_append.mp hc with hc | hc
          · exact hna.1 ((q3 _).mpr (.inl hc))
          · exact hna.1 ((q3 _).mpr (.inr ((c.mem _).mpr (.inl hc))))
        · simp only [T.upf, hn1, hn2, Option.bind_some] at e'
          obtain ⟨y', e3, e4⟩ := Option.map_eq_some_iff.mp e'
          subst e4
          obtain ⟨fy', i1, i2, i3⟩ := c.upd F' H' u' fu' y' s' (fun b hb => hfr b (List.mem_cons_of_mem _ (List.mem_append_right _ hb))) r' nd' (fun b hb hc => dj b hb (List.mem_cons_of_mem _ (List.mem_append_right _ hc))) e3
          have dj2 : ∀ b ∈ fy', b ∉ gr := fun b hb hc => by
            rcases (i3 b).mp hb with q | q
            · exact q6 b ((c.mem b).mpr (.inl q)) hc
            · exact dj b q (List.mem_cons_of_mem _ (List.mem_append_left _ hc))
          obtain ⟨g', j1, j2, j3⟩ := q7 F' H' y' fy' s' (fun b hb => hfr b (List.mem_cons_of_mem _ (List.mem_append_left _ hb))) i1 i2 dj2
          have ha := hfr a List.mem_cons_self
          refine ⟨a :: g', ?_, List.nodup_cons.mpr ⟨fun hc => ?_, j2⟩, fun b => ?_⟩
          · simp only [Rep]
            exact ⟨a, us, g', rfl, by rw [ha.1]; exact h1, ha.2, j1, rfl⟩
          · rcases (j3 a).mp hc with q | q
            · exact hna.1 ((q3 _).mpr (.inl q))
            · rcases (i3 a).mp q with q | q
              · exact hna.1 ((q3 _).mpr (.inr ((c.mem _).mpr (.inl q))))
              · exact dj a q List.mem_cons_self
          · simp only [List.mem_cons, List.mem_append, j3, i3, or_assoc]
      | false =>
        simp only [Rep] at r
        obtain ⟨a, us, rfl, h1, h3, rfl⟩ := r
        obtain ⟨z, fy, gr, q1, q2, q3, q4, q5, q6, q7⟩ := h3.foc List.nodup_nil hn2
        have hgr : gr = [] := List.eq_nil_iff_forall_not_mem.mpr fun b hb => absurd ((q3 b).mpr (.inl hb)) (by simp)
        have hfy : fy = [] := List.eq_nil_iff_forall_not_mem.mpr fun b hb => absurd ((q3 b).mpr (.inr hb)) (by simp)
        subst hgr hfy
        obtain ⟨w, fu, fr, c⟩ := Rep.foc p y u q2 q4 e2
        refine ⟨w, fu, fr, ⟨fun F1 H1 s1 s2 hh => ⟨a, us, z, rfl, .inl (SqL.of (s2 _ _ (s1 _ _ h1))), atI_of (by rw [Reps.length h3]; exact hn1) q1, c.via F1 H1 s1 s2 hh⟩, c.rep, c.mem, c.ndu, c.dis, c.ndr, fun F' H' u' fu' t' s' hfr r' nd' dj e' => by simp [T.upf] at e'⟩⟩
    | tup xs =>
      have e : (atI xs k).bind (T.foc p) = some u := e
      obtain ⟨y, e1, e2⟩ := Option.bind_eq_some_iff.mp e
      obtain ⟨n, hn1, hn2⟩ := atI_get e1
      simp only [Rep] at r
      obtain ⟨a, us, rfl, h1, h3⟩ := r
      obtain ⟨z, fy, gr, q1, q2, q3, q4, q5, q6, q7⟩ := h3.foc nd hn2
      obtain ⟨w, fu, fr, c⟩ := Rep.foc p y u q2 q4 e2
      refine ⟨w, fu, gr ++ fr, ⟨fun F1 H1 s1 s2 hh => ?_, c.rep, fun b => ?_, c.ndu, fun b hb hc => ?_, ?_, fun F' H' u' fu' t' s' hfr r' nd' dj e' => ?_⟩⟩
      · refine ⟨a, us, z, rfl, .inr (s2.sqT (s1.sqT h1.t)), atI_of (by rw [Reps.length h3]; exact hn1) q1, c.via F1 H1 s1 s2 fun b hb => hh b (List.mem_append_right _ hb)⟩
      · rw [List.mem_append, q3, c.mem, or_assoc]
      · rcases List.mem_append.mp hc with hc | hc
        · exact q6 b ((c.mem b).mpr (.inr hb)) hc
        · exact c.dis b hb hc
      · exact List.nodup_append.mpr ⟨q5, c.ndr, fun b hb d hd e => by subst e; exact q6 b ((c.mem b).mpr (.inl hd)) hb⟩
      · simp only [T.upf, hn1, hn2, Option.bind_some] at e'
        obtain ⟨y', e3, e4⟩ := Option.map_eq_some_iff.mp e'
        subst e4
        obtain ⟨fy', i1, i2, i3⟩ := c.upd F' H' u' fu' y' s' (fun b hb => hfr b (List.mem_append_right _ hb)) r' nd' (fun b hb hc => dj b hb (List.mem_append_right _ hc)) e3
        have dj2 : ∀ b ∈ fy', b ∉ gr := fun b hb hc => by
          rcases (i3 b).mp hb with q | q
          · exact q6 b ((c.mem b).mpr (.inl q)) hc
          · exact dj b q (List.mem_append_left _ hc)
        obtain ⟨g', j1, j2, j3⟩ := q7 F' H' y' fy' s' (fun b hb => hfr b (List.mem_append_left _ hb)) i1 i2 dj2
        refine ⟨g', ?_, j2, fun b => ?_⟩
        · simp only [Rep]
          exact ⟨a, us, rfl, s'.sqN h1, j1⟩
        · rw [List.mem_append, j3, i3, or_assoc]
    | _ => cases e
  | .fd c x :: p, t, u, v, f, r, nd, e => by
    cases t with
    | obj d fs =>
      by_cases hcd : c = d
      case neg => exact absurd (show (if c = d then (fs.lookup x).bind (T.foc p) else none) = some u from e) (by rw [if_neg hcd]; simp)
      subst hcd
      have e : (fs.lookup x).bind (T.foc p) = some u := by
        have e : (if c = c then (fs.lookup x).bind (T.foc p) else none) = some u := e
        rw [if_pos rfl] at e
        exact e
      obtain ⟨y, e1, e2⟩ := Option.bind_eq_some_iff.mp e
      simp only [Rep] at r
      obtain ⟨a, dx, us, g, rfl, h1, h2, h3, rfl⟩ := r
      have hna := List.nodup_cons.mp nd
      obtain ⟨z, fy, gr, q1, q2, q3, q4, q5, q6, q7⟩ := h3.foc hna.2 e1
      obtain ⟨w, fu, fr, c'⟩ := Rep.foc p y u q2 q4 e2
      refine ⟨w, fu, a :: (gr ++ fr), ⟨fun F1 H1 s1 s2 hh => ?_, c'.rep, fun b => ?_, c'.ndu, fun b hb hc => ?_, ?_, fun F' H' u' fu' t' s' hfr r' nd' dj e' => ?_⟩⟩
      · exact ⟨a, dx, us, z, rfl, by rw [hh a List.mem_cons_self]; exact h1, q1, c'.via F1 H1 s1 s2 fun b hb => hh b (List.mem_cons_of_mem _ (List.mem_append_right _ hb))⟩
      · simp only [List.mem_cons, List.mem_append, q3, c'.mem, or_assoc]
      · rcases List.mem_cons.mp hc with rfl | hc
        · exact hna.1 ((q3 _).mpr (.inr ((c'.mem _).mpr (.inr hb))))
        · rcases List.mem_append.mp hc with hc | hc
          · exact q6 b ((c'.mem b).mpr (.inr hb)) hc
          · exact c'.dis b hb hc
      · refine List.nodup_cons.mpr ⟨fun hc => ?_, List.nodup_append.mpr ⟨q5, c'.ndr, fun b hb d hd e => by subst e; exact q6 b ((c'.mem b).mpr (.inl hd)) hb⟩⟩
        rcases List.mem_append.mp hc with hc | hc
        · exact hna.1 ((q3 _).mpr (.inl hc))
        · exact hna.1 ((q3 _).mpr (.inr ((c'.mem _).mpr (.inl hc))))
      · simp only [T.upf, e1, Option.bind_some] at e'
        obtain ⟨y', e3, e4⟩ := Option.map_eq_some_iff.mp e'
        subst e4
        obtain ⟨fy', i1, i2, i3⟩ := c'.upd F' H' u' fu' y' s' (fun b hb => hfr b (List.mem_cons_of_mem _ (List.mem_append_right _ hb))) r' nd' (fun b hb hc => dj b hb (List.mem_cons_of_mem _ (List.mem_append_right _ hc))) e3
        have dj2 : ∀ b ∈ fy', b ∉ gr := fun b hb hc => by
          rcases (i3 b).mp hb with q | q
          · exact q6 b ((c'.mem b).mpr (.inl q)) hc
          · exact dj b q (List.mem_cons_of_mem _ (List.mem_append_left _ hc))
        obtain ⟨g', j1, j2, j3⟩ := q7 F' H' y' fy' s' (fun b hb => hfr b (List.mem_cons_of_mem _ (List.mem_append_left _ hb))) i1 i2 dj2
        have ha := hfr a List.mem_cons_self
        refine ⟨a :: g', ?_, List.nodup_cons.mpr ⟨fun hc => ?_, j2⟩, fun b => ?_⟩
        · simp only [Rep]
          exact ⟨a, dx, us, g', rfl, by rw [ha.1]; exact h1, ha.2, j1, rfl⟩
        · rcases (j3 a).mp hc with q | q
          · exact hna.1 ((q3 _).mpr (.inl q))
          · rcases (i3 a).mp q with q | q
            · exact hna.1 ((q3 _).mpr (.inr ((c'.mem _).mpr (.inl q))))
            · exact dj a q List.mem_cons_self
        · simp only [List.mem_cons, List.mem_append, j3, i3, or_assoc]
    | _ => cases e
def tP (K : PySem.W.Frag) (ca : Ca) (i : Nat) (p : List Stp) : TE := fun σ H Q => ∃ v w, σ[i]? = some (some v) ∧ Via K ca H p v w ∧ Q w H
/-- what stands at a place within a slot's value, as an operand -/
def bP (i : Nat) (p : List Stp) : BM := fun env => match (T.at env i).bind (T.foc p) with
  | some u => .ok (.br u i, env)
  | none => stk
theorem at_slot {i : Nat} {u : T} {p : List Stp} (h : (T.at env i).bind (T.foc p) = some u) : ∃ t, env[i]? = some (some t) ∧ T.foc p t = some u := by
  obtain ⟨t, e1, e2⟩ := Option.bind_eq_some_iff.mp h
  exact ⟨t, T.at_some e1, e2⟩
theorem tb_p {i : Nat} {p : List Stp} {Q : VK} (hi : i ∉ md) (h : TBof K ca md (bP i p) σ H Q) : tP K ca i p σ H Q := by
  obtain ⟨F, env, fp, b, env', s, e, k⟩ := h
  unfold bP at e
  split at e
  case h_2 => cases e
  case h_1 u hu =>
    cases e
    obtain ⟨t, et, ef⟩ := at_slot hu
    obtain ⟨v, e1, r⟩ := s.slot i t et
    obtain ⟨w, fu, fr, c⟩ := Rep.foc p t u r (s.nd i) ef
    refine ⟨v, w, e1, c.via F H (Sub.refl F) s.sub (fun _ _ => rfl), k w H F fp [] (Go.refl s.sub fun b z => z.elim id (fun z => nomatch z)) Keep.refl s ?_ List.nodup_nil (fun _ z => nomatch z)⟩
    simp only [Ops]
    exact ⟨w, [], [], [], rfl, ⟨hi, rfl, fu, c.rep, fun a ha => (c.mem a).mpr (.inr ha)⟩, ⟨rfl, rfl⟩, rfl⟩
def eMutP (i : Nat) (p : List Stp) (sh : T → Bool) (m : T → List T → R (T × T)) (f : AM) : EM := fun env => do
  let _ ← ck (match (T.at env i).bind (T.foc p) with | some t => sh t | none => false)
  let (bs, env1) ← f env
  let ts ← tmps bs
  match T.at env1 i with
  | some t => match T.foc p t with
    | some u => do
      let (u', w) ← m u ts
      match T.upf p t u' with
      | some t' => .ok (w, env1.set i (some t'))
      | none => stk
    | none => stk
  | none => stk
theorem te_mutP {md0 : List Nat} {i : Nat} {p : List Stp} {sh : T → Bool} {m : T → List T → R (T × T)} {ty : String} {r : V → List V → Hp → VK → Prop} {f : AM} {Q : VK} (him : i ∈ md) (hm : ∀ j, j ∈ md0 → j ∈ md) (hi0 : i ∉ md0) (hs : MutS K ca r m)
    (hty : ∀ (F H : Hp) (t : T) (v : V) (fv : List Addr), sh t = true → Sub F H → Rep K ca F H t v fv → tyV K ty v H) (h : TEof K ca md (eMutP i p sh m f) σ H Q) : tBM K ty r (tP K ca i p) (TAof K ca md0 f) σ H Q := by
  obtain ⟨F, env, fp, u, env', s, e, k⟩ := h
  obtain ⟨_, c0, e0⟩ := bind_ok e
  have c0 := ck_ok c0
  obtain ⟨⟨bs, env1⟩, e1, ea⟩ := bind_ok e0
  obtain ⟨ts, e2, eb⟩ := bind_ok ea
  clear e ea e0
  cases h0 : (T.at env i).bind (T.foc p) with
  | none => rw [h0] at c0; cases c0
  | some u0 =>
    rw [h0] at c0
    obtain ⟨t0, et0, ef0⟩ := at_slot h0
    obtain ⟨v0, hv0, r0⟩ := s.slot i t0 et0
    obtain ⟨w0, fu, fr, c⟩ := Rep.foc p t0 u0 r0 (s.nd i) ef0
    refine ⟨v0, w0, hv0, c.via F H (Sub.refl F) s.sub (fun _ _ => rfl), hty F H u0 w0 fu c0 s.sub c.rep, F, env, fp, bs, env1, s, e1, fun vs H1 F1 fp1 ft g1 k1 s1 o1 n1 d1 => ?_⟩
    have et1 : env1[i]? = some (some t0) := by rw [k1.env i hi0]; exact et0
    have ea1 : T.at env1 i = some t0 := by unfold T.at; rw [et1]; rfl
    rw [ea1] at eb
    simp only [ef0] at eb
    obtain ⟨⟨u', w'⟩, e3, e4⟩ := bind_ok eb
    cases h5 : T.upf p t0 u' with
    | none => simp only [h5] at e4; cases e4
    | some t' =>
      simp only [h5] at e4
      cases e4
      have efp : fp1 i = fp i := k1.fp i hi0
      have nom : ∀ a, a ∈ fp i → ¬ OwM md0 fp a := fun a ha ⟨j, hj, hj2⟩ => hi0 (by rw [s.one i j a ha hj2]; exact hj)
      have alv : ∀ a, a ∈ fp i → H1 a = H a ∧ F1 a = none ∧ H a ≠ none := fun a ha => by
        obtain ⟨q1, q2⟩ := s.alive a ⟨i, ha⟩
        refine ⟨?_, (s1.alive a ⟨i, by rw [efp]; exact ha⟩).2, q1⟩
        cases w : H a with
        | none => exact absurd w q1
        | some o => exact g1.frame a o w (nom a ha)
      have fu_in : ∀ a ∈ fu, a ∈ fp i := fun a ha => (c.mem a).mpr (.inr ha)
      have fr_in : ∀ a ∈ fr, a ∈ fp i := fun a ha => (c.mem a).mpr (.inl ha)
      have ru : Rep K ca F1 H1 u0 w0 fu := Rep.go g1.ext u0 c.rep (fun a ha => (alv a (fu_in a ha)).1) (fun a ha => (alv a (fu_in a ha)).2.1)
      refine hs F1 H1 u0 w0 fu ts vs ft u' u Q s1.sub ru c.ndu (o1.tmps e2) n1 (fun a ha z => d1 a z ⟨i, by rw [efp]; exact fu_in a ha⟩) e3 fun w H2 F2 fu' fw g2 r1 r2 n2 n3 d2 => ?_
      have off_fr : ∀ a ∈ fr, ¬ (a ∈ fu ∨ a ∈ ft) := fun a ha z => z.elim (fun q => c.dis a q ha) fun q => d1 a q ⟨i, by rw [efp]; exact fr_in a ha⟩
      have fr2 : ∀ a ∈ fr, H2 a = H a ∧ F2 a = none := fun a ha => by
        obtain ⟨q1, q2, q3⟩ := alv a (fr_in a ha)
        constructor
        · cases w : H a with
          | none => exact absurd w q3
          | some o => exact g2.frame a o (by rw [q1]; exact w) (off_fr a ha)
        · cases w : F2 a with
          | none => rfl
          | some o =>
            exfalso
            rcases g2.nofz a (by rw [w]; simp) with z | z | z
            · exact z q2
            · exact off_fr a ha z
            · exact q3 (by rw [← q1]; exact z)
      obtain ⟨f', i1, i2, i3⟩ := c.upd F2 H2 u' fu' t' (g1.ext.trans g2.ext) fr2 r1 n2 (fun a ha hb => by
        rcases g2.fresh a (.inl ha) with z | z
        · exact off_fr a hb z
        · exact (alv a (fr_in a hb)).2.2 (by rw [← (alv a (fr_in a hb)).1]; exact z)) h5
      have g3 : Go F1 H1 (fun a => a ∈ fp1 i ∨ a ∈ ft) F2 H2 (fun a => a ∈ f' ∨ a ∈ fw) := by
        refine ⟨g2.ext, g2.sub, fun b o eb n => g2.frame b o eb fun z => n (z.imp (fun q => by rw [efp]; exact fu_in b q) id), fun b eb => (g2.nofz b eb).imp id (Or.imp (fun z => z.imp (fun q => by rw [efp]; exact fu_in b q) id) id), fun b z => ?_⟩
        rcases z with z | z
        · rcases (i3 b).mp z with z | z
          · exact .inl (.inl (by rw [efp]; exact fr_in b z))
          · exact (g2.fresh b (.inl z)).imp (fun z => z.imp (fun q => by rw [efp]; exact fu_in b q) id) id
        · exact (g2.fresh b (.inr z)).imp (fun z => z.imp (fun q => by rw [efp]; exact fu_in b q) id) id
      have dw : ∀ a ∈ fw, a ∉ f' := fun a ha hb => by
        rcases (i3 a).mp hb with z | z
        · rcases g2.fresh a (.inr ha) with q | q
          · exact off_fr a z q
          · exact (alv a (fr_in a z)).2.2 (by rw [← (alv a (fr_in a z)).1]; exact q)
        · exact d2 a ha z
      obtain ⟨sP, dP⟩ := s1.replace hv0 g3 (fun a ha => d1 a ha) i1 i2 dw
      refine k w H2 F2 (fpSet fp1 i f') fw (Go.slot him hm g1 k1 g3) ⟨fun j hj => ?_, fun j hj => ?_⟩ sP ⟨r2, n3, dP⟩
      · have hji : j ≠ i := fun z => hj (by rw [z]; exact him)
        rw [fpSet_ne hji]
        exact k1.fp j fun z => hj (hm j z)
      · have hji : i ≠ j := fun z => hj (by rw [← z]; exact him)
        rw [List.getElem?_set_ne hji]
        exact k1.env j fun z => hj (hm j z)
end
end QL
namespace QL
open PySem L2 RZ

section
variable {K : PySem.W.Frag} {ca : Ca} {H : Hp}
theorem Via.snoc {s : Stp} : ∀ {p : List Stp} {v w : V}, Via K ca H (p ++ [s]) v w → ∃ m, Via K ca H p v m ∧ Via K ca H [s] m w
  | [], v, w, h => ⟨v, rfl, h⟩
  | .ix k :: p, v, w, h => by
    obtain ⟨a, us, y, h1, h2, h3, h4⟩ := (show Via K ca H (.ix k :: (p ++ [s])) v w from h)
    obtain ⟨m, q1, q2⟩ := Via.snoc h4
    exact ⟨m, ⟨a, us, y, h1, h2, h3, q1⟩, q2⟩
  | .fd c x :: p, v, w, h => by
    obtain ⟨a, dx, gs, y, h1, h2, h3, h4⟩ := (show Via K ca H (.fd c x :: (p ++ [s])) v w from h)
    obtain ⟨m, q1, q2⟩ := Via.snoc h4
    exact ⟨m, ⟨a, dx, gs, y, h1, h2, h3, q1⟩, q2⟩
end
section
variable {ca : Ca} {X : Cx} {md md0 tv pn : List Nat} {a b c e o : Expr} {es : List Expr} {pos p apos cpos : Pos} {f g h : EM} {bf bg bh : BM} {af : AM} {x : Str} {i : Nat} {pt : List Stp}
abbrev DP (ca : Ca) (X : Cx) (i : Nat) (pt : List Stp) (e : Expr) : Prop := PE X e (tP X.K ca i pt)
theorem p_name (i : Nat) (hN : X.N[i]? = some x := by rfl) (hv : Vis X.env.scope x := by first | exact Or.inl rfl | exact Or.inr (Or.inl rfl) | exact Or.inr (Or.inr rfl)) (hd : (x == ("__debug__" : Str)) = false := by decide) (hcd : (x == ("__classdict__" : Str)) = false := by decide) :
    DP ca X i [] (.Name x pos) := PEm (pv i hN hv hd hcd) fun σ H Q ⟨v, w, h1, h2, q⟩ => ⟨v, h1, by cases h2; exact q⟩
/-- facts of a class -/
structure ClsF (ca : Ca) (K : PySem.W.Frag) (c : Str) (fs : List Str) : Prop where
  cls : Cls K (ca.cl c)
  no : ∀ f, f ∈ fs → NoAttr K (ca.cl c) f
theorem p_fd {cl f : Str} {fs : List Str} (hc : ClsF ca X.K cl fs) (ho : DP ca X i pt o) (hf : f ∈ fs := by decide) (hb : attributeBase o f X.env (eval o X.env) = eval o X.env := by rfl) : DP ca X i (pt ++ [.fd cl f]) (.Attribute o f pos) :=
  PEm (pe_fld ho hb) fun σ H Q ⟨v, w, h1, h2, q⟩ => by
    obtain ⟨m, q1, a, dx, gs, y, rfl, h3, h4, h5⟩ := h2.snoc
    cases h5
    exact ⟨v, .ref a, h1, q1, a, _, dx, gs, _, rfl, h3, hc.cls, hc.no f hf, h4, q⟩
theorem b_p (ho : DP ca X i pt e) (hi : i ∉ md := by decide) : DB ca X md e (bP i pt) := PEm ho fun _ _ _ h => tb_p hi h
theorem d_mutP {name : Str} {id : String} {r : V → List V → Hp → VK → Prop} {m : T → List T → R (T × T)} (slot : Slot "list" name id) (hty : typeOf (.builtin id) = pure (.type "method_descriptor")) (hm : MtR X id r) (hs : MutS X.K ca r m) (md0 : List Nat) (ho : DP ca X i pt o) (ha : DA ca X md0 (e :: es) af)
    (him : i ∈ md := by decide) (hmd : ∀ j, j ∈ md0 → j ∈ md := by decide) (hi0 : i ∉ md0 := by decide)
    (hbase : attributeBase o name X.env (eval o X.env) = eval o X.env := by rfl)
    (hfew : ((backTo cpos (starEach (e :: es) X.env)).all (fun x => !x.1) && (backToKw cpos (keywordEach [] X.env)).all (fun x => x.1.isSome)
      && decide ((e :: es).length + ([] : List Keyword).length + (if ([] : List Keyword).isEmpty then 0 else 1) < 30)) = true := by rfl)
    (hline : (apos.endLine == cpos.line) = true := by rfl) (hst : starEach (e :: es) X.env = (false, eval e X.env) :: starEach es X.env := by rfl) (hplain : (backTo cpos (starEach es X.env)).any (·.1) = false := by rfl) :
    DE ca X md (.Call (.Attribute o name apos) (e :: es) [] cpos) (eMutP i pt T.isLst m af) :=
  PEm (pe_bm PySem.F.plainAttrs_list slot hty hm ho ha hbase hfew hline hst hplain) fun _ _ _ h => te_mutP him hmd hi0 hs ty_lst h
theorem ta_2 {r : List V → Hp → VK → Prop} {Q : VK} {σ : L2.St} {H : Hp} {P : V → V → Hp → Prop} (h : TAof X.K ca md (aCons bf (aCons bg aNil)) σ H (fun vs H1 => r vs H1 Q)) (q : ∀ x y H1, r [x, y] H1 Q → P x y H1) : TBof X.K ca md bf σ H fun x H1 => TBof X.K ca md bg σ H1 fun y H2 => P x y H2 :=
  (ta_cons h : TBof X.K ca md bf σ H _).mono fun x H1 h1 => (ta_cons h1 : TBof X.K ca md bg σ H1 _).mono fun y H2 h2 => q x y H2 (ta_nil h2 : _)
theorem t_din (hu : X.A.units + 1 < cLine) (ha : DB ca X md a bf) (hb : DB ca X md b bg) (h1 : behindInMarks .In b = false := by rfl) : DT ca X md (.Compare a [.In] [b] pos) (tV (eOp oDIn (aCons bf (aCons bg aNil)))) :=
  PTm (pt_cmp (pc_din hu ha hb) h1) fun σ H Q h => ta_2 (te_op s_din (tt_v h)) fun x y H1 ⟨x', y', e, q⟩ => by cases e; exact q
theorem t_dnin (hu : X.A.units + 1 < cLine) (ha : DB ca X md a bf) (hb : DB ca X md b bg) (h1 : behindInMarks .NotIn b = false := by rfl) : DT ca X md (.Compare a [.NotIn] [b] pos) (tV (eOp oDNin (aCons bf (aCons bg aNil)))) :=
  PTm (pt_cmp (pc_dnotin hu ha hb) h1) fun σ H Q h => ta_2 (te_op s_dnin (tt_v h)) fun x y H1 ⟨x', y', e, q⟩ => by cases e; exact q
theorem d_dix (hu : X.A.units + 1 < cLine) (ha : DB ca X md a bf) (hb : DB ca X md b bg) (hs : NoSl b := by exact fun _ _ => rfl) : DE ca X md (.Subscript a b pos) (eOp oDIx (aCons bf (aCons bg aNil))) :=
  PEm (pe_dget hu ha hb hs) fun σ H Q h => ta_2 (te_op s_dix h) fun x y H1 ⟨x', y', e, q⟩ => by cases e; exact q
theorem d_dnew : DE ca X md (.Dict [] [] pos) eDnew := PEm pe_dnewK fun _ _ _ h => te_dnew h
def oLRg1 : List T → R T
  | [.int j] => do
    let _ ← ck (decide (-1000000000000 < j) && decide (j < 1000000))
    .ok (.lst true (rngT 0 j.toNat))
  | _ => stk
def oLRg2 : List T → R T
  | [.int i, .int j] => do
    let _ ← ck (decide (-1000000000000 < i) && (decide (i < 1000000000000) && (decide (-1000000000000 < j) && (decide (j < 1000000000000) && decide (j - i < 1000000)))))
    .ok (.lst true (rngT i (j - i).toNat))
  | _ => stk
end
section
variable {K : PySem.W.Frag} {ca : Ca} {F F' F1 H H' H1 : Hp} {σ : L2.St} {env : En} {fp : Fp} {t : T} {v : V} {md : List Nat}
def sSetPair (i : Nat) (n m : Int) (f : EM) : SM := fun env => do
  let (x, env1) ← f env
  match x with
  | .tup [u, v] => match T.at env1 i with
    | some (.lst true xs) => do
      let _ ← ck (!T.owl xs && (!u.ow && !v.ow))
      match ixN xs.length n with
      | some p => match ixN xs.length m with
        | some q => .ok (.nx, env1.set i (some (.lst true ((xs.set p u).set q v))))
        | none => stk
      | none => stk
    | _ => stk
  | _ => stk
end
section
variable {ca : Ca} {X : Cx} {md pn : List Nat} {value : Expr} {pos : Pos} {f : EM} {x : Str}
end
end QL
namespace QL
open PySem L2

mutual
def repB (K : PySem.W.Frag) : T → Value → Bool
  | .non, .none => true
  | .bl b, .bool c => b == c
  | .int i, .int j _ => decide (i = j)
  | .str x, .str y _ => decide (x = y)
  | .tup xs, .ref a => match K.lookup a with
    | some ⟨.type c, none, .seq its _, _⟩ => decide (c = "tuple") && (decide (its.size ≤ sizeLine) && repsB K xs its.toList)
    | _ => false
  | _, _ => false
def repsB (K : PySem.W.Frag) : List T → List Value → Bool
  | [], [] => true
  | t :: ts, u :: us => repB K t u && repsB K ts us
  | _, _ => false
end
mutual
theorem repB_ok {K : PySem.W.Frag} {ca : Ca} {F H : Hp} : ∀ (t : T) {u : Value}, repB K t u = true → ∃ v, RelV v u ∧ Rep K ca F H t v []
  | .non, u, h => by cases u <;> first | exact ⟨.non, rfl, rep_non⟩ | (simp [repB] at h; done)
  | .bl b, u, h => by
    cases u with
    | bool c =>
      have : b = c := by simpa [repB] using h
      subst this
      exact ⟨.bl b, rfl, rep_bl⟩
    | _ => simp [repB] at h
  | .int i, u, h => by
    cases u with
    | int j t =>
      have : i = j := by simpa [repB] using h
      subst this
      exact ⟨.int i, ⟨t, rfl⟩, rep_int⟩
    | _ => simp [repB] at h
  | .str x, u, h => by
    cases u with
    | str y t =>
      have : x = y := by simpa [repB] using h
      subst this
      exact ⟨.str x, ⟨t, rfl⟩, rep_str⟩
    | _ => simp [repB] at h
  | .tup xs, u, h => by
    cases u with
    | ref a =>
      simp only [repB] at h
      split at h
      · rename_i c its n sl hl
        simp only [Bool.and_eq_true, decide_eq_true_eq] at h
        obtain ⟨vs, r1, r2⟩ := repsB_ok (F := F) (H := H) (ca := ca) xs h.2.2
        refine ⟨.ref a, rfl, ?_⟩
        simp only [Rep]
        exact ⟨a, vs, rfl, .inr ⟨_, its, n, hl, congrArg Value.type h.1, rfl, h.2.1, r1, rfl⟩, r2⟩
      · cases h
    | _ => simp [repB] at h
  | .lst _ _, u, h => by simp [repB] at h
  | .lk _, u, h => by simp [repB] at h
  | .pr _, u, h => by simp [repB] at h
  | .dct _ _, u, h => by simp [repB] at h
  | .obj _ _, u, h => by simp [repB] at h
  | .hole, u, h => by simp [repB] at h
theorem repsB_ok {K : PySem.W.Frag} {ca : Ca} {F H : Hp} : ∀ (ts : List T) {us : List Value}, repsB K ts us = true → ∃ vs, Vals vs us ∧ Reps K ca F H ts vs []
  | [], [], _ => ⟨[], .nil, by simp only [Reps]; trivial⟩
  | [], _ :: _, h => by simp [repsB] at h
  | _ :: _, [], h => by simp [repsB] at h
  | t :: ts, u :: us, h => by
    simp only [repsB, Bool.and_eq_true] at h
    obtain ⟨v, r1, r2⟩ := repB_ok (F := F) (H := H) (ca := ca) t h.1
    obtain ⟨vs, r3, r4⟩ := repsB_ok (F := F) (H := H) (ca := ca) ts h.2
    exact ⟨v :: vs, .cons r1 r3, by simp only [Reps]; exact ⟨v, vs, [], [], rfl, r2, r4, rfl⟩⟩
end
def glB (K : PySem.W.Frag) (p : Str × T) : Bool := match PySem.W.nsIn K mainGlobals p.1 with
  | some (some u) => repB K p.2 u
  | _ => false
theorem RelV.fun_ {v w : V} {u : Value} (h : RelV v u) (h' : RelV w u) : v = w := h.inj h'
theorem glB_ok {K : PySem.W.Frag} {h : Heap} {mg : Str → Option Value} {ca : Ca} {x : Str} {t : T} (X : K.In h) (G : h.Ns mainGlobals mg) (c : glB K (x, t) = true) : Glb ca K mg x t := by
  unfold glB at c
  split at c
  · rename_i u hu
    obtain ⟨v, r, _⟩ := repB_ok (ca := ca) (F := fun _ => none) (H := fun _ => none) t c
    refine ⟨⟨u, v, PySem.W.mg_of X G hu, r, fun F H => ?_⟩⟩
    obtain ⟨v', r', rp⟩ := repB_ok (ca := ca) (F := F) (H := H) t c
    rw [RelV.fun_ r r']
    exact rp
  · cases c
abbrev AlQ : Type := Bool × List He.FnW
def obsQ (fa : List He.Fa) (gl : List (Str × T)) (fn : List He.DefD) (K : PySem.W.Frag) : AlQ := (((fa.all fun f => f.ok K) && gl.all (glB K)) && fn.all fun d => d.ok K, fn.map fun d => He.fnW K d.at_)
def valQ (fn : List He.DefD) : AlQ := (true, fn.map He.DefD.val)
def SaysQ (fa : List He.Fa) (gl : List (Str × T)) (fn : List He.DefD) (K : PySem.W.Frag) : Prop := obsQ fa gl fn K = valQ fn
def obsQG (n : Nat) (fa : List He.Fa) (gl : List (Str × T)) (fn : List He.DefD) (g : Addr → Option Obj) : AlQ := obsQ fa gl fn (He.frG g (He.asD g n))
def hookQ (n : Nat) (fa : List He.Fa) (gl : List (Str × T)) (fn : List He.DefD) : PySem.W.Hook where
  α := AlQ
  obs := fun s => obsQG n fa gl fn s.heap.get?
  val := fun _ => valQ fn
  says := fun _ h => ∃ K : PySem.W.Frag, K.In h ∧ SaysQ fa gl fn K
  of := fun _ _ e => ⟨_, He.frG_in, e⟩
  keeps := fun _ _ _ ⟨K, hK, c⟩ k => ⟨K, PySem.W.Frag.In.keeps hK k, c⟩
theorem obsQG_eq {n : Nat} {fa : List He.Fa} {gl : List (Str × T)} {fn : List He.DefD} {g : Addr → Option Obj} {s : Shared} (h : ∀ a, g a = s.heap.get? a) : obsQG n fa gl fn g = (hookQ n fa gl fn).obs s := by
  have e : g = s.heap.get? := funext h
  rw [e] <;> rfl
section
variable {fa : List He.Fa} {gl : List (Str × T)} {fn : List He.DefD} {K : PySem.W.Frag}
theorem SaysQ.all (c : SaysQ fa gl fn K) : ((((fa.all fun f => f.ok K) && gl.all (glB K)) && fn.all fun d => d.ok K) = true) ∧ fn.map (fun d => He.fnW K d.at_) = fn.map He.DefD.val := ⟨congrArg (fun z : AlQ => z.1) c, congrArg (fun z : AlQ => z.2) c⟩
theorem SaysQ.fact (c : SaysQ fa gl fn K) (i : Nat) {f : He.Fa} (h : fa[i]? = some f := by rfl) : f.ok K = true := by
  have c1 := c.all.1
  simp only [Bool.and_eq_true] at c1
  exact List.all_eq_true.mp c1.1.1 f (List.mem_of_getElem? h)
theorem SaysQ.glob (c : SaysQ fa gl fn K) (i : Nat) {p : Str × T} (h : gl[i]? = some p := by rfl) : glB K p = true := by
  have c1 := c.all.1
  simp only [Bool.and_eq_true] at c1
  exact List.all_eq_true.mp c1.1.2 p (List.mem_of_getElem? h)
theorem SaysQ.def_ (c : SaysQ fa gl fn K) (i : Nat) {d : He.DefD} (h : fn[i]? = some d := by rfl) : ∃ fd, FunD K d.name d.qual d.params d.body d.scope (d.dvs K) (d.kws K) (He.fAd K d.at_) fd := by
  have c1 := c.all.1
  simp only [Bool.and_eq_true] at c1
  have e2 : (fn.map fun d => He.fnW K d.at_)[i]? = (fn.map He.DefD.val)[i]? := by rw [c.all.2]
  rw [List.getElem?_map, List.getElem?_map, h] at e2
  exact He.DefD.funD (Option.some.inj e2) (List.all_eq_true.mp c1.2 d (List.mem_of_getElem? h))
end
/-- a script's list -/
theorem script_rep {K : PySem.W.Frag} {ca : Ca} {H : Hp} {a : Addr} {ns : List Int} (h : SqL K H a (ns.map V.int)) : SR K ca H H [some (.ref a)] [some (.lk (ns.map T.int))] (fpI none []) := by
  refine ⟨Sub.refl H, fun i t e => ?_, fun a ha => absurd (ow_fpI ha) (by simp), fun i j a hi => absurd hi (by simp [fpI]), fun i => by simp [fpI], rfl⟩
  cases i with
  | succ i => simp at e
  | zero =>
    simp only [List.getElem?_cons_zero, Option.some.injEq] at e
    subst e
    refine ⟨.ref a, rfl, ?_⟩
    have : ∀ ns : List Int, Reps K ca H H (ns.map T.int) (ns.map V.int) [] := by
      intro ns
      induction ns with
      | nil => simp only [List.map, Reps]; trivial
      | cons n ns ih => simp only [List.map, Reps]; exact ⟨.int n, _, [], [], rfl, rep_int, ih, rfl⟩
    simp only [Rep]
    exact ⟨a, _, rfl, h, this ns, by simp [fpI]⟩
theorem law_sp {K : PySem.W.Frag} {ca : Ca} {H : Hp} {a : Addr} {ns : List Int} {g : Fn} (h : SqL K H a (ns.map V.int)) (e : g [.lk (ns.map T.int)] = .ok (.bl true, none)) : spOf K ca none g [.ref a] H (fun v _ => v = .bl true) fun _ _ _ => False :=
  ⟨H, [.lk (ns.map T.int)], [], .bl true, none, script_rep h, e, fun v H' F' fi' fv _ r _ _ _ _ _ => by simp only [Rep] at r; exact r.1⟩
end QL
namespace QL
open PySem L2

def wp {α : Type} (x : R α) (Q : α → Prop) : Prop := ∃ a, x = .ok a ∧ Q a
section
variable {α β : Type} {x : R α} {Q Q' : α → Prop} {f : α → R β} {P : β → Prop} {a : α}
theorem wp_ok (h : Q a) : wp (.ok a) Q := ⟨a, rfl, h⟩
theorem wp_mono (h : wp x Q) (m : ∀ a, Q a → Q' a) : wp x Q' := let ⟨a, e, q⟩ := h; ⟨a, e, m a q⟩
theorem wp_bind (h : wp x fun a => wp (f a) P) : wp (x >>= f) P := by
  obtain ⟨a, e, b, e2, p⟩ := h
  subst e
  exact ⟨b, e2, p⟩
theorem wp_ck {b : Bool} {Q : Unit → Prop} (h : b = true) (q : Q ()) : wp (ck b) Q := by subst h; exact ⟨(), rfl, q⟩
end
section
variable {env : En} {o : List T → R T} {f g h : EM} {bf bg : BM} {af : AM} {i j : Nat} {t u : T} {Q : T × En → Prop} {QB : Bop × En → Prop} {QA : List Bop × En → Prop} {QT : Bool × En → Prop} {c d : BT}
/-- operands fit: what they stand for, whether one is borrowed -/
inductive Fit : List Bop → List T → Bool → Prop
  | nil : Fit [] [] false
  | tmp {t : T} {bs : List Bop} {ts : List T} {b : Bool} : Fit bs ts b → Fit (.tmp t :: bs) (t :: ts) b
  | br {t : T} {i : Nat} {bs : List Bop} {ts : List T} {b : Bool} : t.ow = false → Fit bs ts b → Fit (.br t i :: bs) (t :: ts) b
  | bo {t : T} {i : Nat} {bs : List Bop} {ts : List T} {b : Bool} : t.ow = true → t.nob = true → Fit bs ts b → Fit (.br t i :: bs) (t.fz :: ts) true
theorem Fit.ok {bs : List Bop} {ts : List T} {b : Bool} (h : Fit bs ts b) : bs.all Bop.fit = true ∧ bs.map Bop.res = ts ∧ bs.any Bop.bo = b := by
  induction h with
  | nil => exact ⟨rfl, rfl, rfl⟩
  | tmp _ ih => exact ⟨by rw [List.all_cons, ih.1]; rfl, by rw [List.map_cons, ih.2.1]; rfl, by rw [List.any_cons, ih.2.2]; rfl⟩
  | br h _ ih => exact ⟨by rw [List.all_cons, ih.1]; simp [Bop.fit, h], by rw [List.map_cons, ih.2.1]; simp [Bop.res, h], by rw [List.any_cons, ih.2.2]; simp [Bop.bo, h]⟩
  | bo h hn _ ih => exact ⟨by rw [List.all_cons, ih.1]; simp [Bop.fit, hn], by rw [List.map_cons, ih.2.1]; simp [Bop.res, h], by rw [List.any_cons]; simp [Bop.bo, h]⟩
variable {s s' : SM} {QS : Fl × En → Prop} {gt : T → En → R En} {gs : List T → En → R En} {QE : En → Prop}
/-- operands as arguments of a def -/
inductive Arg : En → List Bop → List T → Bool → Prop
  | nil {env : En} : Arg env [] [] false
  | tmp {env : En} {t : T} {bs : List Bop} {ts : List T} {b : Bool} : t.ow = false → Arg env bs ts b → Arg env (.tmp t :: bs) (t :: ts) b
  | tmpO {env : En} {t : T} {bs : List Bop} {ts : List T} {b : Bool} : t.ow = true → t.nob = true → Arg env bs ts b → Arg env (.tmp t :: bs) (t.fz :: ts) b
  | br {env : En} {t : T} {i : Nat} {bs : List Bop} {ts : List T} {b : Bool} : t.ow = false → Arg env bs ts b → Arg env (.br t i :: bs) (t :: ts) b
  | bo {env : En} {t : T} {i : Nat} {bs : List Bop} {ts : List T} {b : Bool} : t.ow = true → t.nob = true → Arg env bs ts b → Arg env (.br t i :: bs) (t.fz :: ts) true
  | io {env : En} {t : T} {i : Nat} {bs : List Bop} {ts : List T} {b : Bool} : env[i]? = some (some t) → Arg env bs ts b → Arg env (.io i :: bs) (t :: ts) b
theorem Arg.ok {bs : List Bop} {ts : List T} {b : Bool} (h : Arg env bs ts b) : argsT env bs = .ok ts ∧ bs.any Bop.bo = b := by
  induction h with
  | nil => exact ⟨rfl, rfl⟩
  | tmp h _ ih => exact ⟨by simp [argsT, argT, h, ih.1, ck]; rfl, by rw [List.any_cons, ih.2]; rfl⟩
  | tmpO h hn _ ih => exact ⟨by simp [argsT, argT, h, hn, ih.1, ck]; rfl, by rw [List.any_cons, ih.2]; rfl⟩
  | br h _ ih => exact ⟨by simp [argsT, argT, h, ih.1, ck]; rfl, by rw [List.any_cons, ih.2]; simp [Bop.bo, h]⟩
  | bo h hn _ ih => exact ⟨by simp [argsT, argT, h, hn, ih.1, ck]; rfl, by rw [List.any_cons]; simp [Bop.bo, h]⟩
  | io h _ ih => exact ⟨by simp [argsT, argT, h, ih.1]; rfl, by rw [List.any_cons, ih.2]; rfl⟩
end
end QL
namespace QL
open PySem L2

section
variable {α β : Type} {x : R α} {Q : α → Prop} {env : En}
theorem we_ok {a : α} : wp (Except.ok a : R α) Q = Q a := propext ⟨fun z => (by obtain ⟨_, e, q⟩ := z; cases e; exact q), wp_ok⟩
theorem we_bind {f : α → R β} {P : β → Prop} : wp (x >>= f) P = wp x fun a => wp (f a) P := propext ⟨fun ⟨b, e, q⟩ => by
  obtain ⟨a, e1, e2⟩ := bind_ok e
  exact ⟨a, e1, b, e2, q⟩, wp_bind⟩
theorem we_stk : wp (stk : R α) Q = False := propext ⟨fun z => (by obtain ⟨_, e, _⟩ := z; cases e), False.elim⟩
theorem we_ck {b : Bool} {Q : Unit → Prop} : wp (ck b) Q = (b = true ∧ Q ()) := propext ⟨fun z => (let ⟨_, e, q⟩ := z; ⟨ck_ok e, q⟩), fun z => wp_ck z.1 z.2⟩
theorem we_ite {c : Prop} [Decidable c] {x y : R α} : wp (if c then x else y) Q = if c then wp x Q else wp y Q := by split <;> rfl
/-- an option that must be there -/
def opt (o : Option α) (k : α → Prop) : Prop := match o with
  | some a => k a
  | none => False
theorem opt_some {a : α} {k : α → Prop} : opt (some a) k = k a := rfl
theorem opt_none {k : α → Prop} : opt none k = False := rfl
def look (env : En) (i : Nat) : Option T := env[i]?.join
theorem look_zero {t : Option T} {e : En} : look (t :: e) 0 = t := by cases t <;> rfl
theorem look_succ {t : Option T} {e : En} {n : Nat} : look (t :: e) (n + 1) = look e n := rfl
theorem look_eq {i : Nat} {k : T → Prop} : opt (look env i) k ↔ ∃ t, env[i]? = some (some t) ∧ k t := by
  unfold look opt
  cases e : env[i]? with
  | none => simp
  | some o => cases o <;> simp
end
section
variable {env e : En} {i j : Nat} {f g h : EM} {bf : BM} {af : AM} {c d : BT} {s s' : SM} {gt : T → En → R En} {gs : List T → En → R En} {t : T} {b : Bool} {bs : List Bop} {bo : Bop} {ts : List T}
variable {Q : T × En → Prop} {QB : Bop × En → Prop} {QA : List Bop × En → Prop} {QT : Bool × En → Prop} {QS : Fl × En → Prop} {QE : En → Prop} {QI : List T × En → Prop}
theorem match_look {α : Type} {k : T → R α} {P : α → Prop} {o : Option (Option T)} : wp (match o with
  | some (some t) => k t
  | _ => stk) P = opt o.join fun t => wp (k t) P := by
  cases o with
  | none => exact we_stk
  | some o => cases o with
    | none => exact we_stk
    | some t => rfl
def kB (QB : Bop × En → Prop) : T × En → Prop := fun p => QB (.tmp p.1, p.2)
theorem kB_ap : kB QB (t, e) = QB (.tmp t, e) := rfl
theorem w_bE : wp (bE f env) QB = wp (f env) (kB QB) := we_bind.trans (by congr 1; funext p; exact we_ok)
theorem w_bV : wp (bV i env) QB = opt (look env i) fun t => QB (.br t i, env) := match_look.trans (by congr 1; funext t; exact we_ok)
theorem w_bIo : wp (bIo i env) QB = opt (look env i) fun _ => QB (.io i, env) := by
  refine propext ⟨fun ⟨b, e, q⟩ => ?_, fun z => ?_⟩
  · unfold bIo at e
    split at e
    · rename_i t ht
      cases e
      exact look_eq.mpr ⟨t, ht, q⟩
    · cases e
  · obtain ⟨t, ht, q⟩ := look_eq.mp z
    exact ⟨_, by unfold bIo; rw [ht], q⟩
def kI (QB : Bop × En → Prop) : Bop × En → Prop := fun p => p.1.isI.isSome = true ∧ QB p
theorem kI_ap : kI QB (bo, e) = (bo.isI.isSome = true ∧ QB (bo, e)) := rfl
theorem w_bI : wp (bI bf env) QB = wp (bf env) (kI QB) := we_bind.trans (by congr 1; funext p; exact we_bind.trans (we_ck.trans (by rw [we_ok]; rfl)))
theorem w_aNil : wp (aNil env) QA = QA ([], env) := we_ok
def kA (af : AM) (QA : List Bop × En → Prop) : Bop × En → Prop := fun p => wp (af p.2) fun r => QA (p.1 :: r.1, r.2)
def kA2 (b : Bop) (QA : List Bop × En → Prop) : List Bop × En → Prop := fun r => QA (b :: r.1, r.2)
theorem kA_ap : kA af QA (bo, e) = wp (af e) (kA2 bo QA) := rfl
theorem kA2_ap : kA2 bo QA (bs, e) = QA (bo :: bs, e) := rfl
theorem w_aCons : wp (aCons bf af env) QA = wp (bf env) (kA af QA) := we_bind.trans (by congr 1; funext p; exact we_bind.trans (by show _ = wp _ _; congr 1; funext r; exact we_ok))
theorem w_eC : wp (eC t env) Q = Q (t, env) := we_ok
theorem w_eVar : wp (eVar i env) Q = opt (look env i) fun t => t.ow = false ∧ Q (t, env) := match_look.trans (by
  congr 1; funext t; rw [we_bind, we_ck, we_ok]; cases t.ow <;> simp)
theorem w_eMv : wp (eMv i env) Q = opt (look env i) fun t => Q (t, env.set i none) := match_look.trans (by congr 1; funext t; exact we_ok)
theorem w_eFz : wp (eFz i env) Q = opt (look env i) fun t => t.nob = true ∧ Q (t.fz, env.set i (some t.fz)) := match_look.trans (by congr 1; funext t; rw [we_bind, we_ck, we_ok])
theorem w_eAl : wp (eAl i env) Q = opt (look env i) fun t => if t.ow = true then (t.nob = true ∧ Q (t.fz, env.set i (some t.fz))) else Q (t, env) := match_look.trans (by
  unfold look opt
  cases e : env[i]? with
  | none => rfl
  | some o => cases o with
    | none => rfl
    | some t =>
      show wp (if t.ow = true then eFz i env else _) Q = _
      rw [we_ite, w_eFz]
      unfold look
      rw [e]
      rw [we_ok]
      rfl)
def kOp (o : List T → R T) (Q : T × En → Prop) : List Bop × En → Prop := fun p => p.1.all Bop.fit = true ∧ wp (o (p.1.map Bop.res)) fun t => (p.1.any Bop.bo = true → t.nfz = true) ∧ Q (t, p.2)
def kOp2 (bs : List Bop) (e : En) (Q : T × En → Prop) : T → Prop := fun t => (bs.any Bop.bo = true → t.nfz = true) ∧ Q (t, e)
theorem kOp_ap {o : List T → R T} : kOp o Q (bs, e) = (bs.all Bop.fit = true ∧ wp (o (bs.map Bop.res)) (kOp2 bs e Q)) := rfl
theorem kOp2_ap : kOp2 bs e Q t = ((bs.any Bop.bo = true → t.nfz = true) ∧ Q (t, e)) := rfl
theorem w_eOp {o : List T → R T} : wp (eOp o af env) Q = wp (af env) (kOp o Q) := we_bind.trans (by
  congr 1; funext p
  rw [we_bind]; unfold opApp; rw [we_bind, we_ck, we_bind]
  show _ = (_ ∧ _)
  congr 2; funext t
  rw [we_bind, we_ck, we_ok, we_ok]
  cases p.1.any Bop.bo <;> simp)
def kDs (m : List T → T) (e : En) (Q : T × En → Prop) : List T → Prop := fun ts => ts.length ≤ big ∧ Q (m ts, e)
theorem kDs_ap {m : List T → T} : kDs m e Q ts = (ts.length ≤ big ∧ Q (m ts, e)) := rfl
def kD (m : List T → T) (Q : T × En → Prop) : List Bop × En → Prop := fun p => wp (tmps p.1) (kDs m p.2 Q)
theorem kD_ap {m : List T → T} : kD m Q (bs, e) = wp (tmps bs) (kDs m e Q) := rfl
theorem w_eTup : wp (eTup af env) Q = wp (af env) (kD .tup Q) := we_bind.trans (by
  congr 1; funext p; rw [we_bind]; show _ = wp _ _; congr 1; funext ts; rw [we_bind, we_ck, we_ok]; simp [kDs])
theorem w_eLst : wp (eLst af env) Q = wp (af env) (kD (.lst true) Q) := we_bind.trans (by
  congr 1; funext p; rw [we_bind]; show _ = wp _ _; congr 1; funext ts; rw [we_bind, we_ck, we_ok]; simp [kDs])
def kIf {β : Type} (x y : En → R β) (Q : β → Prop) : Bool × En → Prop := fun p => if p.1 = true then wp (x p.2) Q else wp (y p.2) Q
theorem kIf_ap {β : Type} {x y : En → R β} {Q : β → Prop} : kIf x y Q (b, e) = if b = true then wp (x e) Q else wp (y e) Q := rfl
theorem w_eIf : wp (eIf c f g env) Q = wp (c env) (kIf f g Q) := we_bind.trans (by congr 1; funext p; exact we_ite)
theorem toBbl {b : Bool} {QQ : Bool → Prop} : wp (toB (.bl b)) QQ = QQ b := we_ok
theorem toIint {b : Int} {QQ : Int → Prop} : wp (toI (.int b)) QQ = QQ b := we_ok
def kTB (k : Bool → En → Prop) : T × En → Prop := fun p => wp (toB p.1) fun b => k b p.2
theorem kTB_ap {k : Bool → En → Prop} : kTB k (.bl b, e) = k b e := by show wp (toB (.bl b)) (fun b => k b e) = _; exact toBbl
def kAnd (g : EM) (Q : T × En → Prop) : Bool → En → Prop := fun b e => if b = true then wp (g e) Q else Q (.bl false, e)
theorem kAnd_ap : kAnd g Q b e = if b = true then wp (g e) Q else Q (.bl false, e) := rfl
def kOr (g : EM) (Q : T × En → Prop) : Bool → En → Prop := fun b e => if b = true then Q (.bl true, e) else wp (g e) Q
theorem kOr_ap : kOr g Q b e = if b = true then Q (.bl true, e) else wp (g e) Q := rfl
def kNot (Q : T × En → Prop) : Bool → En → Prop := fun b e => Q (.bl (!b), e)
theorem kNot_ap : kNot Q b e = Q (.bl (!b), e) := rfl
def kV (QT : Bool × En → Prop) : Bool → En → Prop := fun b e => QT (b, e)
theorem kV_ap : kV QT b e = QT (b, e) := rfl
theorem w_eAnd : wp (eAnd f g env) Q = wp (f env) (kTB (kAnd g Q)) := we_bind.trans (by congr 1; funext p; rw [we_bind]; show _ = wp _ _; congr 1; funext b; rw [we_ite, we_ok]; rfl)
theorem w_eOr : wp (eOr f g env) Q = wp (f env) (kTB (kOr g Q)) := we_bind.trans (by congr 1; funext p; rw [we_bind]; show _ = wp _ _; congr 1; funext b; rw [we_ite, we_ok]; rfl)
theorem w_eNot : wp (eNot f env) Q = wp (f env) (kTB (kNot Q)) := we_bind.trans (by congr 1; funext p; rw [we_bind]; show _ = wp _ _; congr 1; funext b; rw [we_ok]; rfl)
theorem w_tV : wp (tV f env) QT = wp (f env) (kTB (kV QT)) := we_bind.trans (by congr 1; funext p; rw [we_bind]; show _ = wp _ _; congr 1; funext b; rw [we_ok]; rfl)
def kCh3 (q : Int → Int → Bool) (j : Int) (Q : T × En → Prop) : T × En → Prop := fun z => wp (toI z.1) fun l => Q (.bl (q j l), z.2)
theorem kCh3_ap {q : Int → Int → Bool} {j l : Int} : kCh3 q j Q (.int l, e) = Q (.bl (q j l), e) := by show wp (toI (.int l)) (fun l => Q (.bl (q j l), e)) = _; exact toIint
def kCh2 (p q : Int → Int → Bool) (x : T) (h : EM) (Q : T × En → Prop) : T × En → Prop := fun y => wp (toI x) fun i => wp (toI y.1) fun j => if p i j = true then wp (h y.2) (kCh3 q j Q) else Q (.bl false, y.2)
theorem kCh2_ap {p q : Int → Int → Bool} {i j : Int} : kCh2 p q (.int i) h Q (.int j, e) = if p i j = true then wp (h e) (kCh3 q j Q) else Q (.bl false, e) := by
  show wp (toI (.int i)) _ = _; rw [toIint, toIint]
def kCh1 (p q : Int → Int → Bool) (g h : EM) (Q : T × En → Prop) : T × En → Prop := fun x => wp (g x.2) (kCh2 p q x.1 h Q)
theorem kCh1_ap {p q : Int → Int → Bool} : kCh1 p q g h Q (t, e) = wp (g e) (kCh2 p q t h Q) := rfl
theorem w_eChain {p q : Int → Int → Bool} : wp (eChain p q f g h env) Q = wp (f env) (kCh1 p q g h Q) := we_bind.trans (by
  congr 1; funext x; rw [we_bind]; show _ = wp _ _; congr 1; funext y; rw [we_bind]; show _ = wp _ _; congr 1; funext i; rw [we_bind]; congr 1; funext j
  rw [we_ite, we_ok, we_bind]; congr 2; funext z; rw [we_bind]; show _ = wp _ _; congr 1; funext l; rw [we_ok])
def kTO (d : BT) (QT : Bool × En → Prop) : Bool × En → Prop := fun p => if p.1 = true then QT (true, p.2) else wp (d p.2) QT
theorem kTO_ap : kTO d QT (b, e) = if b = true then QT (true, e) else wp (d e) QT := rfl
def kTA (d : BT) (QT : Bool × En → Prop) : Bool × En → Prop := fun p => if p.1 = true then wp (d p.2) QT else QT (false, p.2)
theorem kTA_ap : kTA d QT (b, e) = if b = true then wp (d e) QT else QT (false, e) := rfl
def kTN (QT : Bool × En → Prop) : Bool × En → Prop := fun p => QT (!p.1, p.2)
theorem kTN_ap : kTN QT (b, e) = QT (!b, e) := rfl
theorem w_tAnd : wp (tAndS c d env) QT = wp (c env) (kTA d QT) := we_bind.trans (by congr 1; funext p; rw [we_ite, we_ok]; rfl)
theorem w_tOr : wp (tOrS c d env) QT = wp (c env) (kTO d QT) := we_bind.trans (by congr 1; funext p; rw [we_ite, we_ok]; rfl)
theorem w_tNot : wp (tNotS c env) QT = wp (c env) (kTN QT) := we_bind.trans (by congr 1; funext p; rw [we_ok]; rfl)
theorem w_sNil : wp (sNil env) QS = QS (.nx, env) := we_ok
theorem w_sBreak : wp (sBreak env) QS = QS (.bk, env) := we_ok
theorem w_sCont : wp (sCont env) QS = QS (.ct, env) := we_ok
def kSeq (s' : SM) (QS : Fl × En → Prop) : Fl × En → Prop := fun p => match p.1 with
  | .nx => wp (s' p.2) QS
  | fl => QS (fl, p.2)
theorem kSeq_nx : kSeq s' QS (.nx, e) = wp (s' e) QS := rfl
theorem kSeq_bk : kSeq s' QS (.bk, e) = QS (.bk, e) := rfl
theorem kSeq_ct : kSeq s' QS (.ct, e) = QS (.ct, e) := rfl
theorem kSeq_rt : kSeq s' QS (.rt t, e) = QS (.rt t, e) := rfl
theorem w_sSeq : wp (sSeq s s' env) QS = wp (s env) (kSeq s' QS) := we_bind.trans (by congr 1; funext ⟨fl, e⟩; cases fl <;> first | rfl | exact we_ok)
theorem w_sIf : wp (sIf c s s' env) QS = wp (c env) (kIf s s' QS) := we_bind.trans (by congr 1; funext p; exact we_ite)
def kDr (QS : Fl × En → Prop) : T × En → Prop := fun p => QS (.nx, p.2)
theorem kDr_ap : kDr QS (t, e) = QS (.nx, e) := rfl
theorem w_sDrop : wp (sDrop f env) QS = wp (f env) (kDr QS) := we_bind.trans (by congr 1; funext p; exact we_ok)
def kRt (QS : Fl × En → Prop) : T × En → Prop := fun p => QS (.rt p.1, p.2)
theorem kRt_ap : kRt QS (t, e) = QS (.rt t, e) := rfl
theorem w_sRet : wp (sRet f env) QS = wp (f env) (kRt QS) := we_bind.trans (by congr 1; funext p; exact we_ok)
theorem w_sRetN : wp (sRetN env) QS = QS (.rt .non, env) := we_ok
def kNx (QS : Fl × En → Prop) : En → Prop := fun e => QS (.nx, e)
theorem kNx_ap : kNx QS e = QS (.nx, e) := rfl
def kAs (gt : T → En → R En) (QS : Fl × En → Prop) : T × En → Prop := fun p => wp (gt p.1 p.2) (kNx QS)
theorem kAs_ap : kAs gt QS (t, e) = wp (gt t e) (kNx QS) := rfl
theorem w_sAsg : wp (sAsg f gt env) QS = wp (f env) (kAs gt QS) := we_bind.trans (by congr 1; funext p; rw [we_bind]; show _ = wp _ _; congr 1; funext e; exact we_ok)
theorem w_gN {t : T} : wp (gN i t env) QE = (i < env.length ∧ QE (env.set i (some t))) := by
  unfold gN; rw [we_ite, we_ok, we_stk]; refine propext ?_; split <;> simp [*]
theorem w_gT {n : Nat} {ts : List T} : wp (gT n gs (.tup ts) env) QE = (ts.length = n ∧ wp (gs ts env) QE) := by
  show wp (if ts.length = n then gs ts env else stk) QE = _; rw [we_ite, we_stk]; refine propext ?_; split <;> simp [*]
theorem w_gTl {n : Nat} {ts : List T} : wp (gT n gs (.lst false ts) env) QE = (ts.length = n ∧ wp (gs ts env) QE) := w_gT
theorem w_gTp {n : Nat} {ts : List T} : wp (gT n gs (.pr ts) env) QE = (ts.length = n ∧ wp (gs ts env) QE) := w_gT
theorem w_gsN : wp (gsN [] env) QE = QE env := we_ok
def kG (gs : List T → En → R En) (ts : List T) (QE : En → Prop) : En → Prop := fun e => wp (gs ts e) QE
theorem kG_ap : kG gs ts QE e = wp (gs ts e) QE := rfl
theorem w_gsC {t : T} {ts : List T} : wp (gsC gt gs (t :: ts) env) QE = wp (gt t env) (kG gs ts QE) := we_bind
def kP2 (i j : Nat) (QS : Fl × En → Prop) : List Bop × En → Prop := fun p => opt (two p.1) fun xy => i < p.2.length ∧ j < p.2.length ∧ QS (.nx, (p.2.set i (some xy.1)).set j (some xy.2))
theorem kP2_ap {x y : T} : kP2 i j QS ([.tmp x, .tmp y], e) = (i < e.length ∧ j < e.length ∧ QS (.nx, (e.set i (some x)).set j (some y))) := rfl
theorem w_sPar : wp (sPar af i j env) QS = wp (af env) (kP2 i j QS) := we_bind.trans (by
  congr 1; funext p
  show _ = opt _ _
  cases e : two p.1 with
  | none => rw [opt_none]; exact (by simp only [e]; exact we_stk)
  | some xy =>
    obtain ⟨x, y⟩ := xy
    rw [opt_some]
    simp only [e]
    rw [we_ite, we_ok, we_stk]; by_cases h1 : i < p.2.length <;> by_cases h2 : j < p.2.length <;> simp [h1, h2])
def kP3 (i j l : Nat) (QS : Fl × En → Prop) : List Bop × En → Prop := fun p => opt (three p.1) fun xy => i < p.2.length ∧ j < p.2.length ∧ l < p.2.length ∧ QS (.nx, ((p.2.set i (some xy.1)).set j (some xy.2.1)).set l (some xy.2.2))
theorem kP3_ap {l : Nat} {x y z : T} : kP3 i j l QS ([.tmp x, .tmp y, .tmp z], e) = (i < e.length ∧ j < e.length ∧ l < e.length ∧ QS (.nx, ((e.set i (some x)).set j (some y)).set l (some z))) := rfl
theorem w_sPar3 {l : Nat} : wp (sPar3 af i j l env) QS = wp (af env) (kP3 i j l QS) := we_bind.trans (by
  congr 1; funext p
  show _ = opt _ _
  cases e : three p.1 with
  | none => rw [opt_none]; exact (by simp only [e]; exact we_stk)
  | some xy =>
    obtain ⟨x, y, z⟩ := xy
    rw [opt_some]
    simp only [e]
    rw [we_ite, we_ok, we_stk]; by_cases h1 : i < p.2.length <;> by_cases h2 : j < p.2.length <;> by_cases h3 : l < p.2.length <;> simp [h1, h2, h3])
def kAu2 (i : Nat) (a : Int) (QS : Fl × En → Prop) : T × En → Prop := fun p => wp (toI p.1) fun b => QS (.nx, p.2.set i (some (.int (a + b))))
theorem kAu2_ap {a b : Int} : kAu2 i a QS (.int b, e) = QS (.nx, e.set i (some (.int (a + b)))) := by show wp (toI (.int b)) (fun b => QS (.nx, e.set i (some (.int (a + b))))) = _; exact toIint
def kAu (i : Nat) (f : EM) (env : En) (QS : Fl × En → Prop) : T → Prop := fun t => wp (toI t) fun a => wp (f env) (kAu2 i a QS)
theorem kAu_ap {a : Int} : kAu i f env QS (.int a) = wp (f env) (kAu2 i a QS) := by show wp (toI (.int a)) (fun a => wp (f env) (kAu2 i a QS)) = _; exact toIint
theorem w_sAug : wp (sAug i f env) QS = opt (look env i) (kAu i f env QS) := by
  refine we_bind.trans ?_
  have e0 : T.at env i = look env i := rfl
  rw [e0]
  cases look env i with
  | none => exact we_stk
  | some t =>
    rw [opt_some]
    show wp (toI t) _ = wp (toI t) _
    congr 1; funext a; rw [we_bind]; congr 1; funext p; rw [we_bind]; show _ = wp _ _; congr 1; funext b; exact we_ok
def kW2 (e : En) (QI : List T × En → Prop) : List T → Prop := fun xs => QI (xs, e)
theorem kW2_ap : kW2 e QI ts = QI (ts, e) := rfl
def kW1 (w : List T → R (List T)) (e : En) (QI : List T × En → Prop) : List T → Prop := fun ts => wp (w ts) (kW2 e QI)
theorem kW1_ap {w : List T → R (List T)} : kW1 w e QI ts = wp (w ts) (kW2 e QI) := rfl
def kW (w : List T → R (List T)) (QI : List T × En → Prop) : List Bop × En → Prop := fun p => wp (srcT p.1 p.2) (kW1 w p.2 QI)
theorem kW_ap {w : List T → R (List T)} : kW w QI (bs, e) = wp (srcT bs e) (kW1 w e QI) := rfl
theorem w_iRng {w : List T → R (List T)} : wp (iRng w af env) QI = wp (af env) (kW w QI) := we_bind.trans (by
  congr 1; funext p; rw [we_bind]; show _ = wp _ _; congr 1; funext ts; rw [we_bind]; show _ = wp _ _; congr 1; funext xs; exact we_ok)
def kSq (QI : List T × En → Prop) : Bop × En → Prop := fun p => wp (srcT [p.1] p.2) (kW1 seqT p.2 QI)
theorem kSq_ap : kSq QI (bo, e) = wp (srcT [bo] e) (kW1 seqT e QI) := rfl
theorem w_iSeq : wp (iSeq bf env) QI = wp (bf env) (kSq QI) := we_bind.trans (by
  rw [w_aCons]; congr 1; funext p; show wp (aNil p.2) _ = _; rw [w_aNil]; show wp (srcT [p.1] p.2 >>= fun ts => _) QI = _; rw [we_bind]; show _ = wp _ _; congr 1; funext ts; rw [we_bind]; show _ = wp _ _; congr 1; funext xs; exact we_ok)
theorem w_srcT {bs : List Bop} {P : List T → Prop} : wp (srcT bs env) P = (bs.all Bop.still = true ∧ wp (argsT env bs) P) := we_bind.trans we_ck
theorem w_args0 {P : List T → Prop} : wp (argsT env []) P = P [] := we_ok
def kAr2 (t : T) (P : List T → Prop) : List T → Prop := fun ts => P (t :: ts)
theorem kAr2_ap {P : List T → Prop} : kAr2 t P ts = P (t :: ts) := rfl
def kAr (bs : List Bop) (e : En) (P : List T → Prop) : T → Prop := fun t => wp (argsT e bs) (kAr2 t P)
theorem kAr_ap {P : List T → Prop} : kAr bs e P t = wp (argsT e bs) (kAr2 t P) := rfl
theorem w_args1 {b : Bop} {bs : List Bop} {P : List T → Prop} : wp (argsT env (b :: bs)) P = wp (argT env b) (kAr bs env P) := we_bind.trans (by congr 1; funext t; rw [we_bind]; show _ = wp _ _; congr 1; funext ts; exact we_ok)
theorem w_argTmp {t : T} {P : T → Prop} : wp (argT env (.tmp t)) P = if t.ow = true then t.nob = true ∧ P t.fz else P t := by
  show wp (ck _ >>= _) P = _; rw [we_bind, we_ck, we_ok]; cases t.ow <;> simp
theorem w_argBr {t : T} {P : T → Prop} : wp (argT env (.br t i)) P = if t.ow = true then t.nob = true ∧ P t.fz else P t := by
  show wp (ck _ >>= _) P = _; rw [we_bind, we_ck, we_ok]; cases t.ow <;> simp
theorem w_argIo {P : T → Prop} : wp (argT env (.io i)) P = opt (look env i) P := match_look.trans (by congr 1; funext t; exact we_ok)
theorem w_tmps0 {P : List T → Prop} : wp (tmps []) P = P [] := we_ok
theorem w_tmps1 {t : T} {bs : List Bop} {P : List T → Prop} : wp (tmps (.tmp t :: bs)) P = wp (tmps bs) (kAr2 t P) := we_bind.trans (by congr 1; funext ts; exact we_ok)
def kC2 (bs : List Bop) (e : En) (Q : T × En → Prop) : T × Option T → Prop := fun r => (bs.any Bop.bo = true → r.1.nfz = true ∧ (∀ u, r.2 = some u → u.nfz = true)) ∧ Q (r.1, e)
theorem kC2_ap {o : Option T} : kC2 bs e Q (t, o) = ((bs.any Bop.bo = true → t.nfz = true ∧ (∀ u, o = some u → u.nfz = true)) ∧ Q (t, e)) := rfl
def kC1 (gf : Fn) (bs : List Bop) (e : En) (Q : T × En → Prop) : List T → Prop := fun ts => wp (gf ts) (kC2 bs e Q)
theorem kC1_ap {gf : Fn} : kC1 gf bs e Q ts = wp (gf ts) (kC2 bs e Q) := rfl
def kC (gf : Fn) (Q : T × En → Prop) : List Bop × En → Prop := fun p => ioFind p.1 0 = none ∧ wp (argsT p.2 p.1) (kC1 gf p.1 p.2 Q)
theorem kC_ap {gf : Fn} : kC gf Q (bs, e) = (ioFind bs 0 = none ∧ wp (argsT e bs) (kC1 gf bs e Q)) := rfl
theorem w_call0 {gf : Fn} : wp (eCall none none gf af env) Q = wp (af env) (kC gf Q) := we_bind.trans (by
  congr 1; funext ⟨bs, e⟩
  show wp (ck _ >>= fun _ => callApp none gf bs e) Q = (_ ∧ _)
  rw [we_bind, we_ck]
  cases hf : ioFind bs 0 with
  | some z => simp
  | none =>
    unfold callApp
    simp only [hf, ioOk, Option.map_none, decide_true, true_and]
    rw [we_bind]; congr 1; funext ts
    rw [we_bind, we_ck]
    simp only [true_and]
    rw [we_bind]; show _ = wp _ _; congr 1; funext ⟨t, o⟩
    show wp (ck _ >>= fun _ => _) Q = (_ ∧ _)
    rw [we_bind, we_ck, we_ok]
    cases bs.any Bop.bo <;> cases o <;> simp)
def kM2 (bs : List Bop) (i : Nat) (e : En) (Q : T × En → Prop) : T × Option T → Prop := fun r => (bs.any Bop.bo = true → r.1.nfz = true ∧ (∀ u, r.2 = some u → u.nfz = true)) ∧ opt r.2 fun u => Q (r.1, e.set i (some u))
theorem kM2_ap {u : T} : kM2 bs i e Q (t, some u) = ((bs.any Bop.bo = true → t.nfz = true ∧ (∀ w, some u = some w → w.nfz = true)) ∧ Q (t, e.set i (some u))) := rfl
def kM1 (gf : Fn) (bs : List Bop) (i : Nat) (e : En) (Q : T × En → Prop) : List T → Prop := fun ts => wp (gf ts) (kM2 bs i e Q)
theorem kM1_ap {gf : Fn} : kM1 gf bs i e Q ts = wp (gf ts) (kM2 bs i e Q) := rfl
def kM (k i : Nat) (gf : Fn) (Q : T × En → Prop) : List Bop × En → Prop := fun p => ioFind p.1 0 = some (k, i) ∧ ioCount p.1 = 1 ∧ brOk i p.1 = true ∧ wp (argsT p.2 p.1) (kM1 gf p.1 i p.2 Q)
theorem kM_ap {k : Nat} {gf : Fn} : kM k i gf Q (bs, e) = (ioFind bs 0 = some (k, i) ∧ ioCount bs = 1 ∧ brOk i bs = true ∧ wp (argsT e bs) (kM1 gf bs i e Q)) := rfl
theorem w_call1 {gf : Fn} {k : Nat} : wp (eCall (some k) (some i) gf af env) Q = wp (af env) (kM k i gf Q) := we_bind.trans (by
  congr 1; funext ⟨bs, e⟩
  show wp (ck _ >>= fun _ => callApp (some k) gf bs e) Q = (_ ∧ _)
  rw [we_bind, we_ck]
  cases hf : ioFind bs 0 with
  | none => simp
  | some z =>
    obtain ⟨q, l⟩ := z
    unfold callApp
    simp only [hf, ioOk, Option.map_some, decide_eq_true_eq, Option.some.injEq, Prod.mk.injEq]
    rw [we_bind]
    refine propext ⟨?_, ?_⟩
    · rintro ⟨rfl, ts, e1, z⟩
      rw [we_bind, we_ck] at z
      obtain ⟨z1, z⟩ := z
      simp only [Bool.and_eq_true, decide_eq_true_eq] at z1
      rw [we_bind] at z
      obtain ⟨⟨t, o⟩, e2, z⟩ := z
      rw [we_bind, we_ck] at z
      obtain ⟨z2, z⟩ := z
      cases o with
      | none => exact (we_stk.mp z).elim
      | some u =>
        have z : wp (ck (brOk l bs) >>= fun _ => Except.ok (t, e.set l (some u))) Q := z
        rw [we_bind, we_ck, we_ok] at z
        refine ⟨⟨z1.1.symm, rfl⟩, z1.2, z.1, ts, e1, (t, some u), e2, fun w => ?_, z.2⟩
        rw [w] at z2
        simp at z2
        exact ⟨z2.1, fun u' hu' => by cases hu'; exact z2.2⟩
    · rintro ⟨⟨rfl, rfl⟩, h2, h3, ts, e1, ⟨t, o⟩, e2, h4, h5⟩
      cases o with
      | none => exact (opt_none.mp h5).elim
      | some u =>
        refine ⟨rfl, ts, e1, ?_⟩
        show wp (ck (decide (q = q) && decide (ioCount bs = 1)) >>= fun _ => _) Q
        rw [we_bind, we_ck]
        refine ⟨by simp [h2], ?_⟩
        rw [we_bind]
        refine ⟨(t, some u), e2, ?_⟩
        show wp (ck (!bs.any Bop.bo || (t.nfz && u.nfz)) >>= fun _ => _) Q
        rw [we_bind, we_ck]
        refine ⟨?_, ?_⟩
        · cases w : bs.any Bop.bo with
          | false => rfl
          | true => obtain ⟨a, b⟩ := h4 w; simp [a, b u rfl]
        · show wp (ck (brOk _ bs) >>= fun _ => _) Q
          rw [we_bind, we_ck, we_ok]
          exact ⟨h3, h5⟩)
def kMu3 (i : Nat) (e : En) (Q : T × En → Prop) : T × T → Prop := fun r => Q (r.2, e.set i (some r.1))
theorem kMu3_ap {u : T} : kMu3 i e Q (t, u) = Q (u, e.set i (some t)) := rfl
def kMu2 (m : T → List T → R (T × T)) (i : Nat) (e : En) (Q : T × En → Prop) : List T → Prop := fun ts => opt (look e i) fun t => wp (m t ts) (kMu3 i e Q)
theorem kMu2_ap {m : T → List T → R (T × T)} : kMu2 m i e Q ts = opt (look e i) fun t => wp (m t ts) (kMu3 i e Q) := rfl
def kMu (m : T → List T → R (T × T)) (i : Nat) (Q : T × En → Prop) : List Bop × En → Prop := fun p => wp (tmps p.1) (kMu2 m i p.2 Q)
theorem kMu_ap {m : T → List T → R (T × T)} : kMu m i Q (bs, e) = wp (tmps bs) (kMu2 m i e Q) := rfl
theorem w_eMut {sh : T → Bool} {m : T → List T → R (T × T)} : wp (eMut i sh m af env) Q = opt (look env i) fun t0 => sh t0 = true ∧ wp (af env) (kMu m i Q) := by
  unfold eMut
  rw [we_bind, we_ck]
  have e0 : T.at env i = look env i := rfl
  rw [e0]
  cases look env i with
  | none => simp [opt_none]
  | some t0 =>
    rw [opt_some]
    congr 1
    rw [we_bind]; congr 1; funext p
    rw [we_bind]; show _ = wp _ _; congr 1; funext ts
    refine match_look.trans ?_; show opt _ _ = opt _ _; congr 1; funext t
    rw [we_bind]; congr 1; funext r; exact we_ok
def kFr (gt : T → En → R En) (s : SM) (QS : Fl × En → Prop) : List T × En → Prop := fun p => wp (forGo gt s p.1 p.2) QS
theorem kFr_ap : kFr gt s QS (ts, e) = wp (forGo gt s ts e) QS := rfl
theorem w_sFor {src : En → R (List T × En)} : wp (sFor src gt s env) QS = wp (src env) (kFr gt s QS) := we_bind
def kLc0 (e : En) (vs : List Nat) (Q : T × En → Prop) : List T × En → Prop := fun r => Q (.lst true r.1, restE e r.2 vs)
theorem kLc0_ap {e' : En} {vs : List Nat} : kLc0 e vs Q (ts, e') = Q (.lst true ts, restE e e' vs) := rfl
def kLc (gt : T → En → R En) (c : BT) (f : EM) (vs : List Nat) (Q : T × En → Prop) : List T × En → Prop := fun p => p.1.length ≤ big ∧ wp (lcGo gt c f vs p.1 (wipeE p.2 vs)) (kLc0 p.2 vs Q)
theorem kLc_ap {vs : List Nat} : kLc gt c f vs Q (ts, e) = (ts.length ≤ big ∧ wp (lcGo gt c f vs ts (wipeE e vs)) (kLc0 e vs Q)) := rfl
theorem w_eLc {vs : List Nat} {src : En → R (List T × En)} : wp (eLc src gt c f vs env) Q = wp (src env) (kLc gt c f vs Q) := we_bind.trans (by
  congr 1; funext p; rw [we_bind, we_ck, we_bind]; simp only [decide_eq_true_eq]; show _ = (_ ∧ _); congr 2; funext r; exact we_ok)
theorem w_cYes : wp (cYes env) QT = QT (true, env) := we_ok
theorem w_retNx {P : T → Prop} : wp (retOf .nx) P = P .non := we_ok
theorem w_retRt {t : T} {P : T → Prop} : wp (retOf (.rt t)) P = P t := we_ok
def kF (QF : T × Option T → Prop) : Fl × En → Prop := fun p => wp (retOf p.1) fun t => QF (t, none)
theorem kF_nx {QF : T × Option T → Prop} : kF QF (.nx, e) = QF (.non, none) := by show wp (retOf .nx) (fun t => QF (t, none)) = _; exact w_retNx
theorem kF_rt {QF : T × Option T → Prop} : kF QF (.rt t, e) = QF (t, none) := by show wp (retOf (.rt t)) (fun t => QF (t, none)) = _; exact w_retRt
theorem w_fnN {m n : Nat} {ts : List T} {QF : T × Option T → Prop} : wp (fnN m n none s ts) QF = (ts.length = m ∧ wp (s (ts.map some ++ List.replicate (n - ts.length) none)) (kF QF)) := by
  unfold fnN; rw [we_bind, we_ck]; simp only [decide_eq_true_eq]; congr 1
  unfold fnOf; rw [we_bind]; congr 1; funext p; rw [we_bind]; show _ = wp _ _; congr 1; funext t; exact we_ok
def kF1 (k : Nat) (QF : T × Option T → Prop) : Fl × En → Prop := fun p => wp (retOf p.1) fun t => opt (look p.2 k) fun u => QF (t, some u)
theorem kF1_nx {k : Nat} {QF : T × Option T → Prop} : kF1 k QF (.nx, e) = opt (look e k) fun u => QF (.non, some u) := propext ⟨fun z => (we_ok (Q := fun t => opt (look e k) fun u => QF (t, some u))).mp z, fun z => (we_ok (Q := fun t => opt (look e k) fun u => QF (t, some u))).mpr z⟩
theorem kF1_rt {k : Nat} {QF : T × Option T → Prop} : kF1 k QF (.rt t, e) = opt (look e k) fun u => QF (t, some u) := propext ⟨fun z => (we_ok (Q := fun t => opt (look e k) fun u => QF (t, some u))).mp z, fun z => (we_ok (Q := fun t => opt (look e k) fun u => QF (t, some u))).mpr z⟩
theorem w_fnN1 {m n k : Nat} {ts : List T} {QF : T × Option T → Prop} : wp (fnN m n (some k) s ts) QF = (ts.length = m ∧ wp (s (ts.map some ++ List.replicate (n - ts.length) none)) (kF1 k QF)) := by
  unfold fnN; rw [we_bind, we_ck]; simp only [decide_eq_true_eq]; congr 1
  unfold fnOf; rw [we_bind]; congr 1; funext p; rw [we_bind]; show _ = wp _ _; congr 1; funext t
  refine (match_look (o := p.2[k]?)).trans ?_; show opt _ _ = opt _ _; congr 1; funext u; exact we_ok
end
theorem ofString_inj {a b : String} : (Str.ofString a = Str.ofString b) = (a = b) := by
  refine propext ⟨fun h => ?_, fun h => h ▸ rfl⟩
  rw [Str.ofString_eq_toList, Str.ofString_eq_toList] at h
  have h := congrArg (fun z : Str => z.cps.toList) h
  have h : a.toList.map Char.toNat = b.toList.map Char.toNat := h
  have inj : ∀ {x y : Char}, x.toNat = y.toNat → x = y := fun {x y} e => Char.ext (UInt32.toNat_inj.mp e)
  have : a.toList = b.toList := by
    generalize a.toList = l at h
    generalize b.toList = m at h
    induction l generalizing m with
    | nil => cases m with
      | nil => rfl
      | cons y m => simp at h
    | cons x l ih => cases m with
      | nil => simp at h
      | cons y m =>
        simp only [List.map_cons, List.cons.injEq] at h
        rw [inj h.1, ih m h.2]
  exact String.toList_inj.mp this
theorem ofString_beq {a b : String} : (Str.ofString a == Str.ofString b) = decide (a = b) := by
  have : (Str.ofString a == Str.ofString b) = decide (Str.ofString a = Str.ofString b) := by
    rw [Bool.eq_iff_iff]; simp
  rw [this]
  simp only [ofString_inj]
section
variable {α β : Type} {f : α → T} {xs : List α}
theorem any_no : (xs.any fun _ => false) = false := by induction xs with
  | nil => rfl
  | cons x xs ih => rw [List.any_cons, ih]; rfl
theorem all_yes : (xs.all fun _ => true) = true := by induction xs with
  | nil => rfl
  | cons x xs ih => rw [List.all_cons, ih]; rfl
theorem owl_map : T.owl (xs.map f) = xs.any fun x => (f x).ow := by induction xs with
  | nil => rfl
  | cons x xs ih => simp only [List.map_cons, T.owl, List.any_cons, ih]
theorem nobl_map : T.nobl (xs.map f) = xs.all fun x => (f x).nob := by induction xs with
  | nil => rfl
  | cons x xs ih => simp only [List.map_cons, T.nobl, List.all_cons, ih]
theorem nfzl_map : T.nfzl (xs.map f) = xs.all fun x => (f x).nfz := by induction xs with
  | nil => rfl
  | cons x xs ih => simp only [List.map_cons, T.nfzl, List.all_cons, ih]
theorem fzl_map : T.fzl (xs.map f) = xs.map fun x => (f x).fz := by induction xs with
  | nil => rfl
  | cons x xs ih => simp only [List.map_cons, T.fzl, ih]
theorem owl_app {a b : List T} : T.owl (a ++ b) = (T.owl a || T.owl b) := by induction a with
  | nil => rfl
  | cons x a ih => simp only [List.cons_append, T.owl, ih, Bool.or_assoc]
theorem nobl_app {a b : List T} : T.nobl (a ++ b) = (T.nobl a && T.nobl b) := by induction a with
  | nil => rfl
  | cons x a ih => simp only [List.cons_append, T.nobl, ih, Bool.and_assoc]
theorem nfzl_app {a b : List T} : T.nfzl (a ++ b) = (T.nfzl a && T.nfzl b) := by induction a with
  | nil => rfl
  | cons x a ih => simp only [List.cons_append, T.nfzl, ih, Bool.and_assoc]
theorem fzl_app {a b : List T} : T.fzl (a ++ b) = T.fzl a ++ T.fzl b := by induction a with
  | nil => rfl
  | cons x a ih => simp only [List.cons_append, T.fzl, ih]
theorem ixN_nat {n k : Nat} : ixN n (k : Int) = if k < n then some k else none := by
  unfold ixN
  by_cases h : k < n <;> simp [h] <;> omega
theorem atI_map {g : α → β} {xs : List α} {i : Int} : atI (xs.map g) i = (atI xs i).map g := by
  unfold atI
  rw [List.length_map]
  cases ixN xs.length i with
  | none => rfl
  | some k => simp
theorem atI_nat' {xs : List α} {k : Nat} : atI xs (k : Int) = xs[k]? := by
  unfold atI
  rw [ixN_nat]
  split
  · rfl
  · rename_i h; exact (List.getElem?_eq_none (by omega)).symm
/-- one of what is there -/
def kCm (f : α → T) (P : T → Prop) : α → Prop := fun x => P (f x)
theorem kCm_ap {x : α} {P : T → Prop} : kCm f P x = P (f x) := rfl
theorem oIx_tup {ts : List T} {i : Int} {P : T → Prop} : wp (oIx [.tup ts, .int i]) P = opt (atI ts i) P := by
  show wp (match atI ts i with | some y => Except.ok y | none => stk) P = _
  cases atI ts i with
  | none => exact we_stk
  | some x => exact we_ok
theorem oIx_lst {o : Bool} {ts : List T} {i : Int} {P : T → Prop} : wp (oIx [.lst o ts, .int i]) P = opt (atI ts i) P := by
  show wp (match atI ts i with | some y => Except.ok y | none => stk) P = _
  cases atI ts i with
  | none => exact we_stk
  | some x => exact we_ok
theorem oIx_lk {ts : List T} {i : Int} {P : T → Prop} : wp (oIx [.lk ts, .int i]) P = opt (atI ts i) P := by
  show wp (match atI ts i with | some y => Except.ok y | none => stk) P = _
  cases atI ts i with
  | none => exact we_stk
  | some x => exact we_ok
theorem atI_zero {a : α} {l : List α} : atI (a :: l) 0 = some a := by
  have : atI (a :: l) ((0 : Nat) : Int) = some a := by rw [atI_nat']; rfl
  exact this
theorem atI_one {a b : α} {l : List α} : atI (a :: b :: l) 1 = some b := by
  have : atI (a :: b :: l) ((1 : Nat) : Int) = some b := by rw [atI_nat']; rfl
  exact this
theorem atI_two {a b c : α} {l : List α} : atI (a :: b :: c :: l) 2 = some c := by
  have : atI (a :: b :: c :: l) ((2 : Nat) : Int) = some c := by rw [atI_nat']; rfl
  exact this
theorem atI_three {a b c d : α} {l : List α} : atI (a :: b :: c :: d :: l) 3 = some d := by
  have : atI (a :: b :: c :: d :: l) ((3 : Nat) : Int) = some d := by rw [atI_nat']; rfl
  exact this
theorem atI_m1_1 {a : α} : atI [a] (-1) = some a := rfl
theorem atI_m1_2 {a b : α} : atI [a, b] (-1) = some b := rfl
theorem atI_m1_3 {a b c : α} : atI [a, b, c] (-1) = some c := rfl
theorem atI_m1_4 {a b c d : α} : atI [a, b, c, d] (-1) = some d := rfl
theorem atI_m2_2 {a b : α} : atI [a, b] (-2) = some a := rfl
theorem atI_m2_3 {a b c : α} : atI [a, b, c] (-2) = some b := rfl
theorem atI_m2_4 {a b c d : α} : atI [a, b, c, d] (-2) = some c := rfl
end
/-- one turn of a comprehension -/
def lcStep (g : T → En → R En) (c : En → R (Bool × En)) (f : EM) (vs : List Nat) (t : T) : En → R (Option T × En) := fun env => do
  let env1 ← g t env
  let (b, env2) ← c env1
  if b then do
    let (y, env3) ← f env2
    .ok (some y, wipeE env3 vs)
  else .ok (none, wipeE env2 vs)
section
variable {env : En} {gt : T → En → R En} {c : En → R (Bool × En)} {f : EM} {s : SM} {vs : List Nat} {α : Type} {e : α → T} {xs : List α} {QS : Fl × En → Prop}
theorem w_lcStep0 {t : T} {P : Option T × En → Prop} : wp (lcStep gt c f vs t env) P = wp (gt t env) fun e1 => wp (c e1) fun p => if p.1 = true then wp (f p.2) fun y => P (some y.1, wipeE y.2 vs) else P (none, wipeE p.2 vs) := by
  unfold lcStep
  rw [we_bind]; congr 1; funext e1; rw [we_bind]; congr 1; funext p; rw [we_ite, we_ok, we_bind]; congr 2; funext y; exact we_ok
def kS3 (vs : List Nat) (P : Option T × En → Prop) : T × En → Prop := fun y => P (some y.1, wipeE y.2 vs)
theorem kS3_ap {t : T} {e : En} {P : Option T × En → Prop} : kS3 vs P (t, e) = P (some t, wipeE e vs) := rfl
def kS2 (f : EM) (vs : List Nat) (P : Option T × En → Prop) : Bool × En → Prop := fun p => if p.1 = true then wp (f p.2) (kS3 vs P) else P (none, wipeE p.2 vs)
theorem kS2_ap {b : Bool} {e : En} {P : Option T × En → Prop} : kS2 f vs P (b, e) = if b = true then wp (f e) (kS3 vs P) else P (none, wipeE e vs) := rfl
def kS1 (c : En → R (Bool × En)) (f : EM) (vs : List Nat) (P : Option T × En → Prop) : En → Prop := fun e => wp (c e) (kS2 f vs P)
theorem kS1_ap {e : En} {P : Option T × En → Prop} : kS1 c f vs P e = wp (c e) (kS2 f vs P) := rfl
theorem w_lcStep {t : T} {P : Option T × En → Prop} : wp (lcStep gt c f vs t env) P = wp (gt t env) (kS1 c f vs P) := w_lcStep0
theorem w_lcCons {t : T} {ts : List T} {P : List T × En → Prop} : wp (lcGo gt c f vs (t :: ts) env) P = wp (lcStep gt c f vs t env) fun r => wp (lcGo gt c f vs ts r.2) fun z => P (r.1.toList ++ z.1, z.2) := by
  rw [w_lcStep0]
  show wp (gt t env >>= fun e1 => c e1 >>= fun p => if p.1 = true then (f p.2 >>= fun y => lcGo gt c f vs ts (wipeE y.2 vs) >>= fun z => Except.ok (y.1 :: z.1, z.2)) else lcGo gt c f vs ts (wipeE p.2 vs)) P = _
  rw [we_bind]; congr 1; funext e1; rw [we_bind]; congr 1; funext ⟨b, e2⟩
  rw [we_ite]
  cases b with
  | true =>
    simp only [if_true]
    rw [we_bind]; congr 1; funext y; rw [we_bind]; congr 1; funext z; rw [we_ok]; rfl
  | false => simp only [Bool.false_eq_true, if_false]; congr 1
theorem w_lcNil {P : List T × En → Prop} : wp (lcGo gt c f vs [] env) P = P ([], env) := we_ok
/-- a comprehension that changes nothing: what comes of each -/
theorem lc_fm {h : α → Option T} {P : List T × En → Prop} (hh : ∀ x, x ∈ xs → ∀ Q : Option T × En → Prop, Q (h x, env) → wp (lcStep gt c f vs (e x) env) Q) (q : P (xs.filterMap h, env)) : wp (lcGo gt c f vs (xs.map e) env) P := by
  induction xs generalizing P with
  | nil => exact we_ok.mpr q
  | cons x xs ih =>
    rw [List.map_cons, w_lcCons]
    refine hh x List.mem_cons_self _ ?_
    refine ih (fun y hy => hh y (List.mem_cons_of_mem _ hy)) ?_
    rw [List.filterMap_cons] at q
    cases w : h x with
    | none => rw [w] at q; exact q
    | some y => rw [w] at q; exact q
theorem lc_map {h : α → T} {P : List T × En → Prop} (hh : ∀ x, x ∈ xs → ∀ Q : Option T × En → Prop, Q (some (h x), env) → wp (lcStep gt c f vs (e x) env) Q) (q : P (xs.map h, env)) : wp (lcGo gt c f vs (xs.map e) env) P :=
  lc_fm (h := fun x => some (h x)) hh (by rw [List.filterMap_eq_map']; exact q)
theorem lc_filter {p : α → Bool} {h : α → T} {P : List T × En → Prop} (hh : ∀ x, x ∈ xs → ∀ Q : Option T × En → Prop, Q (if p x = true then some (h x) else none, env) → wp (lcStep gt c f vs (e x) env) Q) (q : P ((xs.filter p).map h, env)) : wp (lcGo gt c f vs (xs.map e) env) P :=
  lc_fm (h := fun x => if p x = true then some (h x) else none) hh (by
    have : xs.filterMap (fun x => if p x = true then some (h x) else none) = (xs.filter p).map h := by
      clear q hh
      induction xs with
      | nil => rfl
      | cons x xs ih => cases w : p x <;> simp [w, ih]
    rw [this]; exact q)
/-- a comprehension by an invariant: done, left, made -/
theorem lc_inv (I : List α → List α → List T → En → Prop) {P : List T × En → Prop} (h0 : I [] xs [] env)
    (hs : ∀ d x r a e', xs = d ++ x :: r → I d (x :: r) a e' → wp (lcStep gt c f vs (e x) e') fun p => I (d ++ [x]) r (a ++ p.1.toList) p.2) (hd : ∀ a e', I xs [] a e' → P (a, e')) : wp (lcGo gt c f vs (xs.map e) env) P := by
  suffices ∀ r d a env, xs = d ++ r → I d r a env → wp (lcGo gt c f vs (r.map e) env) fun p => I xs [] (a ++ p.1) p.2 from
    wp_mono (this xs [] [] env rfl h0) fun p q => hd _ _ (by simpa using q)
  intro r
  induction r with
  | nil => intro d a env hx h; exact we_ok.mpr (by simp only [List.append_nil] at hx ⊢; subst hx; exact h)
  | cons x r ih =>
    intro d a env hx h
    rw [List.map_cons, w_lcCons]
    refine wp_mono (hs d x r a env hx h) fun p q => ?_
    refine wp_mono (ih (d ++ [x]) (a ++ p.1.toList) p.2 (by rw [hx]; simp) q) fun z q => ?_
    simpa [List.append_assoc] using q
/-- the end of a turn -/
def kT (J : En → Prop) (QS : Fl × En → Prop) : Fl × En → Prop := fun p => match p.1 with
    | .nx => J p.2
    | .ct => J p.2
    | .bk => QS (.nx, p.2)
    | .rt u => QS (.rt u, p.2)
theorem kT_nx {J : En → Prop} {e : En} : kT J QS (.nx, e) = J e := rfl
theorem kT_ct {J : En → Prop} {e : En} : kT J QS (.ct, e) = J e := rfl
theorem kT_bk {J : En → Prop} {e : En} : kT J QS (.bk, e) = QS (.nx, e) := rfl
theorem kT_rt {J : En → Prop} {e : En} {u : T} : kT J QS (.rt u, e) = QS (.rt u, e) := rfl
def kBd (s : SM) (J : En → Prop) (QS : Fl × En → Prop) : En → Prop := fun e => wp (s e) (kT J QS)
theorem kBd_ap {J : En → Prop} {e : En} : kBd s J QS e = wp (s e) (kT J QS) := rfl
/-- a for by an invariant: done, left -/
theorem for_inv (I : List α → List α → En → Prop) (h0 : I [] xs env) (hs : ∀ d x r e', xs = d ++ x :: r → I d (x :: r) e' → wp (gt (e x) e') (kBd s (I (d ++ [x]) r) QS)) (hd : ∀ e', I xs [] e' → QS (.nx, e')) : wp (forGo gt s (xs.map e) env) QS := by
  suffices ∀ r d env, xs = d ++ r → I d r env → wp (forGo gt s (r.map e) env) QS from this xs [] env rfl h0
  intro r
  induction r with
  | nil => intro d env hx h; exact wp_ok (hd env (by simp only [List.append_nil] at hx; subst hx; exact h))
  | cons x r ih =>
    intro d env hx h
    rw [List.map_cons]
    refine wp_bind (wp_mono (hs d x r env hx h) fun e1 q => wp_bind (wp_mono q fun ⟨fl, e2⟩ q => ?_))
    cases fl with
    | nx => exact ih _ _ (by rw [hx]; simp) q
    | ct => exact ih _ _ (by rw [hx]; simp) q
    | bk => exact wp_ok q
    | rt u => exact wp_ok q
theorem w_forNil : wp (forGo gt s [] env) QS = QS (.nx, env) := we_ok
def kFg (gt : T → En → R En) (s : SM) (ts : List T) (QS : Fl × En → Prop) : En → Prop := fun e => wp (forGo gt s ts e) QS
theorem kFg_ap {ts : List T} {e : En} : kFg gt s ts QS e = wp (forGo gt s ts e) QS := rfl
end
theorem rngT0_map {n : Nat} : rngT 0 n = (List.range n).map fun i : Nat => T.int i := by
  unfold rngT; congr 1; funext i; rw [Int.zero_add]
theorem enumT_map {α : Type} {f : α → T} {xs : List α} : enumT 0 (xs.map f) = xs.zipIdx.map fun p => .pr [.int (p.2 : Nat), f p.1] := by
  suffices ∀ n, enumT n (xs.map f) = (xs.zipIdx n).map fun p => .pr [.int (p.2 : Nat), f p.1] from this 0
  induction xs with
  | nil => intro n; rfl
  | cons x xs ih => intro n; simp only [List.map_cons, enumT, List.zipIdx_cons, ih]
theorem zipT_map {α β : Type} {f : α → T} {g : β → T} {xs : List α} {ys : List β} : zipT (xs.map f) (ys.map g) = (xs.zip ys).map fun p => .pr [f p.1, g p.2] := by
  induction xs generalizing ys with
  | nil => rfl
  | cons x xs ih => cases ys with
    | nil => rfl
    | cons y ys => simp only [List.map_cons, zipT, List.zip_cons_cons, ih]
/-- bounds -/
theorem w_rng1 {j : Int} {P : List T → Prop} : wp (rng1 [.int j]) P = ((-1000000000000 < j ∧ j < 1000000000000) ∧ P (rngT 0 j.toNat)) := by
  show wp (ck (fitI j) >>= fun _ => Except.ok _) P = _
  rw [we_bind, we_ck, we_ok]; unfold fitI; simp
theorem w_rng2 {i j : Int} {P : List T → Prop} : wp (rng2 [.int i, .int j]) P = ((-1000000000000 < i ∧ i < 1000000000000 ∧ -1000000000000 < j ∧ j < 1000000000000) ∧ P (rngT i (j - i).toNat)) := by
  show wp (ck (fitI i && fitI j) >>= fun _ => Except.ok _) P = _
  rw [we_bind, we_ck, we_ok]; unfold fitI; simp [and_assoc]
theorem bls_map {α : Type} {p : α → Bool} {xs : List α} : bls (xs.map fun x => T.bl (p x)) = some (xs.map p) := by
  induction xs with
  | nil => rfl
  | cons x xs ih => simp only [List.map_cons, bls, ih, Option.map_some]
theorem w_all {α : Type} {o : Bool} {p : α → Bool} {xs : List α} {P : T → Prop} : wp (oAll [.lst o (xs.map fun x => T.bl (p x))]) P = P (.bl (xs.all p)) := by
  show wp (match bls (xs.map fun x => T.bl (p x)) with | some bs => Except.ok (T.bl (bs.all id)) | none => stk) P = _
  rw [bls_map]
  show wp (Except.ok (T.bl ((xs.map p).all id))) P = _
  rw [we_ok, List.all_map]; rfl
theorem w_any {α : Type} {o : Bool} {p : α → Bool} {xs : List α} {P : T → Prop} : wp (oAny [.lst o (xs.map fun x => T.bl (p x))]) P = P (.bl (xs.any p)) := by
  show wp (match bls (xs.map fun x => T.bl (p x)) with | some bs => Except.ok (T.bl (bs.any id)) | none => stk) P = _
  rw [bls_map]
  show wp (Except.ok (T.bl ((xs.map p).any id))) P = _
  rw [we_ok, List.any_map]; rfl
theorem w_mAppend {xs : List T} {t : T} {P : T × T → Prop} : wp (mAppend (.lst true xs) [t]) P = (xs.length < big ∧ P (.lst true (xs ++ [t]), .non)) := by
  show wp (ck _ >>= fun _ => Except.ok _) P = _
  rw [we_bind, we_ck, we_ok, decide_eq_true_eq]
theorem w_mExtend {o : Bool} {xs ys : List T} {P : T × T → Prop} : wp (mExtend (.lst true xs) [.lst o ys]) P = (xs.length + ys.length ≤ big ∧ P (.lst true (xs ++ ys), .non)) := by
  show wp (ck _ >>= fun _ => Except.ok _) P = _
  rw [we_bind, we_ck, we_ok, decide_eq_true_eq]
/-- an owned list's items -/
def T.ol : T → Option (List T)
  | .lst true xs => some xs
  | _ => none
def kX3 (i : Nat) (x : T) (b : Bool) (e : En) (j : Int) (QS : Fl × En → Prop) : List T → Prop := fun xs => T.owl xs = false ∧ x.ow = false ∧ b = true ∧ opt (ixN xs.length j) fun n => QS (.nx, e.set i (some (.lst true (xs.set n x))))
theorem kX3_ap {i : Nat} {x : T} {b : Bool} {e : En} {j : Int} {QS : Fl × En → Prop} {xs : List T} : kX3 i x b e j QS xs = (T.owl xs = false ∧ x.ow = false ∧ b = true ∧ opt (ixN xs.length j) fun n => QS (.nx, e.set i (some (.lst true (xs.set n x))))) := rfl
def kX2 (i : Nat) (x : T) (e1 : En) (QS : Fl × En → Prop) : T × En → Prop := fun q => wp (toI q.1) fun j => opt (look q.2 i) fun t => opt t.ol (kX3 i x (T.isLst ((look e1 i).getD .non)) q.2 j QS)
theorem kX2_ap {i : Nat} {x : T} {e1 e : En} {j : Int} {QS : Fl × En → Prop} : kX2 i x e1 QS (.int j, e) = opt (look e i) fun t => opt t.ol (kX3 i x (T.isLst ((look e1 i).getD .non)) e j QS) := by
  show wp (toI _) _ = _; rw [toIint]
def kX1 (i : Nat) (g : EM) (QS : Fl × En → Prop) : T × En → Prop := fun p => wp (g p.2) (kX2 i p.1 p.2 QS)
theorem kX1_ap {i : Nat} {g : EM} {t : T} {e : En} {QS : Fl × En → Prop} : kX1 i g QS (t, e) = wp (g e) (kX2 i t e QS) := rfl
theorem w_setIx {i : Nat} {f g : EM} {env : En} {QS : Fl × En → Prop} : wp (sSetIx i f g env) QS = wp (f env) (kX1 i g QS) := by
  unfold sSetIx
  rw [we_bind]; congr 1; funext p; rw [we_bind]; show _ = wp _ _; congr 1; funext q; rw [we_bind]; show _ = wp _ _; congr 1; funext j
  show wp (match look q.2 i with | some (.lst true xs) => _ | _ => stk) QS = _
  cases look q.2 i with
  | none => exact we_stk
  | some t =>
    cases t with
    | lst o xs =>
      cases o with
      | true =>
        show wp (ck _ >>= fun _ => _) QS = _
        rw [we_bind, we_ck, opt_some]
        show _ = opt (some xs) _
        rw [opt_some]
        refine propext ⟨fun ⟨h1, h2⟩ => ?_, fun ⟨h1, h2, h3, h4⟩ => ?_⟩
        · simp only [Bool.and_eq_true, Bool.not_eq_true'] at h1
          refine ⟨h1.1, h1.2.1, h1.2.2, ?_⟩
          cases w : ixN xs.length j with
          | none => rw [w] at h2; exact (we_stk.mp h2).elim
          | some n => rw [w] at h2; exact (we_ok (Q := QS)).mp h2
        · refine ⟨by simp only [Bool.and_eq_true, Bool.not_eq_true']; exact ⟨h1, h2, h3⟩, ?_⟩
          cases w : ixN xs.length j with
          | none => rw [w] at h4; exact h4.elim
          | some n => rw [w] at h4; exact (we_ok (Q := QS)).mpr h4
      | false => exact we_stk
    | _ => exact we_stk
theorem ixN_0 {n : Nat} : ixN (n + 1) 0 = some 0 := by
  have : ixN (n + 1) ((0 : Nat) : Int) = some 0 := by rw [ixN_nat]; simp
  exact this
theorem ixN_1 {n : Nat} : ixN (n + 2) 1 = some 1 := by
  have : ixN (n + 2) ((1 : Nat) : Int) = some 1 := by rw [ixN_nat]; simp
  exact this
theorem ixN_2 {n : Nat} : ixN (n + 3) 2 = some 2 := by
  have : ixN (n + 3) ((2 : Nat) : Int) = some 2 := by rw [ixN_nat]; simp
  exact this
theorem w_oMul {i j : Int} {P : T → Prop} : wp (oMul [.int i, .int j]) P = (((-18446744073709551616 < i ∧ i < 18446744073709551616) ∨ (-18446744073709551616 < j ∧ j < 18446744073709551616)) ∧ P (.int (i * j))) := by
  show wp (ck _ >>= fun _ => Except.ok _) P = _
  rw [we_bind, we_ck, we_ok, Bool.or_eq_true, decide_eq_true_eq, decide_eq_true_eq]
  have : ∀ i : Int, (i.natAbs < 2 ^ 64) = (-18446744073709551616 < i ∧ i < 18446744073709551616) := fun i => propext (by omega)
  rw [this, this]
theorem w_oMulL {o : Bool} {xs : List T} {j : Int} {P : T → Prop} : wp (oMul [.lst o xs, .int j]) P = (T.owl xs = false ∧ (-1000000 < j ∧ j < 1000000 ∧ xs.length * j.toNat ≤ big) ∧ P (.lst true (List.replicate j.toNat xs).flatten)) := by
  show wp (ck _ >>= fun _ => Except.ok _) P = _
  rw [we_bind, we_ck, we_ok]
  simp [and_assoc]
section
variable {i j : Int} {P : T → Prop}
theorem w_oSub : wp (oSub [.int i, .int j]) P = P (.int (i - j)) := we_ok
theorem w_oLt : wp (oLt [.int i, .int j]) P = P (.bl (decide (i < j))) := we_ok
theorem w_oLe : wp (oLe [.int i, .int j]) P = P (.bl (decide (i ≤ j))) := we_ok
theorem w_oGt : wp (oGt [.int i, .int j]) P = P (.bl (decide (j < i))) := we_ok
theorem w_oGe : wp (oGe [.int i, .int j]) P = P (.bl (decide (j ≤ i))) := we_ok
theorem w_oFdiv : wp (oFdiv [.int i, .int j]) P = ((0 < j ∧ j < 1073741824) ∧ P (.int (i / j))) := by
  show wp (ck _ >>= fun _ => Except.ok _) P = _
  rw [we_bind, we_ck, we_ok, Bool.and_eq_true, decide_eq_true_eq, decide_eq_true_eq]
theorem w_oMod : wp (oMod [.int i, .int j]) P = (0 < j ∧ P (.int (i % j))) := by
  show wp (ck _ >>= fun _ => Except.ok _) P = _
  rw [we_bind, we_ck, we_ok, decide_eq_true_eq]
theorem w_oPow : wp (oPow [.int i, .int j]) P = ((0 ≤ j ∧ j ≤ 1000) ∧ (-18446744073709551616 < i ∧ i < 18446744073709551616) ∧ P (.int (i ^ j.toNat))) := by
  show wp (ck _ >>= fun _ => Except.ok _) P = _
  rw [we_bind, we_ck, we_ok]
  simp only [Bool.and_eq_true, decide_eq_true_eq]
  have : ∀ i : Int, (i.natAbs < 2 ^ 64) = (-18446744073709551616 < i ∧ i < 18446744073709551616) := fun i => propext (by omega)
  rw [this]; simp only [and_assoc]
end
theorem opt_at {α : Type} {xs : List α} {i : Int} {P : α → Prop} (h0 : 0 ≤ i) (h1 : i < xs.length) (q : ∀ x, x ∈ xs → xs[i.toNat]? = some x → P x) : opt (atI xs i) P := by
  obtain ⟨n, rfl⟩ := Int.eq_ofNat_of_zero_le h0
  have hn : n < xs.length := by omega
  rw [atI_nat', List.getElem?_eq_getElem hn, opt_some]
  exact q _ (List.getElem_mem hn) (by simp [hn])
/-- the number at a place -/
def gi (xs : List Int) (i : Int) : Int := (atI xs i).getD 0
theorem opt_mapC {α : Type} {g : α → T} {o : Option α} {k : T → Prop} : opt (o.map g) k = opt o (kCm g k) := by cases o <;> rfl
theorem isN_non : T.isN (.non) = true := rfl
theorem isN_bl {b : Bool} : T.isN (.bl b) = false := rfl
theorem isN_int {i : Int} : T.isN (.int i) = false := rfl
theorem isN_str {z : Str} : T.isN (.str z) = false := rfl
theorem isN_tup {xs : List T} : T.isN (.tup xs) = false := rfl
theorem isN_pr {xs : List T} : T.isN (.pr xs) = false := rfl
theorem isN_lst {o : Bool} {xs : List T} : T.isN (.lst o xs) = false := rfl
theorem isN_lk {xs : List T} : T.isN (.lk xs) = false := rfl
theorem isN_dct {o : Bool} {ks : List (Key × T)} : T.isN (.dct o ks) = false := rfl
theorem flat_non : T.flat (.non) = true := rfl
theorem flat_bl {b : Bool} : T.flat (.bl b) = true := rfl
theorem flat_int {i : Int} : T.flat (.int i) = true := rfl
theorem flat_str {z : Str} : T.flat (.str z) = true := rfl
theorem flat_tup {xs : List T} : T.flat (.tup xs) = false := rfl
theorem flat_pr {xs : List T} : T.flat (.pr xs) = false := rfl
theorem flat_lst {o : Bool} {xs : List T} : T.flat (.lst o xs) = false := rfl
theorem flat_lk {xs : List T} : T.flat (.lk xs) = false := rfl
theorem flat_dct {o : Bool} {ks : List (Key × T)} : T.flat (.dct o ks) = false := rfl
theorem seq_non : T.seq (.non) = none := rfl
theorem seq_bl {b : Bool} : T.seq (.bl b) = none := rfl
theorem seq_int {i : Int} : T.seq (.int i) = none := rfl
theorem seq_str {z : Str} : T.seq (.str z) = none := rfl
theorem seq_tup {xs : List T} : T.seq (.tup xs) = some xs := rfl
theorem seq_pr {xs : List T} : T.seq (.pr xs) = none := rfl
theorem seq_lst {o : Bool} {xs : List T} : T.seq (.lst o xs) = some xs := rfl
theorem seq_lk {xs : List T} : T.seq (.lk xs) = some xs := rfl
theorem seq_dct {o : Bool} {ks : List (Key × T)} : T.seq (.dct o ks) = none := rfl
theorem tyy_non : T.ty (.non) = some .non := rfl
theorem tyy_bl {b : Bool} : T.ty (.bl b) = some .bool := rfl
theorem tyy_int {i : Int} : T.ty (.int i) = some .int := rfl
theorem tyy_str {z : Str} : T.ty (.str z) = some .str := rfl
theorem tyy_tup {xs : List T} : T.ty (.tup xs) = some .tuple := rfl
theorem tyy_pr {xs : List T} : T.ty (.pr xs) = none := rfl
theorem tyy_lst {o : Bool} {xs : List T} : T.ty (.lst o xs) = some .list := rfl
theorem tyy_lk {xs : List T} : T.ty (.lk xs) = some .list := rfl
theorem tyy_dct {o : Bool} {ks : List (Key × T)} : T.ty (.dct o ks) = some .dict := rfl
theorem ol_non : T.ol (.non) = none := rfl
theorem ol_bl {b : Bool} : T.ol (.bl b) = none := rfl
theorem ol_int {i : Int} : T.ol (.int i) = none := rfl
theorem ol_str {z : Str} : T.ol (.str z) = none := rfl
theorem ol_tup {xs : List T} : T.ol (.tup xs) = none := rfl
theorem ol_pr {xs : List T} : T.ol (.pr xs) = none := rfl
theorem ol_lstt {xs : List T} : T.ol (.lst true xs) = some xs := rfl
theorem ol_lstf {xs : List T} : T.ol (.lst false xs) = none := rfl
theorem ol_lk {xs : List T} : T.ol (.lk xs) = none := rfl
theorem ol_dct {o : Bool} {ks : List (Key × T)} : T.ol (.dct o ks) = none := rfl
theorem isLst_non : T.isLst (.non) = false := rfl
theorem isLst_bl {b : Bool} : T.isLst (.bl b) = false := rfl
theorem isLst_int {i : Int} : T.isLst (.int i) = false := rfl
theorem isLst_str {z : Str} : T.isLst (.str z) = false := rfl
theorem isLst_tup {xs : List T} : T.isLst (.tup xs) = false := rfl
theorem isLst_pr {xs : List T} : T.isLst (.pr xs) = false := rfl
theorem isLst_lstt {xs : List T} : T.isLst (.lst true xs) = true := rfl
theorem isLst_lstf {xs : List T} : T.isLst (.lst false xs) = false := rfl
theorem isLst_lk {xs : List T} : T.isLst (.lk xs) = false := rfl
theorem isLst_dct {o : Bool} {ks : List (Key × T)} : T.isLst (.dct o ks) = false := rfl
theorem isTy_non_non : isTy .non .non = true := rfl
theorem isTy_non_bool : isTy .non .bool = false := rfl
theorem isTy_non_int : isTy .non .int = false := rfl
theorem isTy_non_str : isTy .non .str = false := rfl
theorem isTy_non_list : isTy .non .list = false := rfl
theorem isTy_non_tuple : isTy .non .tuple = false := rfl
theorem isTy_non_dict : isTy .non .dict = false := rfl
theorem isTy_bool_non : isTy .bool .non = false := rfl
theorem isTy_bool_bool : isTy .bool .bool = true := rfl
theorem isTy_bool_int : isTy .bool .int = true := rfl
theorem isTy_bool_str : isTy .bool .str = false := rfl
theorem isTy_bool_list : isTy .bool .list = false := rfl
theorem isTy_bool_tuple : isTy .bool .tuple = false := rfl
theorem isTy_bool_dict : isTy .bool .dict = false := rfl
theorem isTy_int_non : isTy .int .non = false := rfl
theorem isTy_int_bool : isTy .int .bool = false := rfl
theorem isTy_int_int : isTy .int .int = true := rfl
theorem isTy_int_str : isTy .int .str = false := rfl
theorem isTy_int_list : isTy .int .list = false := rfl
theorem isTy_int_tuple : isTy .int .tuple = false := rfl
theorem isTy_int_dict : isTy .int .dict = false := rfl
theorem isTy_str_non : isTy .str .non = false := rfl
theorem isTy_str_bool : isTy .str .bool = false := rfl
theorem isTy_str_int : isTy .str .int = false := rfl
theorem isTy_str_str : isTy .str .str = true := rfl
theorem isTy_str_list : isTy .str .list = false := rfl
theorem isTy_str_tuple : isTy .str .tuple = false := rfl
theorem isTy_str_dict : isTy .str .dict = false := rfl
theorem isTy_list_non : isTy .list .non = false := rfl
theorem isTy_list_bool : isTy .list .bool = false := rfl
theorem isTy_list_int : isTy .list .int = false := rfl
theorem isTy_list_str : isTy .list .str = false := rfl
theorem isTy_list_list : isTy .list .list = true := rfl
theorem isTy_list_tuple : isTy .list .tuple = false := rfl
theorem isTy_list_dict : isTy .list .dict = false := rfl
theorem isTy_tuple_non : isTy .tuple .non = false := rfl
theorem isTy_tuple_bool : isTy .tuple .bool = false := rfl
theorem isTy_tuple_int : isTy .tuple .int = false := rfl
theorem isTy_tuple_str : isTy .tuple .str = false := rfl
theorem isTy_tuple_list : isTy .tuple .list = false := rfl
theorem isTy_tuple_tuple : isTy .tuple .tuple = true := rfl
theorem isTy_tuple_dict : isTy .tuple .dict = false := rfl
theorem isTy_dict_non : isTy .dict .non = false := rfl
theorem isTy_dict_bool : isTy .dict .bool = false := rfl
theorem isTy_dict_int : isTy .dict .int = false := rfl
theorem isTy_dict_str : isTy .dict .str = false := rfl
theorem isTy_dict_list : isTy .dict .list = false := rfl
theorem isTy_dict_tuple : isTy .dict .tuple = false := rfl
theorem isTy_dict_dict : isTy .dict .dict = true := rfl
/-- one of a list, drawn -/
theorem pick {α : Type} {ts : List α} {i : Int} {P : α → Prop} (Rr : α → Prop) (h : ∀ x, x ∈ ts → Rr x) (h0 : 0 ≤ i) (h1 : i < ts.length) (q : ∀ x, Rr x → P x) : opt (atI ts i) P :=
  opt_at h0 h1 fun x hx _ => q x (h x hx)
theorem al_nil {α : Type} {P : α → Prop} : ∀ x, x ∈ ([] : List α) → P x := fun _ h => nomatch h
theorem al_cons {α : Type} {P : α → Prop} {x : α} {xs : List α} (h : P x) (t : ∀ y, y ∈ xs → P y) : ∀ y, y ∈ x :: xs → P y := fun y hy => (List.mem_cons.mp hy).elim (fun e => e ▸ h) (t y)
/-- an int between two, drawn out of a list -/
theorem pickI {ts : List T} {i lo hi : Int} {P : T → Prop} (h : ∀ x, x ∈ ts → ∃ m : Int, x = .int m ∧ lo ≤ m ∧ m ≤ hi) (h0 : 0 ≤ i) (h1 : i < ts.length) (q : ∀ m : Int, lo ≤ m → m ≤ hi → P (.int m)) : opt (atI ts i) P :=
  pick _ h h0 h1 fun _ ⟨m, e, h2, h3⟩ => e ▸ q m h2 h3
theorem restE_nil {a b : En} : restE a b [] = b := rfl
theorem restE_cons {a b : En} {v : Nat} {vs : List Nat} : restE a b (v :: vs) = (restE a b vs).set v (look a v) := rfl
theorem sl00L {o : Bool} {xs : List T} {P : T → Prop} : wp (oSl false false [.lst o xs]) P = P (.lst true (cutL xs none none)) := we_ok
theorem sl00T {xs : List T} {P : T → Prop} : wp (oSl false false [.tup xs]) P = P (.tup (cutL xs none none)) := we_ok
theorem sl00S {z : Str} {P : T → Prop} : wp (oSl false false [.str z]) P = (z.length ≤ big ∧ P (.str (cutS z none none))) := by
  show wp (ck _ >>= fun _ => Except.ok _) P = _
  rw [we_bind, we_ck, we_ok, decide_eq_true_eq]
theorem sl10L {o : Bool} {xs : List T} {i : Int} {P : T → Prop} : wp (oSl true false [.lst o xs, .int i]) P = P (.lst true (cutL xs (some i) none)) := we_ok
theorem sl10T {xs : List T} {i : Int} {P : T → Prop} : wp (oSl true false [.tup xs, .int i]) P = P (.tup (cutL xs (some i) none)) := we_ok
theorem sl10S {z : Str} {i : Int} {P : T → Prop} : wp (oSl true false [.str z, .int i]) P = (z.length ≤ big ∧ P (.str (cutS z (some i) none))) := by
  show wp (ck _ >>= fun _ => Except.ok _) P = _
  rw [we_bind, we_ck, we_ok, decide_eq_true_eq]
theorem sl01L {o : Bool} {xs : List T} {i : Int} {P : T → Prop} : wp (oSl false true [.lst o xs, .int i]) P = P (.lst true (cutL xs none (some i))) := we_ok
theorem sl01T {xs : List T} {i : Int} {P : T → Prop} : wp (oSl false true [.tup xs, .int i]) P = P (.tup (cutL xs none (some i))) := we_ok
theorem sl01S {z : Str} {i : Int} {P : T → Prop} : wp (oSl false true [.str z, .int i]) P = (z.length ≤ big ∧ P (.str (cutS z none (some i)))) := by
  show wp (ck _ >>= fun _ => Except.ok _) P = _
  rw [we_bind, we_ck, we_ok, decide_eq_true_eq]
theorem sl11L {o : Bool} {xs : List T} {i j : Int} {P : T → Prop} : wp (oSl true true [.lst o xs, .int i, .int j]) P = P (.lst true (cutL xs (some i) (some j))) := we_ok
theorem sl11T {xs : List T} {i j : Int} {P : T → Prop} : wp (oSl true true [.tup xs, .int i, .int j]) P = P (.tup (cutL xs (some i) (some j))) := we_ok
theorem sl11S {z : Str} {i j : Int} {P : T → Prop} : wp (oSl true true [.str z, .int i, .int j]) P = (z.length ≤ big ∧ P (.str (cutS z (some i) (some j)))) := by
  show wp (ck _ >>= fun _ => Except.ok _) P = _
  rw [we_bind, we_ck, we_ok, decide_eq_true_eq]
theorem cut_map {α β : Type} {f : α → β} {xs : List α} {lo hi : Option Int} : cutL (xs.map f) lo hi = (cutL xs lo hi).map f := by
  unfold cutL
  rw [List.length_map, List.map_take, List.map_drop]
theorem sIx_pos {n d : Nat} {i : Int} (h : 0 ≤ i) : HT.sIx n d (some i) = min i.toNat n := by
  obtain ⟨k, rfl⟩ := Int.eq_ofNat_of_zero_le h
  exact HT.sIx_nat n d k
theorem cut_to {α : Type} {xs : List α} {i : Int} (h : 0 ≤ i) : cutL xs none (some i) = xs.take i.toNat := by
  unfold cutL
  rw [sIx_pos h, HT.sIx_none, List.drop_zero, Nat.sub_zero]
  by_cases hl : i.toNat ≤ xs.length
  · rw [Nat.min_eq_left hl]
  · rw [Nat.min_eq_right (by omega), List.take_length, List.take_of_length_le (by omega)]
theorem cut_from {α : Type} {xs : List α} {i : Int} (h : 0 ≤ i) : cutL xs (some i) none = xs.drop i.toNat := by
  unfold cutL
  rw [sIx_pos h, HT.sIx_none]
  by_cases hl : i.toNat ≤ xs.length
  · rw [Nat.min_eq_left hl]
    exact List.take_of_length_le (by simp)
  · rw [Nat.min_eq_right (by omega), List.drop_length, List.drop_of_length_le (by omega)]
    simp
theorem cut_all {α : Type} {xs : List α} : cutL xs none none = xs := by
  unfold cutL
  rw [HT.sIx_none, HT.sIx_none]; simp
theorem map_some_nil : List.map (some : T → Option T) [] = [] := rfl
theorem map_some_cons {t : T} {ts : List T} : List.map some (t :: ts) = some t :: List.map some ts := rfl
theorem map_res_nil : List.map Bop.res [] = [] := rfl
theorem map_res_cons {b : Bop} {bs : List Bop} : List.map Bop.res (b :: bs) = b.res :: List.map Bop.res bs := rfl
theorem mapI_app {xs ys : List Int} : xs.map T.int ++ ys.map T.int = (xs ++ ys).map T.int := by rw [List.map_append]
theorem mapI_snoc {xs : List Int} {a : Int} : xs.map T.int ++ [T.int a] = (xs ++ [a]).map T.int := by simp
theorem mapI_snoc2 {xs : List Int} {a b : Int} : xs.map T.int ++ [T.int a, T.int b] = (xs ++ [a, b]).map T.int := by simp
theorem mapI_cons {xs : List Int} {a : Int} : T.int a :: xs.map T.int = (a :: xs).map T.int := rfl
section
variable {env e : En} {i : Nat} {af : AM} {p : List Stp} {bs : List Bop} {ts xs : List T} {t u w x y z : T} {Q : T × En → Prop} {QB : Bop × En → Prop} {o : Bool} {k : Int} {m : T → List T → R (T × T)}
theorem w_bP : wp (bP i p env) QB = opt ((look env i).bind (T.foc p)) fun u => QB (.br u i, env) := by
  unfold bP
  have e0 : T.at env i = look env i := rfl
  rw [e0]
  cases (look env i).bind (T.foc p) with
  | none => exact we_stk
  | some u => exact we_ok
def kU3 (i : Nat) (p : List Stp) (t : T) (e : En) (Q : T × En → Prop) : T × T → Prop := fun r => opt (T.upf p t r.1) fun t' => Q (r.2, e.set i (some t'))
theorem kU3_ap : kU3 i p t e Q (u, w) = opt (T.upf p t u) fun t' => Q (w, e.set i (some t')) := rfl
def kU2 (m : T → List T → R (T × T)) (i : Nat) (p : List Stp) (e : En) (Q : T × En → Prop) : List T → Prop := fun ts => opt (look e i) fun t => opt (T.foc p t) fun u => wp (m u ts) (kU3 i p t e Q)
theorem kU2_ap : kU2 m i p e Q ts = opt (look e i) fun t => opt (T.foc p t) fun u => wp (m u ts) (kU3 i p t e Q) := rfl
def kU1 (m : T → List T → R (T × T)) (i : Nat) (p : List Stp) (Q : T × En → Prop) : List Bop × En → Prop := fun r => wp (tmps r.1) (kU2 m i p r.2 Q)
theorem kU1_ap : kU1 m i p Q (bs, e) = wp (tmps bs) (kU2 m i p e Q) := rfl
theorem w_eMutP {sh : T → Bool} : wp (eMutP i p sh m af env) Q = opt ((look env i).bind (T.foc p)) fun u0 => sh u0 = true ∧ wp (af env) (kU1 m i p Q) := by
  unfold eMutP
  rw [we_bind, we_ck]
  have e0 : T.at env i = look env i := rfl
  rw [e0]
  cases (look env i).bind (T.foc p) with
  | none => simp [opt_none]
  | some t0 =>
    rw [opt_some]
    congr 1
    rw [we_bind]; congr 1; funext r
    rw [we_bind]; show _ = wp _ _; congr 1; funext ts
    show _ = opt _ _
    have e1 : T.at r.2 i = look r.2 i := rfl
    rw [e1]
    cases look r.2 i with
    | none => exact we_stk
    | some t =>
      rw [opt_some]
      cases h : T.foc p t with
      | none => simp only [h]; exact we_stk
      | some u =>
        simp only [h]
        rw [opt_some, we_bind]; congr 1; funext ⟨u', w⟩
        show _ = opt _ _
        cases h2 : T.upf p t u' with
        | none => simp only [h2]; exact we_stk
        | some t' => simp only [h2]; exact we_ok
theorem foc_nil : T.foc [] t = some t := rfl
theorem foc_L : T.foc (.ix k :: p) (.lst o xs) = (atI xs k).bind (T.foc p) := rfl
theorem foc_T : T.foc (.ix k :: p) (.tup xs) = (atI xs k).bind (T.foc p) := rfl
theorem foc_F {c d f : Str} {fs : List (Str × T)} : T.foc (.fd c f :: p) (.obj c fs) = (fs.lookup f).bind (T.foc p) := by
  show (if c = c then (fs.lookup f).bind (T.foc p) else none) = _
  rw [if_pos rfl]
theorem upf_nil : T.upf [] t u = some u := rfl
theorem upf_L0 : T.upf (.ix 0 :: p) (.lst true (x :: xs)) u = (T.upf p x u).map fun z => .lst true (z :: xs) := by
  simp only [T.upf, List.length_cons, ixN_0, Option.bind_some, List.getElem?_cons_zero, List.set_cons_zero]
theorem upf_L1 : T.upf (.ix 1 :: p) (.lst true (x :: y :: xs)) u = (T.upf p y u).map fun z => .lst true (x :: z :: xs) := by
  simp only [T.upf, List.length_cons, ixN_1, Option.bind_some, List.getElem?_cons_succ, List.getElem?_cons_zero, List.set_cons_succ, List.set_cons_zero]
theorem upf_L2 : T.upf (.ix 2 :: p) (.lst true (x :: y :: z :: xs)) u = (T.upf p z u).map fun w => .lst true (x :: y :: w :: xs) := by
  simp only [T.upf, List.length_cons, ixN_2, Option.bind_some, List.getElem?_cons_succ, List.getElem?_cons_zero, List.set_cons_succ, List.set_cons_zero]
theorem upf_T0 : T.upf (.ix 0 :: p) (.tup (x :: xs)) u = (T.upf p x u).map fun z => .tup (z :: xs) := by
  simp only [T.upf, List.length_cons, ixN_0, Option.bind_some, List.getElem?_cons_zero, List.set_cons_zero]
theorem upf_T1 : T.upf (.ix 1 :: p) (.tup (x :: y :: xs)) u = (T.upf p y u).map fun z => .tup (x :: z :: xs) := by
  simp only [T.upf, List.length_cons, ixN_1, Option.bind_some, List.getElem?_cons_succ, List.getElem?_cons_zero, List.set_cons_succ, List.set_cons_zero]
theorem upf_T2 : T.upf (.ix 2 :: p) (.tup (x :: y :: z :: xs)) u = (T.upf p z u).map fun w => .tup (x :: y :: w :: xs) := by
  simp only [T.upf, List.length_cons, ixN_2, Option.bind_some, List.getElem?_cons_succ, List.getElem?_cons_zero, List.set_cons_succ, List.set_cons_zero]
end
section
variable {o : Bool} {ks : List (Key × T)} {i : Int} {z : Str} {d t : T} {P : T → Prop} {env : En} {Q : T × En → Prop}
theorem w_dinI : wp (oDIn [.int i, .dct o ks]) P = P (.bl (getT ks (.inl i)).isSome) := we_ok
theorem w_dinS : wp (oDIn [.str z, .dct o ks]) P = P (.bl (getT ks (.inr z)).isSome) := we_ok
theorem w_dninI : wp (oDNin [.int i, .dct o ks]) P = P (.bl (!(getT ks (.inl i)).isSome)) := we_ok
theorem w_dninS : wp (oDNin [.str z, .dct o ks]) P = P (.bl (!(getT ks (.inr z)).isSome)) := we_ok
theorem w_dixI : wp (oDIx [.dct o ks, .int i]) P = opt (getT ks (.inl i)) P := by
  show wp (match getT ks (.inl i) with | some t => Except.ok t | none => stk) P = _
  cases getT ks (.inl i) with
  | none => exact we_stk
  | some t => exact we_ok
theorem w_dixS : wp (oDIx [.dct o ks, .str z]) P = opt (getT ks (.inr z)) P := by
  show wp (match getT ks (.inr z) with | some t => Except.ok t | none => stk) P = _
  cases getT ks (.inr z) with
  | none => exact we_stk
  | some t => exact we_ok
theorem w_dgetI : wp (oDGet [.dct o ks, .int i, t]) P = P ((getT ks (.inl i)).getD t) := we_ok
theorem w_dgetS : wp (oDGet [.dct o ks, .str z, t]) P = P ((getT ks (.inr z)).getD t) := we_ok
theorem w_eDnew : wp (eDnew env) Q = Q (.dct true [], env) := we_ok
theorem intsOf_map {xs : List Int} : intsOf (xs.map T.int) = some xs := by
  induction xs with
  | nil => rfl
  | cons x xs ih => simp only [List.map_cons, intsOf, ih, Option.map_some]
theorem w_sorted {xs : List Int} : wp (oSorted [.lst o (xs.map T.int)]) P = P (.lst true ((xs.mergeSort (fun a b => decide (a ≤ b))).map T.int)) := by
  show wp (match intsOf (xs.map T.int) with | some ns => Except.ok (T.lst true ((ns.mergeSort (fun a b => decide (a ≤ b))).map T.int)) | none => stk) P = _
  rw [intsOf_map]; exact we_ok
theorem w_sum {xs : List Int} : wp (oSum [.lst o (xs.map T.int)]) P = P (.int xs.sum) := by
  show wp (match intsOf (xs.map T.int) with | some ns => Except.ok (T.int ns.sum) | none => stk) P = _
  rw [intsOf_map]; exact we_ok
theorem w_lrg1 {j : Int} : wp (oLRg1 [.int j]) P = ((-1000000000000 < j ∧ j < 1000000) ∧ P (.lst true (rngT 0 j.toNat))) := by
  show wp (ck _ >>= fun _ => Except.ok _) P = _
  rw [we_bind, we_ck, we_ok, Bool.and_eq_true, decide_eq_true_eq, decide_eq_true_eq]
theorem w_lrg2 {i j : Int} : wp (oLRg2 [.int i, .int j]) P = ((-1000000000000 < i ∧ i < 1000000000000 ∧ -1000000000000 < j ∧ j < 1000000000000 ∧ j - i < 1000000) ∧ P (.lst true (rngT i (j - i).toNat))) := by
  show wp (ck _ >>= fun _ => Except.ok _) P = _
  rw [we_bind, we_ck, we_ok]; simp
end
section
variable {env e : En} {i : Nat} {f : EM} {t : T} {Q : T × En → Prop} {xs : List T} {P : T × T → Prop} {k : Int}
def kLd (e : En) (Q : T × En → Prop) : T × En → Prop := fun r => r.1.flat = true ∧ Q (r.1, e)
theorem kLd_ap {e' : En} : kLd e Q (t, e') = (t.flat = true ∧ Q (t, e)) := rfl
def ldK (o : Option T) (i : Nat) (f : EM) (env : En) (Q : T × En → Prop) : Prop := match o with
  | some t => if t.ow = true then t.nob = true ∧ wp (f (env.set i (some t.fz))) (kLd env Q) else wp (f env) Q
  | none => wp (f env) Q
theorem ldK_some : ldK (some t) i f env Q = if t.ow = true then t.nob = true ∧ wp (f (env.set i (some t.fz))) (kLd env Q) else wp (f env) Q := rfl
theorem w_eLd : wp (eLd i f env) Q = ldK (look env i) i f env Q := by
  unfold eLd
  have e0 : T.at env i = look env i := rfl
  rw [e0]
  cases look env i with
  | none => rfl
  | some t =>
    show wp (if t.ow = true then _ else f env) Q = _
    rw [we_ite, ldK_some, we_bind, we_ck, we_bind]
    congr 2
    congr 1
    funext r
    show wp (ck r.1.flat >>= fun _ => Except.ok (r.1, env)) Q = _
    rw [we_bind, we_ck, we_ok]; rfl
theorem w_mInsert : wp (mInsert (.lst true xs) [.int k, t]) P = (T.owl xs = false ∧ xs.length < big ∧ (0 ≤ k ∧ k < 9223372036854775808) ∧ P (.lst true (xs.take k.toNat ++ [t] ++ xs.drop k.toNat), .non)) := by
  show wp (ck _ >>= fun _ => Except.ok _) P = _
  rw [we_bind, we_ck, we_ok]
  simp [and_assoc]
theorem w_mReverse : wp (mReverse (.lst true xs) []) P = (T.owl xs = false ∧ P (.lst true xs.reverse, .non)) := by
  show wp (ck _ >>= fun _ => Except.ok _) P = _
  rw [we_bind, we_ck, we_ok]
  simp
theorem w_mClear : wp (mClear (.lst true xs) []) P = P (.lst true [], .non) := we_ok
end
/-- data of so many levels -/
def Dat (n : Nat) (t : T) : Prop := ∃ d, t.pd = some d ∧ d.canLay0 = true ∧ d.depth ≤ n
theorem Dat.int {n : Nat} {i : Int} : Dat n (.int i) := ⟨_, rfl, by simp [PyData.canLay0], by simp [PyData.depth]⟩
theorem Dat.bl {n : Nat} {i : Bool} : Dat n (.bl i) := ⟨_, rfl, by simp [PyData.canLay0], by simp [PyData.depth]⟩
theorem Dat.non {n : Nat} : Dat n .non := ⟨_, rfl, by simp [PyData.canLay0], by simp [PyData.depth]⟩
theorem Dat.str {n : Nat} {z : Str} (h : PyData.canLay0 (.str z) = true) : Dat n (.str z) := ⟨_, rfl, h, by simp [PyData.depth]⟩
theorem dat_all {n : Nat} : ∀ {xs : List T}, (∀ x, x ∈ xs → Dat n x) → ∃ ds, T.pdl xs = some ds ∧ PyData.canLayAll0 ds = true ∧ PyData.depthAll ds ≤ n
  | [], _ => ⟨[], rfl, rfl, Nat.zero_le _⟩
  | x :: xs, h => by
    obtain ⟨d, h1, h2, h3⟩ := h x List.mem_cons_self
    obtain ⟨ds, h4, h5, h6⟩ := dat_all fun y hy => h y (List.mem_cons_of_mem _ hy)
    refine ⟨d :: ds, ?_, ?_, ?_⟩
    · simp only [T.pdl, h1, h4]
    · simp only [PyData.canLayAll0, h2, h5, Bool.and_self]
    · simp only [PyData.depthAll]; omega
theorem Dat.tup {n : Nat} {xs : List T} (h : ∀ x, x ∈ xs → Dat n x) : Dat (n + 1) (.tup xs) := by
  obtain ⟨ds, h1, h2, h3⟩ := dat_all h
  exact ⟨.tuple ds, by simp only [T.pd, h1, Option.map_some], by simpa only [PyData.canLay0] using h2, by simp only [PyData.depth]; omega⟩
theorem Dat.lst {n : Nat} {o : Bool} {xs : List T} (h : ∀ x, x ∈ xs → Dat n x) : Dat (n + 1) (.lst o xs) := by
  obtain ⟨ds, h1, h2, h3⟩ := dat_all h
  exact ⟨.list ds, by simp only [T.pd, h1, Option.map_some], by simpa only [PyData.canLay0] using h2, by simp only [PyData.depth]; omega⟩
theorem Dat.up {n m : Nat} {t : T} (h : Dat n t) (hm : n ≤ m) : Dat m t := let ⟨d, a, b, c⟩ := h; ⟨d, a, b, Nat.le_trans c hm⟩
section
def spK (o : Option T) (u v : T) (n m : Int) (i : Nat) (e : En) (QS : Fl × En → Prop) : Prop := match o with
  | some (.lst true xs) => T.owl xs = false ∧ u.ow = false ∧ v.ow = false ∧ opt (ixN xs.length n) fun a => opt (ixN xs.length m) fun b => QS (.nx, e.set i (some (.lst true ((xs.set a u).set b v))))
  | _ => False
def kSp (i : Nat) (n m : Int) (QS : Fl × En → Prop) : T × En → Prop := fun p => match p.1 with
  | .tup [u, v] => spK (look p.2 i) u v n m i p.2 QS
  | _ => False
end
end QL
namespace QL
open PySem L2
theorem sA : type_of% (And.intro (And.intro (And.intro (And.intro (And.intro (And.intro (And.intro (@we_ok) (And.intro (@we_bind) (@we_stk))) (And.intro (@we_ck) (And.intro (@we_ite) (@opt_some)))) (And.intro (And.intro (@opt_none) (And.intro (@look_zero) (@look_succ))) (And.intro (@w_bE) (And.intro (@w_bV) (@w_bIo))))) (And.intro (And.intro (And.intro (@w_bI) (And.intro (@w_aNil) (@w_aCons))) (And.intro (@w_eC) (And.intro (@w_eVar) (@w_eMv)))) (And.intro (And.intro (@w_eFz) (And.intro (@w_eAl) (@w_eOp))) (And.intro (And.intro (@w_eTup) (@w_eLst)) (And.intro (@w_eIf) (@toBbl)))))) (And.intro (And.intro (And.intro (And.intro (@toIint) (And.intro (@w_eAnd) (@w_eOr))) (And.intro (@w_eNot) (And.intro (@w_eChain) (@w_tV)))) (And.intro (And.intro (@w_tAnd) (And.intro (@w_tOr) (@w_tNot))) (And.intro (@w_sNil) (And.intro (@w_sBreak) (@w_sCont))))) (And.intro (And.intro (And.intro (@w_sSeq) (And.intro (@w_sIf) (@w_sDrop))) (And.intro (@w_sRet) (And.intro (@w_sRetN) (@w_sAsg)))) (And.intro (And.intro (@w_gN) (And.intro (@w_gT) (@w_gTp))) (And.intro (And.intro (@w_gTl) (@w_gsN)) (And.intro (@w_gsC) (@w_sPar))))))) (And.intro (And.intro (And.intro (And.intro (And.intro (@w_sPar3) (And.intro (@w_sAug) (@w_iRng))) (And.intro (@w_iSeq) (And.intro (@w_srcT) (@w_args0)))) (And.intro (And.intro (@w_args1) (And.intro (@w_argTmp) (@w_argBr))) (And.intro (@w_argIo) (And.intro (@w_tmps0) (@w_tmps1))))) (And.intro (And.intro (And.intro (@w_call0) (And.intro (@w_call1) (@w_eMut))) (And.intro (@w_sFor) (And.intro (@w_eLc) (@w_cYes)))) (And.intro (And.intro (@w_fnN) (And.intro (@w_fnN1) (@w_retNx))) (And.intro (And.intro (@w_retRt) (@w_lcStep)) (And.intro (@w_lcNil) (@w_forNil)))))) (And.intro (And.intro (And.intro (And.intro (@w_rng1) (And.intro (@w_rng2) (@w_mAppend))) (And.intro (@w_mExtend) (And.intro (@w_setIx) (@oIx_tup)))) (And.intro (And.intro (@oIx_lst) (And.intro (@oIx_lk) (@opt_mapC))) (And.intro (@w_oMul) (And.intro (@w_oSub) (@w_oLt))))) (And.intro (And.intro (And.intro (@w_oLe) (And.intro (@w_oGt) (@w_oGe))) (And.intro (@w_oFdiv) (And.intro (@w_oMod) (@w_oPow)))) (And.intro (And.intro (@w_oMulL) (And.intro (@w_all) (@w_any))) (And.intro (And.intro (@kB_ap) (@kI_ap)) (And.intro (@kA_ap) (@kA2_ap)))))))) (And.intro (And.intro (And.intro (And.intro (And.intro (And.intro (@kOp_ap) (And.intro (@kOp2_ap) (@kDs_ap))) (And.intro (@kD_ap) (And.intro (@kIf_ap) (@kTB_ap)))) (And.intro (And.intro (@kAnd_ap) (And.intro (@kOr_ap) (@kNot_ap))) (And.intro (@kV_ap) (And.intro (@kCh3_ap) (@kCh2_ap))))) (And.intro (And.intro (And.intro (@kCh1_ap) (And.intro (@kTO_ap) (@kTA_ap))) (And.intro (@kTN_ap) (And.intro (@kSeq_nx) (@kSeq_bk)))) (And.intro (And.intro (@kSeq_ct) (And.intro (@kSeq_rt) (@kDr_ap))) (And.intro (And.intro (@kRt_ap) (@kNx_ap)) (And.intro (@kAs_ap) (@kG_ap)))))) (And.intro (And.intro (And.intro (And.intro (@kP2_ap) (And.intro (@kP3_ap) (@kAu2_ap))) (And.intro (@kAu_ap) (And.intro (@kW2_ap) (@kW1_ap)))) (And.intro (And.intro (@kW_ap) (And.intro (@kSq_ap) (@kAr2_ap))) (And.intro (@kAr_ap) (And.intro (@kC2_ap) (@kC1_ap))))) (And.intro (And.intro (And.intro (@kC_ap) (And.intro (@kM2_ap) (@kM1_ap))) (And.intro (@kM_ap) (And.intro (@kMu3_ap) (@kMu2_ap)))) (And.intro (And.intro (@kMu_ap) (And.intro (@kFr_ap) (@kLc0_ap))) (And.intro (And.intro (@kLc_ap) (@kF_nx)) (And.intro (@kF_rt) (@kF1_nx))))))) (And.intro (And.intro (And.intro (And.intro (And.intro (@kF1_rt) (And.intro (@kCm_ap) (@kS3_ap))) (And.intro (@kS2_ap) (And.intro (@kS1_ap) (@kT_nx)))) (And.intro (And.intro (@kT_ct) (And.intro (@kT_bk) (@kT_rt))) (And.intro (@kBd_ap) (And.intro (@kFg_ap) (@kX3_ap))))) (And.intro (And.intro (And.intro (@kX2_ap) (And.intro (@kX1_ap) (@sl00L))) (And.intro (@sl00T) (And.intro (@sl00S) (@sl10L)))) (And.intro (And.intro (@sl10T) (And.intro (@sl10S) (@sl01L))) (And.intro (And.intro (@sl01T) (@sl01S)) (And.intro (@sl11L) (@sl11T)))))) (And.intro (And.intro (And.intro (And.intro (@sl11S) (And.intro (@w_bP) (@w_eMutP))) (And.intro (@kU1_ap) (And.intro (@kU2_ap) (@kU3_ap)))) (And.intro (And.intro (@w_dinI) (And.intro (@w_dinS) (@w_dninI))) (And.intro (@w_dninS) (And.intro (@w_dixI) (@w_dixS))))) (And.intro (And.intro (And.intro (@w_dgetI) (And.intro (@w_dgetS) (@w_eDnew))) (And.intro (@w_sorted) (And.intro (@w_sum) (@w_lrg1)))) (And.intro (And.intro (@w_lrg2) (And.intro (@w_eLd) (@ldK_some))) (And.intro (And.intro (@kLd_ap) (@w_mInsert)) (And.intro (@w_mReverse) (@w_mClear))))))))) := And.intro (And.intro (And.intro (And.intro (And.intro (And.intro (And.intro (@we_ok) (And.intro (@we_bind) (@we_stk))) (And.intro (@we_ck) (And.intro (@we_ite) (@opt_some)))) (And.intro (And.intro (@opt_none) (And.intro (@look_zero) (@look_succ))) (And.intro (@w_bE) (And.intro (@w_bV) (@w_bIo))))) (And.intro (And.intro (And.intro (@w_bI) (And.intro (@w_aNil) (@w_aCons))) (And.intro (@w_eC) (And.intro (@w_eVar) (@w_eMv)))) (And.intro (And.intro (@w_eFz) (And.intro (@w_eAl) (@w_eOp))) (And.intro (And.intro (@w_eTup) (@w_eLst)) (And.intro (@w_eIf) (@toBbl)))))) (And.intro (And.intro (And.intro (And.intro (@toIint) (And.intro (@w_eAnd) (@w_eOr))) (And.intro (@w_eNot) (And.intro (@w_eChain) (@w_tV)))) (And.intro (And.intro (@w_tAnd) (And.intro (@w_tOr) (@w_tNot))) (And.intro (@w_sNil) (And.intro (@w_sBreak) (@w_sCont))))) (And.intro (And.intro (And.intro (@w_sSeq) (And.intro (@w_sIf) (@w_sDrop))) (And.intro (@w_sRet) (And.intro (@w_sRetN) (@w_sAsg)))) (And.intro (And.intro (@w_gN) (And.intro (@w_gT) (@w_gTp))) (And.intro (And.intro (@w_gTl) (@w_gsN)) (And.intro (@w_gsC) (@w_sPar))))))) (And.intro (And.intro (And.intro (And.intro (And.intro (@w_sPar3) (And.intro (@w_sAug) (@w_iRng))) (And.intro (@w_iSeq) (And.intro (@w_srcT) (@w_args0)))) (And.intro (And.intro (@w_args1) (And.intro (@w_argTmp) (@w_argBr))) (And.intro (@w_argIo) (And.intro (@w_tmps0) (@w_tmps1))))) (And.intro (And.intro (And.intro (@w_call0) (And.intro (@w_call1) (@w_eMut))) (And.intro (@w_sFor) (And.intro (@w_eLc) (@w_cYes)))) (And.intro (And.intro (@w_fnN) (And.intro (@w_fnN1) (@w_retNx))) (And.intro (And.intro (@w_retRt) (@w_lcStep)) (And.intro (@w_lcNil) (@w_forNil)))))) (And.intro (And.intro (And.intro (And.intro (@w_rng1) (And.intro (@w_rng2) (@w_mAppend))) (And.intro (@w_mExtend) (And.intro (@w_setIx) (@oIx_tup)))) (And.intro (And.intro (@oIx_lst) (And.intro (@oIx_lk) (@opt_mapC))) (And.intro (@w_oMul) (And.intro (@w_oSub) (@w_oLt))))) (And.intro (And.intro (And.intro (@w_oLe) (And.intro (@w_oGt) (@w_oGe))) (And.intro (@w_oFdiv) (And.intro (@w_oMod) (@w_oPow)))) (And.intro (And.intro (@w_oMulL) (And.intro (@w_all) (@w_any))) (And.intro (And.intro (@kB_ap) (@kI_ap)) (And.intro (@kA_ap) (@kA2_ap)))))))) (And.intro (And.intro (And.intro (And.intro (And.intro (And.intro (@kOp_ap) (And.intro (@kOp2_ap) (@kDs_ap))) (And.intro (@kD_ap) (And.intro (@kIf_ap) (@kTB_ap)))) (And.intro (And.intro (@kAnd_ap) (And.intro (@kOr_ap) (@kNot_ap))) (And.intro (@kV_ap) (And.intro (@kCh3_ap) (@kCh2_ap))))) (And.intro (And.intro (And.intro (@kCh1_ap) (And.intro (@kTO_ap) (@kTA_ap))) (And.intro (@kTN_ap) (And.intro (@kSeq_nx) (@kSeq_bk)))) (And.intro (And.intro (@kSeq_ct) (And.intro (@kSeq_rt) (@kDr_ap))) (And.intro (And.intro (@kRt_ap) (@kNx_ap)) (And.intro (@kAs_ap) (@kG_ap)))))) (And.intro (And.intro (And.intro (And.intro (@kP2_ap) (And.intro (@kP3_ap) (@kAu2_ap))) (And.intro (@kAu_ap) (And.intro (@kW2_ap) (@kW1_ap)))) (And.intro (And.intro (@kW_ap) (And.intro (@kSq_ap) (@kAr2_ap))) (And.intro (@kAr_ap) (And.intro (@kC2_ap) (@kC1_ap))))) (And.intro (And.intro (And.intro (@kC_ap) (And.intro (@kM2_ap) (@kM1_ap))) (And.intro (@kM_ap) (And.intro (@kMu3_ap) (@kMu2_ap)))) (And.intro (And.intro (@kMu_ap) (And.intro (@kFr_ap) (@kLc0_ap))) (And.intro (And.intro (@kLc_ap) (@kF_nx)) (And.intro (@kF_rt) (@kF1_nx))))))) (And.intro (And.intro (And.intro (And.intro (And.intro (@kF1_rt) (And.intro (@kCm_ap) (@kS3_ap))) (And.intro (@kS2_ap) (And.intro (@kS1_ap) (@kT_nx)))) (And.intro (And.intro (@kT_ct) (And.intro (@kT_bk) (@kT_rt))) (And.intro (@kBd_ap) (And.intro (@kFg_ap) (@kX3_ap))))) (And.intro (And.intro (And.intro (@kX2_ap) (And.intro (@kX1_ap) (@sl00L))) (And.intro (@sl00T) (And.intro (@sl00S) (@sl10L)))) (And.intro (And.intro (@sl10T) (And.intro (@sl10S) (@sl01L))) (And.intro (And.intro (@sl01T) (@sl01S)) (And.intro (@sl11L) (@sl11T)))))) (And.intro (And.intro (And.intro (And.intro (@sl11S) (And.intro (@w_bP) (@w_eMutP))) (And.intro (@kU1_ap) (And.intro (@kU2_ap) (@kU3_ap)))) (And.intro (And.intro (@w_dinI) (And.intro (@w_dinS) (@w_dninI))) (And.intro (@w_dninS) (And.intro (@w_dixI) (@w_dixS))))) (And.intro (And.intro (And.intro (@w_dgetI) (And.intro (@w_dgetS) (@w_eDnew))) (And.intro (@w_sorted) (And.intro (@w_sum) (@w_lrg1)))) (And.intro (And.intro (@w_lrg2) (And.intro (@w_eLd) (@ldK_some))) (And.intro (And.intro (@kLd_ap) (@w_mInsert)) (And.intro (@w_mReverse) (@w_mClear))))))))
theorem sB : type_of% (And.intro (And.intro (And.intro (And.intro (And.intro (And.intro (And.intro (@atI_map) (@atI_zero)) (And.intro (@atI_one) (And.intro (@atI_two) (@atI_three)))) (And.intro (And.intro (@atI_m1_1) (@atI_m1_2)) (And.intro (@atI_m1_3) (And.intro (@atI_m1_4) (@atI_m2_2))))) (And.intro (And.intro (And.intro (@atI_m2_3) (@atI_m2_4)) (And.intro (@owl_map) (And.intro (@nobl_map) (@nfzl_map)))) (And.intro (And.intro (@owl_app) (@nobl_app)) (And.intro (@nfzl_app) (And.intro (@fzl_app) (@fzl_map)))))) (And.intro (And.intro (And.intro (And.intro (@any_no) (@all_yes)) (And.intro (@map_some_nil) (And.intro (@map_some_cons) (@map_res_nil)))) (And.intro (And.intro (@map_res_cons) (@mapI_app)) (And.intro (@mapI_snoc) (And.intro (@mapI_snoc2) (@mapI_cons))))) (And.intro (And.intro (And.intro (@rngT0_map) (@enumT_map)) (And.intro (@zipT_map) (And.intro (@ixN_0) (@ixN_1)))) (And.intro (And.intro (@ixN_2) (@ofString_inj)) (And.intro (@ofString_beq) (And.intro (@restE_nil) (@restE_cons))))))) (And.intro (And.intro (And.intro (And.intro (And.intro (@look_zero) (@look_succ)) (And.intro (@isN_non) (And.intro (@isN_bl) (@isN_int)))) (And.intro (And.intro (@isN_str) (@isN_tup)) (And.intro (@isN_pr) (And.intro (@isN_lst) (@isN_lk))))) (And.intro (And.intro (And.intro (@isN_dct) (@flat_non)) (And.intro (@flat_bl) (And.intro (@flat_int) (@flat_str)))) (And.intro (And.intro (@flat_tup) (@flat_pr)) (And.intro (@flat_lst) (And.intro (@flat_lk) (@flat_dct)))))) (And.intro (And.intro (And.intro (And.intro (@seq_non) (@seq_bl)) (And.intro (@seq_int) (And.intro (@seq_str) (@seq_tup)))) (And.intro (And.intro (@seq_pr) (@seq_lst)) (And.intro (@seq_lk) (And.intro (@seq_dct) (@tyy_non))))) (And.intro (And.intro (And.intro (@tyy_bl) (@tyy_int)) (And.intro (@tyy_str) (And.intro (@tyy_tup) (@tyy_pr)))) (And.intro (And.intro (@tyy_lst) (@tyy_lk)) (And.intro (@tyy_dct) (And.intro (@ol_non) (@ol_bl)))))))) (And.intro (And.intro (And.intro (And.intro (And.intro (And.intro (@ol_int) (@ol_str)) (And.intro (@ol_tup) (And.intro (@ol_pr) (@ol_lstt)))) (And.intro (And.intro (@ol_lstf) (@ol_lk)) (And.intro (@ol_dct) (And.intro (@isLst_non) (@isLst_bl))))) (And.intro (And.intro (And.intro (@isLst_int) (@isLst_str)) (And.intro (@isLst_tup) (And.intro (@isLst_pr) (@isLst_lstt)))) (And.intro (And.intro (@isLst_lstf) (@isLst_lk)) (And.intro (@isLst_dct) (And.intro (@isTy_non_non) (@isTy_non_bool)))))) (And.intro (And.intro (And.intro (And.intro (@isTy_non_int) (@isTy_non_str)) (And.intro (@isTy_non_list) (And.intro (@isTy_non_tuple) (@isTy_non_dict)))) (And.intro (And.intro (@isTy_bool_non) (@isTy_bool_bool)) (And.intro (@isTy_bool_int) (And.intro (@isTy_bool_str) (@isTy_bool_list))))) (And.intro (And.intro (And.intro (@isTy_bool_tuple) (@isTy_bool_dict)) (And.intro (@isTy_int_non) (And.intro (@isTy_int_bool) (@isTy_int_int)))) (And.intro (And.intro (@isTy_int_str) (@isTy_int_list)) (And.intro (@isTy_int_tuple) (And.intro (@isTy_int_dict) (@isTy_str_non))))))) (And.intro (And.intro (And.intro (And.intro (And.intro (@isTy_str_bool) (@isTy_str_int)) (And.intro (@isTy_str_str) (And.intro (@isTy_str_list) (@isTy_str_tuple)))) (And.intro (And.intro (@isTy_str_dict) (@isTy_list_non)) (And.intro (@isTy_list_bool) (And.intro (@isTy_list_int) (@isTy_list_str))))) (And.intro (And.intro (And.intro (@isTy_list_list) (@isTy_list_tuple)) (And.intro (@isTy_list_dict) (And.intro (@isTy_tuple_non) (@isTy_tuple_bool)))) (And.intro (And.intro (@isTy_tuple_int) (@isTy_tuple_str)) (And.intro (@isTy_tuple_list) (And.intro (@isTy_tuple_tuple) (@isTy_tuple_dict)))))) (And.intro (And.intro (And.intro (And.intro (@isTy_dict_non) (@isTy_dict_bool)) (And.intro (@isTy_dict_int) (And.intro (@isTy_dict_str) (@isTy_dict_list)))) (And.intro (And.intro (@isTy_dict_tuple) (@isTy_dict_dict)) (And.intro (@cut_map) (And.intro (@cut_all) (@foc_nil))))) (And.intro (And.intro (And.intro (@foc_L) (@foc_T)) (And.intro (@foc_F) (And.intro (@upf_nil) (@upf_L0)))) (And.intro (And.intro (@upf_L1) (@upf_L2)) (And.intro (@upf_T0) (And.intro (@upf_T1) (@upf_T2))))))))) := And.intro (And.intro (And.intro (And.intro (And.intro (And.intro (And.intro (@atI_map) (@atI_zero)) (And.intro (@atI_one) (And.intro (@atI_two) (@atI_three)))) (And.intro (And.intro (@atI_m1_1) (@atI_m1_2)) (And.intro (@atI_m1_3) (And.intro (@atI_m1_4) (@atI_m2_2))))) (And.intro (And.intro (And.intro (@atI_m2_3) (@atI_m2_4)) (And.intro (@owl_map) (And.intro (@nobl_map) (@nfzl_map)))) (And.intro (And.intro (@owl_app) (@nobl_app)) (And.intro (@nfzl_app) (And.intro (@fzl_app) (@fzl_map)))))) (And.intro (And.intro (And.intro (And.intro (@any_no) (@all_yes)) (And.intro (@map_some_nil) (And.intro (@map_some_cons) (@map_res_nil)))) (And.intro (And.intro (@map_res_cons) (@mapI_app)) (And.intro (@mapI_snoc) (And.intro (@mapI_snoc2) (@mapI_cons))))) (And.intro (And.intro (And.intro (@rngT0_map) (@enumT_map)) (And.intro (@zipT_map) (And.intro (@ixN_0) (@ixN_1)))) (And.intro (And.intro (@ixN_2) (@ofString_inj)) (And.intro (@ofString_beq) (And.intro (@restE_nil) (@restE_cons))))))) (And.intro (And.intro (And.intro (And.intro (And.intro (@look_zero) (@look_succ)) (And.intro (@isN_non) (And.intro (@isN_bl) (@isN_int)))) (And.intro (And.intro (@isN_str) (@isN_tup)) (And.intro (@isN_pr) (And.intro (@isN_lst) (@isN_lk))))) (And.intro (And.intro (And.intro (@isN_dct) (@flat_non)) (And.intro (@flat_bl) (And.intro (@flat_int) (@flat_str)))) (And.intro (And.intro (@flat_tup) (@flat_pr)) (And.intro (@flat_lst) (And.intro (@flat_lk) (@flat_dct)))))) (And.intro (And.intro (And.intro (And.intro (@seq_non) (@seq_bl)) (And.intro (@seq_int) (And.intro (@seq_str) (@seq_tup)))) (And.intro (And.intro (@seq_pr) (@seq_lst)) (And.intro (@seq_lk) (And.intro (@seq_dct) (@tyy_non))))) (And.intro (And.intro (And.intro (@tyy_bl) (@tyy_int)) (And.intro (@tyy_str) (And.intro (@tyy_tup) (@tyy_pr)))) (And.intro (And.intro (@tyy_lst) (@tyy_lk)) (And.intro (@tyy_dct) (And.intro (@ol_non) (@ol_bl)))))))) (And.intro (And.intro (And.intro (And.intro (And.intro (And.intro (@ol_int) (@ol_str)) (And.intro (@ol_tup) (And.intro (@ol_pr) (@ol_lstt)))) (And.intro (And.intro (@ol_lstf) (@ol_lk)) (And.intro (@ol_dct) (And.intro (@isLst_non) (@isLst_bl))))) (And.intro (And.intro (And.intro (@isLst_int) (@isLst_str)) (And.intro (@isLst_tup) (And.intro (@isLst_pr) (@isLst_lstt)))) (And.intro (And.intro (@isLst_lstf) (@isLst_lk)) (And.intro (@isLst_dct) (And.intro (@isTy_non_non) (@isTy_non_bool)))))) (And.intro (And.intro (And.intro (And.intro (@isTy_non_int) (@isTy_non_str)) (And.intro (@isTy_non_list) (And.intro (@isTy_non_tuple) (@isTy_non_dict)))) (And.intro (And.intro (@isTy_bool_non) (@isTy_bool_bool)) (And.intro (@isTy_bool_int) (And.intro (@isTy_bool_str) (@isTy_bool_list))))) (And.intro (And.intro (And.intro (@isTy_bool_tuple) (@isTy_bool_dict)) (And.intro (@isTy_int_non) (And.intro (@isTy_int_bool) (@isTy_int_int)))) (And.intro (And.intro (@isTy_int_str) (@isTy_int_list)) (And.intro (@isTy_int_tuple) (And.intro (@isTy_int_dict) (@isTy_str_non))))))) (And.intro (And.intro (And.intro (And.intro (And.intro (@isTy_str_bool) (@isTy_str_int)) (And.intro (@isTy_str_str) (And.intro (@isTy_str_list) (@isTy_str_tuple)))) (And.intro (And.intro (@isTy_str_dict) (@isTy_list_non)) (And.intro (@isTy_list_bool) (And.intro (@isTy_list_int) (@isTy_list_str))))) (And.intro (And.intro (And.intro (@isTy_list_list) (@isTy_list_tuple)) (And.intro (@isTy_list_dict) (And.intro (@isTy_tuple_non) (@isTy_tuple_bool)))) (And.intro (And.intro (@isTy_tuple_int) (@isTy_tuple_str)) (And.intro (@isTy_tuple_list) (And.intro (@isTy_tuple_tuple) (@isTy_tuple_dict)))))) (And.intro (And.intro (And.intro (And.intro (@isTy_dict_non) (@isTy_dict_bool)) (And.intro (@isTy_dict_int) (And.intro (@isTy_dict_str) (@isTy_dict_list)))) (And.intro (And.intro (@isTy_dict_tuple) (@isTy_dict_dict)) (And.intro (@cut_map) (And.intro (@cut_all) (@foc_nil))))) (And.intro (And.intro (And.intro (@foc_L) (@foc_T)) (And.intro (@foc_F) (And.intro (@upf_nil) (@upf_L0)))) (And.intro (And.intro (@upf_L1) (@upf_L2)) (And.intro (@upf_T0) (And.intro (@upf_T1) (@upf_T2))))))))
theorem sC : type_of% (And.intro (And.intro (And.intro (And.intro (And.intro (@List.all_cons.{0}) (And.intro (@List.all_nil.{0}) (@List.any_cons.{0}))) (And.intro (@List.any_nil.{0}) (And.intro (@Bool.not_false) (@Bool.not_true)))) (And.intro (And.intro (@Bool.or_false) (And.intro (@Bool.false_or) (@Bool.and_true))) (And.intro (@Bool.true_and) (And.intro (@Bool.or_true) (@Bool.true_or))))) (And.intro (And.intro (And.intro (@Bool.and_false) (And.intro (@Bool.false_and) (@Bool.not_not))) (And.intro (@Bool.not_eq_true') (And.intro (@decide_eq_false_iff_not) (@Bool.and_eq_true)))) (And.intro (And.intro (@Bool.or_eq_true) (And.intro (@true_or) (@or_true))) (And.intro (@false_or) (And.intro (@or_false) (@true_and)))))) (And.intro (And.intro (And.intro (And.intro (@and_true) (And.intro (@false_and) (@and_false))) (And.intro (@Bool.false_eq_true) (And.intro (@Option.some.injEq.{0}) (@Option.isSome_some.{0})))) (And.intro (And.intro (@List.cons_append.{0}) (And.intro (@List.nil_append.{0}) (@List.length_cons.{0}))) (And.intro (@List.length_nil.{0}) (And.intro (@List.length_map.{0,0}) (@List.length_append.{0}))))) (And.intro (And.intro (And.intro (@List.length_range) (And.intro (@List.flatten_cons.{0}) (@List.flatten_nil.{0}))) (And.intro (@List.append_nil.{0}) (And.intro (@List.set_cons_zero.{0}) (@List.set_cons_succ.{0})))) (And.intro (And.intro (@decide_eq_true_eq) (And.intro (@decide_true) (@decide_false))) (And.intro (And.intro (@Nat.zero_add) (@Option.getD_some.{0})) (And.intro (@Option.bind_some.{0,0}) (@Option.map_some.{0,0}))))))) := And.intro (And.intro (And.intro (And.intro (And.intro (@List.all_cons.{0}) (And.intro (@List.all_nil.{0}) (@List.any_cons.{0}))) (And.intro (@List.any_nil.{0}) (And.intro (@Bool.not_false) (@Bool.not_true)))) (And.intro (And.intro (@Bool.or_false) (And.intro (@Bool.false_or) (@Bool.and_true))) (And.intro (@Bool.true_and) (And.intro (@Bool.or_true) (@Bool.true_or))))) (And.intro (And.intro (And.intro (@Bool.and_false) (And.intro (@Bool.false_and) (@Bool.not_not))) (And.intro (@Bool.not_eq_true') (And.intro (@decide_eq_false_iff_not) (@Bool.and_eq_true)))) (And.intro (And.intro (@Bool.or_eq_true) (And.intro (@true_or) (@or_true))) (And.intro (@false_or) (And.intro (@or_false) (@true_and)))))) (And.intro (And.intro (And.intro (And.intro (@and_true) (And.intro (@false_and) (@and_false))) (And.intro (@Bool.false_eq_true) (And.intro (@Option.some.injEq.{0}) (@Option.isSome_some.{0})))) (And.intro (And.intro (@List.cons_append.{0}) (And.intro (@List.nil_append.{0}) (@List.length_cons.{0}))) (And.intro (@List.length_nil.{0}) (And.intro (@List.length_map.{0,0}) (@List.length_append.{0}))))) (And.intro (And.intro (And.intro (@List.length_range) (And.intro (@List.flatten_cons.{0}) (@List.flatten_nil.{0}))) (And.intro (@List.append_nil.{0}) (And.intro (@List.set_cons_zero.{0}) (@List.set_cons_succ.{0})))) (And.intro (And.intro (@decide_eq_true_eq) (And.intro (@decide_true) (@decide_false))) (And.intro (And.intro (@Nat.zero_add) (@Option.getD_some.{0})) (And.intro (@Option.bind_some.{0,0}) (@Option.map_some.{0,0}))))))
end QL
namespace QL
open PySem L2 RZ

structure Mth (ca : Ca) (P : Program) (w : World) (K : PySem.W.Frag) (mg : Str → Option Value) (base : Heap) (lvl : Nat) (c m : Str) (ps : List Str) (g : Fn) : Prop where
  ex : ∃ f fd, Cls K (ca.cl c) ∧ Meth K (ca.cl c) m f ∧ FnG P w K mg base lvl f fd ps (spOf K ca (some 0) g) ∧ Binds K fd ps []
structure Mkr (ca : Ca) (P : Program) (w : World) (K : PySem.W.Frag) (mg : Str → Option Value) (base : Heap) (lvl : Nat) (c : Str) (ps : List Str) (g : Fn) : Prop where
  ex : ∃ f fd, Mk K (ca.cl c) f ∧ FnG P w K mg base lvl f fd ps (spOf K ca (some 0) g) ∧ Binds K fd ps []
  at_ : mg c = some (.ref (ca.cl c))
section
variable {ca : Ca} {P : Program} {w : World} {K : PySem.W.Frag} {mg : Str → Option Value} {base : Heap}
theorem fn_ok {m qual : Str} {fa : Addr} {params : Arguments} {st : List Stmt} {sc : Scope} {fd : FuncData} {N ps : List Str} {k a n : Nat} {io : Option Nat} {body : SM} (F : FunD K m qual params st sc [] [] fa fd) (S : FnScope N ps sc) (hm : ps.length = a) (hn : N.length = n)
    (hb : ∀ (kV doc pm : Value) (an : Option Addr) (cdv ct : Value) (us : List Value), us.length = ps.length → bindArgs (PySem.W.fnOf m qual params st sc .none kV doc pm an cdv ct) ⟨us, []⟩ = pure (ps.zip us))
    (hbody : ∀ (cdv : Value) (A : Around) (outer : List Env) (s : Shared) (H : Hp) (E : XK), RoomG k (A.deeper (PyProof.Rows.envOfC qual sc s.heap.objs.size fa cdv)) → DSs ca (cxOf CX0 P w K mg base N qual sc fa cdv A outer s H E).nox (ioPins io) st body) :
    FnG P w K mg base (k + 1) fa fd ps (spOf K ca io (fnN a n io body)) ∧ Binds K fd ps [] :=
  ⟨FnG.by_body F S (spOf_len fun ts z e => by rw [hm]; exact (fnN_of e).1) (fun cdv A outer s H vs Q E hr h => ⟨_, (hbody cdv A outer s H E hr).nox, body_ok hn (spOf_body h)⟩), F.bindsN hb⟩
end
section
variable {K : PySem.W.Frag} {ca : Ca} {F F' F1 H H' H1 : Hp} {O O' : Addr → Prop} {σ : L2.St} {env : En} {fp : Fp} {t : T} {v : V} {fv : List Addr} {ts : List T} {vs : List V} {md : List Nat}
theorem Repf.lookup_none {x : Str} : ∀ {fs : List (Str × T)} {gs : List (Str × V)} {g : List Addr}, Repf K ca F H fs gs g → fs.lookup x = none → gs.lookup x = none
  | [], _, _, h, _ => by simp only [Repf] at h; rw [h.1]; rfl
  | (k, t) :: fs, _, _, h, e => by
    simp only [Repf] at h
    obtain ⟨v, us, f, g, rfl, r1, r2, rfl⟩ := h
    simp only [List.lookup_cons] at e ⊢
    cases hk : x == k with
    | true => rw [hk] at e; cases e
    | false => rw [hk] at e; exact Repf.lookup_none r2 e
/-- an instance as the first argument -/
def bOb (i : Nat) (c m : Str) : BM := fun env => match env[i]? with
  | some (some (.obj d fs)) => if d = c ∧ fs.lookup m = none then .ok (.io i, env) else stk
  | _ => stk
theorem tb_ob {i : Nat} {c m : Str} {Q : VK} (h : TBof K ca md (bOb i c m) σ H Q) : tVar i σ H fun x H1 => (∃ a dx gs, x = .ref a ∧ H1 a = some (.ins (ca.cl c) dx gs) ∧ gs.lookup m = none) ∧ Q x H1 := by
  obtain ⟨F, env, fp, b, env', s, e, k⟩ := h
  unfold bOb at e
  split at e
  case h_2 => cases e
  case h_1 d fs et =>
    split at e
    case isFalse => cases e
    case isTrue hc =>
      cases e
      obtain ⟨v, e1, r⟩ := s.slot i _ et
      have r0 := r
      simp only [Rep] at r0
      obtain ⟨a, dx, gs, f, rfl, h1, h2, h3, h4⟩ := r0
      refine ⟨_, e1, ⟨a, dx, gs, rfl, by rw [h1, hc.1], h3.lookup_none hc.2⟩, k _ H F fp [] (Go.refl s.sub fun b z => z.elim id (fun z => nomatch z)) Keep.refl s ?_ List.nodup_nil (fun _ z => nomatch z)⟩
      simp only [Ops]
      exact ⟨_, [], [], [], rfl, ⟨rfl, e1⟩, ⟨rfl, rfl⟩, rfl⟩
/-- a new instance: its arguments own nothing -/
def unB : Bop → Bool
  | .tmp t => !t.ow
  | .br t _ => !t.ow
  | .io _ => false
def eMake (c : Str) (g : Fn) (f : AM) : EM := fun env => do
  let (bs, env1) ← f env
  let _ ← ck (bs.all unB)
  let (t, out) ← g (.obj c [] :: bs.map Bop.res)
  match t, out with
  | .non, some u => .ok (u, env1)
  | _, _ => stk
theorem ops_un : ∀ {bs : List Bop} {vs : List V} {ft : List Addr}, Ops K ca md F H σ fp bs vs ft → bs.all unB = true → ft = [] ∧ vs.length = bs.length ∧ ∀ (p : Nat) (u : T), (bs.map Bop.res)[p]? = some u → ∃ w, vs[p]? = some w ∧ Rep K ca F H u w []
  | [], _, _, h, _ => by
    simp only [Ops] at h
    refine ⟨h.2, by rw [h.1]; rfl, fun p u e => by simp at e⟩
  | b :: bs, _, _, h, c => by
    simp only [Ops] at h
    obtain ⟨v, us, f, g, rfl, r, rs, rfl⟩ := h
    rw [List.all_cons, Bool.and_eq_true] at c
    obtain ⟨h1, h2, h3⟩ := ops_un rs c.2
    subst h1
    have hb : f = [] ∧ Rep K ca F H (Bop.res b) v [] := by
      cases b with
      | io i => exact absurd c.1 (by simp [unB])
      | tmp t =>
        have hw : t.ow = false := by simpa [unB] using c.1
        have r : Rep K ca F H t v f := r
        have := Rep.pure_fp t hw r
        subst this
        exact ⟨rfl, r⟩
      | br t i =>
        have hw : t.ow = false := by simpa [unB] using c.1
        obtain ⟨_, r2, fb, r3, _⟩ := r
        subst r2
        have := Rep.pure_fp t hw r3
        subst this
        refine ⟨rfl, ?_⟩
        have : Bop.res (.br t i) = t := by unfold Bop.res; simp [hw]
        rw [this]
        exact r3
    obtain ⟨rfl, hr⟩ := hb
    refine ⟨rfl, by simp [h2], fun p u e => ?_⟩
    cases p with
    | zero => simp only [List.map_cons, List.getElem?_cons_zero, Option.some.injEq] at e; subst e; exact ⟨v, rfl, hr⟩
    | succ p => simp only [List.map_cons, List.getElem?_cons_succ] at e; exact h3 p u e
theorem te_make {c : Str} {g : Fn} {f : AM} {Q : VK} {E : XK} (h : TEof K ca md (eMake c g f) σ H Q) : tMake (ca.cl c) (spOf K ca (some 0) g) [] E (TAof K ca md f) σ H Q := by
  obtain ⟨F, env, fp, u, env', s, e, k⟩ := h
  obtain ⟨⟨bs, env1⟩, e1, e⟩ := bind_ok e
  obtain ⟨_, c1, e⟩ := bind_ok e
  have c1 := ck_ok c1
  obtain ⟨⟨t, out⟩, eg, e⟩ := bind_ok e
  refine ⟨F, env, fp, bs, env1, s, e1, fun vs H1 F1 fp1 ft g1 k1 s1 o1 n1 d1 => fun x dx hx hdx hne => ?_⟩
  obtain ⟨rfl, u0, rfl, rfl, rfl⟩ : t = .non ∧ ∃ u0, out = some u0 ∧ u0 = u ∧ env1 = env' := by
    cases t <;> cases out <;> first | (cases e; exact ⟨rfl, _, rfl, rfl, rfl⟩) | cases e
  obtain ⟨rfl, hl, hr⟩ := ops_un o1 c1
  rw [List.append_nil]
  have kp : ∀ a o, H1 a = some o → (upd (upd H1 dx (.own x)) x (.ins (ca.cl c) dx [])) a = some o := fun a o e => by
    rw [upd_ne (fun z => by subst z; rw [hx] at e; cases e), upd_ne (fun z => by subst z; rw [hdx] at e; cases e)]
    exact e
  have F1x : F1 x = none := by
    cases w : F1 x with
    | none => rfl
    | some o => rw [s1.sub x o w] at hx; cases hx
  have hin : ∀ (j : Nat) (a : Addr), a ∈ fpI (some 0) [x] j → j = 0 ∧ a = x := fun j a ha => by
    unfold fpI at ha
    split at ha
    next z => exact ⟨(Option.some.inj z).symm, List.mem_singleton.mp ha⟩
    next => cases ha
  refine ⟨F1, .obj c [] :: bs.map Bop.res, [x], .non, some u0, ⟨fun a o e => kp a o (s1.sub a o e), fun p t e => ?_, fun a ⟨j, ha⟩ => ?_, fun i j a hi hj => (hin i a hi).1.trans (hin j a hj).1.symm, fun i => ?_, by simp [hl]⟩, eg, fun v H3 F3 fi' fv g2 rv ndv ndi offv hout _ => ?_⟩
  · cases p with
    | zero =>
      simp only [List.map_cons, List.getElem?_cons_zero, Option.some.injEq] at e
      subst e
      refine ⟨.ref x, rfl, ?_⟩
      simp only [Rep]
      exact ⟨x, dx, [], [], rfl, upd_same, F1x, by simp only [Repf]; trivial, rfl⟩
    | succ p =>
      simp only [List.map_cons, List.getElem?_cons_succ] at e
      rw [List.getElem?_map] at e
      cases w : (bs.map Bop.res)[p]? with
      | none => rw [w] at e; cases e
      | some t' =>
        rw [w] at e
        cases e
        obtain ⟨w', ew, rw'⟩ := hr p _ w
        refine ⟨w', by rw [List.map_cons, List.getElem?_cons_succ, List.getElem?_map, ew]; rfl, ?_⟩
        have : fpI (some 0) [x] (p + 1) = [] := if_neg (by simp)
        rw [this]
        exact Rep.go (Sub.refl F1) _ rw' (fun _ z => absurd z (by simp)) (fun _ z => absurd z (by simp))
  · obtain ⟨_, rfl⟩ := hin j a ha
    exact ⟨by rw [upd_same]; simp, F1x⟩
  · unfold fpI
    split
    · simp
    · simp
  · have rv0 := rv
    simp only [Rep] at rv0
    obtain ⟨rfl, rfl⟩ := rv0
    refine ⟨rfl, ?_⟩
    obtain ⟨t', w, q1, q2, q3⟩ := hout 0 rfl
    cases q1
    simp only [List.getElem?_cons_zero, Option.some.injEq] at q2
    subst q2
    have gm : Go F1 H1 (fun _ => False) F1 (upd (upd H1 dx (.own x)) x (.ins (ca.cl c) dx [])) (· ∈ [x]) := ⟨Sub.refl F1, fun a o e => kp a o (s1.sub a o e), fun b o e _ => kp b o e, fun b e => .inl e, fun b z => .inr (by rw [List.mem_singleton.mp z]; exact hx)⟩
    have ga : Go F1 H1 (fun _ => False) F3 H3 (fun a => a ∈ fi') := gm.trans g2 (fun _ z => z) fun b z => .inl (.inl z)
    have s3 := s1.of_go ga fun _ _ z => z
    refine k (.ref x) H3 F3 fp1 fi' ((g1.trans ga (fun _ z => z.elim) fun b z => ?_)) k1 s3 ⟨q3, ndi, fun a ha z => ?_⟩
    · rcases z with z | z
      · exact .inr (.inl z)
      · exact .inl z
    · rcases ga.fresh a ha with w | w
      · exact w
      · exact (s1.alive a z).1 w
end
section
variable {ca : Ca} {X : Cx} {md : List Nat} {e : Expr} {es : List Expr} {p pos apos : Pos} {x c m : Str} {af : AM} {lvl k : Nat} {ps : List Str} {g : Fn}
theorem d_meth {pl : Sem Bool} (D : Mth ca X.prog X.w X.K X.mg X.base lvl c m ps g) (hr : RoomG k X.A) (md0 : List Nat) (i : Nat) (ha : DA ca X md0 (e :: es) af) (hm : ∀ j, j ∈ md0 → j ∈ md := by decide) (hi : i ∈ md := by decide) (hk : lvl ≤ k := by first | decide | omega)
    (hN : X.N[i]? = some x := by rfl) (hv : Vis X.env.scope x := by first | exact Or.inl rfl | exact Or.inr (Or.inl rfl) | exact Or.inr (Or.inr rfl)) (hd : (x == ("__debug__" : Str)) = false := by decide) (hcd : (x == ("__classdict__" : Str)) = false := by decide)
    (hst : starEach (e :: es) X.env = (false, eval e X.env) :: starEach es X.env := by rfl) (hpl : (backTo pos (starEach es X.env)).any (·.1) = false := by rfl)
    (ht : eval (.Call (.Attribute (.Name x p) m apos) (e :: es) [] pos) X.env = (do
      let ov ← eval (.Name x p) X.env
      standAt apos.atName
      let (f, first) ← holding [ov] (getMethod ov m pl)
      callWith pos f first (backTo pos (starEach (e :: es) X.env)) (backToKw pos (keywordEach [] X.env))) := by rfl) :
    DE ca X md (.Call (.Attribute (.Name x p) m apos) (e :: es) [] pos) (eCall (some 0) (some i) g (aCons (bOb i c m) af)) := by
  obtain ⟨f, fd, hC, hM, F, B⟩ := D.ex
  refine PEm (g_meth (pl := pl) (pv i hN hv hd hcd) hC hM (F.ans (hr.mono hk) B) ha hst hpl ht) fun σ H Q h => ?_
  have h1 := te_call (E := E0) hm (sl := some i) (fun j z => by cases z; exact hi) h
  have h2 := ta_cons h1
  obtain ⟨v, hv, ⟨a, dx, gs, rfl, e1, e2⟩, q⟩ := tb_ob h2
  exact ⟨_, hv, a, dx, gs, rfl, e1, e2, q⟩
theorem d_meth0 {pl : Sem Bool} (D : Mth ca X.prog X.w X.K X.mg X.base lvl c m ps g) (hr : RoomG k X.A) (i : Nat) (hi : i ∈ md := by decide) (hk : lvl ≤ k := by first | decide | omega)
    (hN : X.N[i]? = some x := by rfl) (hv : Vis X.env.scope x := by first | exact Or.inl rfl | exact Or.inr (Or.inl rfl) | exact Or.inr (Or.inr rfl)) (hd : (x == ("__debug__" : Str)) = false := by decide) (hcd : (x == ("__classdict__" : Str)) = false := by decide)
    (ht : eval (.Call (.Attribute (.Name x p) m apos) [] [] pos) X.env = (do
      let ov ← eval (.Name x p) X.env
      standAt apos.atName
      let (f, first) ← holding [ov] (getMethod ov m pl)
      callWith pos f first (backTo pos (starEach [] X.env)) (backToKw pos (keywordEach [] X.env))) := by rfl) :
    DE ca X md (.Call (.Attribute (.Name x p) m apos) [] [] pos) (eCall (some 0) (some i) g (aCons (bOb i c m) aNil)) := by
  obtain ⟨f, fd, hC, hM, F, B⟩ := D.ex
  refine PEm (g_meth0 (pl := pl) (pv i hN hv hd hcd) hC hM (F.ans (hr.mono hk) B) ht) fun σ H Q h => ?_
  have h1 := te_call (md0 := []) (E := E0) (fun _ z => absurd z (by simp)) (sl := some i) (fun j z => by cases z; exact hi) h
  have h2 := ta_cons h1
  obtain ⟨v, hv, ⟨a, dx, gs, rfl, e1, e2⟩, q⟩ := tb_ob h2
  exact ⟨_, hv, a, dx, gs, rfl, e1, e2, ta_nil q⟩
theorem d_make0 (D : Mkr ca X.prog X.w X.K X.mg X.base lvl c ps g) (hr : RoomG k X.A) (hk : lvl + 1 ≤ k := by first | decide | omega) (hg : Gl X c := by rfl) (hdb : (c == ("__debug__" : Str)) = false := by decide) : DE ca X md (.Call (.Name c p) [] [] pos) (eMake c g aNil) := by
  obtain ⟨f, fd, hM, F, B⟩ := D.ex
  exact PEm (g_make0 (F.ansM hM (hr.mono hk) B) hM.kp hg D.at_ hdb) fun σ H Q h => ta_nil (te_make h)
end
section
variable {K : PySem.W.Frag} {ca : Ca} {F F' F1 H H' H1 : Hp} {O O' : Addr → Prop} {σ : L2.St} {env : En} {fp : Fp} {t : T} {v : V} {fv : List Addr} {ts : List T} {vs : List V} {md : List Nat}
def putFT (x : Str) (t : T) : List (Str × T) → List (Str × T)
  | [] => [(x, t)]
  | (k, u) :: r => if k = x then (k, t) :: r else (k, u) :: putFT x t r
theorem Repf.put {x : Str} : ∀ {fs : List (Str × T)} {gs : List (Str × V)} {g : List Addr}, Repf K ca F H fs gs g → g.Nodup → Rep K ca F H t v fv → fv.Nodup → (∀ a ∈ fv, a ∉ g) →
    ∃ g', Repf K ca F H (putFT x t fs) (putF x v gs) g' ∧ g'.Nodup ∧ ∀ a, a ∈ g' → a ∈ g ∨ a ∈ fv
  | [], _, _, h, nd, r, nv, d => by
    simp only [Repf] at h
    obtain ⟨rfl, rfl⟩ := h
    refine ⟨fv, ?_, nv, fun a z => .inr z⟩
    simp only [putFT, putF, Repf]
    exact ⟨v, [], fv, [], rfl, r, ⟨rfl, rfl⟩, by simp⟩
  | (k, u) :: fs, _, _, h, nd, r, nv, d => by
    simp only [Repf] at h
    obtain ⟨w, us, f, g, rfl, r1, r2, rfl⟩ := h
    have hn := List.nodup_append.mp nd
    by_cases hk : k = x
    · refine ⟨fv ++ g, ?_, List.nodup_append.mpr ⟨nv, hn.2.1, fun a ha b hb e => by subst e; exact d a ha (List.mem_append_right _ hb)⟩, fun a z => ?_⟩
      · simp only [putFT, putF, if_pos hk, Repf]
        exact ⟨v, us, fv, g, rfl, r, r2, rfl⟩
      · rcases List.mem_append.mp z with z | z
        · exact .inr z
        · exact .inl (List.mem_append_right _ z)
    · obtain ⟨g', h1, h2, h3⟩ := Repf.put r2 hn.2.1 r nv fun a ha z => d a ha (List.mem_append_right _ z)
      refine ⟨f ++ g', ?_, List.nodup_append.mpr ⟨hn.1, h2, fun a ha b hb e => ?_⟩, fun a z => ?_⟩
      · simp only [putFT, putF, if_neg hk, Repf]
        exact ⟨w, _, f, g', rfl, r1, h1, rfl⟩
      · subst e
        rcases h3 a hb with q | q
        · exact hn.2.2 a ha a q rfl
        · exact d a q (List.mem_append_left _ ha)
      · rcases List.mem_append.mp z with z | z
        · exact .inl (List.mem_append_left _ z)
        · exact (h3 a z).imp (List.mem_append_right _) id
theorem Repf.len : ∀ {fs : List (Str × T)} {gs : List (Str × V)} {g : List Addr}, Repf K ca F H fs gs g → gs.length = fs.length
  | [], _, _, h => by simp only [Repf] at h; rw [h.1]; rfl
  | (k, t) :: fs, _, _, h => by
    simp only [Repf] at h
    obtain ⟨v, us, f, g, rfl, r1, r2, rfl⟩ := h
    simp [Repf.len r2]
/-- x.y = e -/
def sFldS (i : Nat) (c x : Str) (f : EM) : SM := fun env => do
  let (t, env1) ← f env
  match T.at env1 i with
  | some (.obj d fs) => if d = c ∧ fs.length < 1000 then .ok (.nx, env1.set i (some (.obj c (putFT x t fs)))) else stk
  | _ => stk
theorem ts_fld {pn : List Nat} {i : Nat} {c x : Str} {f : EM} {D : Ends} (hC : Cls K (ca.cl c)) (hno : NoAttr K (ca.cl c) x) (h : TSof K ca pn (sFldS i c x f) D σ H) : sFld K (tVar i) (TEof K ca md f) x D σ H := by
  obtain ⟨F, env, fp, fl, env', s, e, k⟩ := h
  obtain ⟨⟨t, env1⟩, e1, e⟩ := bind_ok e
  refine ⟨F, env, fp, t, env1, s, e1, fun v H1 F1 fp1 fv g1 k1 s1 m1 => ?_⟩
  cases h1 : T.at env1 i with
  | none => simp only [h1] at e; cases e
  | some o =>
    simp only [h1] at e
    cases o with
    | obj d fs =>
      dsimp only at e
      split at e
      case isFalse => cases e
      case isTrue hc =>
        cases e
        obtain ⟨rfl, hl⟩ := hc
        obtain ⟨w, hw, r⟩ := s1.slot i _ (T.at_some h1)
        have r0 := r
        simp only [Rep] at r0
        obtain ⟨a, dx, gs, g, rfl, q1, q2, q3, q4⟩ := r0
        have nd := s1.nd i
        rw [q4] at nd
        have hnd := List.nodup_cons.mp nd
        have offv : ∀ b ∈ fv, b ∉ fp1 i := fun b hb z => m1.off b hb ⟨i, z⟩
        obtain ⟨g', p1, p2, p3⟩ := Repf.put (x := x) q3 hnd.2 m1.rep m1.nd fun b hb z => offv b hb (by rw [q4]; exact List.mem_cons_of_mem _ z)
        refine ⟨.ref a, hw, a, ca.cl d, dx, gs, rfl, q1, hC, hno, by rw [q3.len]; exact hl, ?_⟩
        have ga' : a ∉ g' := fun z => by
          rcases p3 a z with q | q
          · exact hnd.1 q
          · exact offv a q (by rw [q4]; exact List.mem_cons_self)
        have ga : Go F1 H1 (fun b => b ∈ fp1 i ∨ b ∈ fv) F1 (upd H1 a (.ins (ca.cl d) dx (putF x v gs))) (fun b => b ∈ a :: g' ∨ b ∈ ([] : List Addr)) := Go.write s1.sub (.inl (by rw [q4]; exact List.mem_cons_self)) q2 fun b z => by
          rcases z with z | z
          · rcases List.mem_cons.mp z with rfl | z
            · exact .inl (.inl (by rw [q4]; exact List.mem_cons_self))
            · rcases p3 b z with q | q
              · exact .inl (.inl (by rw [q4]; exact List.mem_cons_of_mem _ q))
              · exact .inl (.inr q)
          · cases z
        have rN : Rep K ca F1 (upd H1 a (.ins (ca.cl d) dx (putF x v gs))) (.obj d (putFT x t fs)) (.ref a) (a :: g') := by
          simp only [Rep]
          refine ⟨a, dx, _, g', rfl, upd_same, q2, ?_, rfl⟩
          refine Repf.go (Sub.refl F1) _ p1 (fun b hb => upd_ne (fun z => by subst z; exact ga' hb)) fun b hb => ?_
          rcases p3 b hb with q | q
          · exact (s1.alive b ⟨i, by rw [q4]; exact List.mem_cons_of_mem _ q⟩).2
          · exact (Rep.alive t m1.rep b q).2
        obtain ⟨sP, _⟩ := s1.replace hw ga m1.off rN (List.nodup_cons.mpr ⟨ga', p2⟩) (fun _ z => absurd z (by simp))
        refine k σ _ F1 (fpSet fp1 i (a :: g')) ((g1.full k1).trans ga (fun b z => z.elim (fun z => .inl ⟨i, z⟩) .inr) fun b z => ?_) sP Pin.refl
        rcases ow_fpSet z with z | z
        · exact .inr (.inl z)
        · exact .inl (.inl z)
    | _ => cases e
def eMvF (i : Nat) (p : List Stp) : EM := fun env => match (T.at env i).bind (T.foc p) with
  | some u => .ok (u, env.set i none)
  | none => stk
end
section
variable {ca : Ca} {X : Cx} {md pn : List Nat} {e value : Expr} {p pos pos' : Pos} {x y c : Str} {f : EM} {i : Nat} {pt : List Stp}
theorem s_fld {cl : Str} {fs : List Str} (i : Nat) (hc : ClsF ca X.K cl fs) (hv : DE ca X md value f) (hf : y ∈ fs := by decide) (hN : X.N[i]? = some x := by rfl) (hvs : Vis X.env.scope x := by first | exact Or.inl rfl | exact Or.inr (Or.inl rfl) | exact Or.inr (Or.inr rfl)) (hd : (x == ("__debug__" : Str)) = false := by decide) (hcd : (x == ("__classdict__" : Str)) = false := by decide)
    (hs : swapsWith value (some (.Attribute (.Name x p) y pos')) pos.line X.env = pure false := by rfl) : DS ca X pn (.Assign [.Attribute (.Name x p) y pos'] value pos) (sFldS i cl y f) :=
  PSm (ps_fld (pv i hN hvs hd hcd) hv hs) fun _ _ _ h => ts_fld hc.cls (hc.no y hf) h
end
mutual
def T.nh : T → Bool
  | .tup xs => T.nhl xs
  | .pr xs => T.nhl xs
  | .lk xs => T.nhl xs
  | .lst _ xs => T.nhl xs
  | .dct _ kvs => T.nhk kvs
  | .obj _ fs => T.nhf fs
  | .hole => false
  | _ => true
def T.nhl : List T → Bool
  | [] => true
  | t :: ts => T.nh t && T.nhl ts
def T.nhk : List (Key × T) → Bool
  | [] => true
  | (_, t) :: ts => T.nh t && T.nhk ts
def T.nhf : List (Str × T) → Bool
  | [] => true
  | (_, t) :: ts => T.nh t && T.nhf ts
end
section
variable {K : PySem.W.Frag} {c1 c2 : Ca} {F H : Hp}
mutual
theorem Rep.ca (hc : c1.cl = c2.cl) : ∀ (t : T) {v : V} {fp : List Addr}, t.nh = true → Rep K c1 F H t v fp → Rep K c2 F H t v fp
  | .non, _, _, _, h => by simpa only [Rep] using h
  | .bl _, _, _, _, h => by simpa only [Rep] using h
  | .int _, _, _, _, h => by simpa only [Rep] using h
  | .str _, _, _, _, h => by simpa only [Rep] using h
  | .hole, _, _, n, _ => by simp [T.nh] at n
  | .tup xs, _, _, n, h => by
    simp only [Rep, T.nh] at h n ⊢
    obtain ⟨a, vs, e1, s, r⟩ := h
    exact ⟨a, vs, e1, s, Reps.ca hc xs n r⟩
  | .pr xs, _, _, n, h => by
    simp only [Rep, T.nh] at h n ⊢
    obtain ⟨a, vs, e1, s, r⟩ := h
    exact ⟨a, vs, e1, s, Reps.ca hc xs n r⟩
  | .lk xs, _, _, n, h => by
    simp only [Rep, T.nh] at h n ⊢
    obtain ⟨a, vs, e1, s, r, e2⟩ := h
    exact ⟨a, vs, e1, s, Reps.ca hc xs n r, e2⟩
  | .lst false xs, _, _, n, h => by
    simp only [Rep, T.nh] at h n ⊢
    obtain ⟨a, vs, e1, s, r, e2⟩ := h
    exact ⟨a, vs, e1, s, Reps.ca hc xs n r, e2⟩
  | .lst true xs, _, _, n, h => by
    simp only [Rep, T.nh] at h n ⊢
    obtain ⟨a, vs, f, e1, s, q, r, e2⟩ := h
    exact ⟨a, vs, f, e1, s, q, Reps.ca hc xs n r, e2⟩
  | .dct false kvs, _, _, n, h => by
    simp only [Rep, T.nh] at h n ⊢
    obtain ⟨a, ks, e1, s, r, e2⟩ := h
    exact ⟨a, ks, e1, s, Repk.ca hc kvs n r, e2⟩
  | .dct true kvs, _, _, n, h => by
    simp only [Rep, T.nh] at h n ⊢
    obtain ⟨a, ks, f, e1, s, q, r, e2⟩ := h
    exact ⟨a, ks, f, e1, s, q, Repk.ca hc kvs n r, e2⟩
  | .obj c fs, _, _, n, h => by
    simp only [Rep, T.nh] at h n ⊢
    obtain ⟨a, dx, gs, f, e1, s, q, r, e2⟩ := h
    exact ⟨a, dx, gs, f, e1, by rw [← hc]; exact s, q, Repf.ca hc fs n r, e2⟩
theorem Reps.ca (hc : c1.cl = c2.cl) : ∀ (ts : List T) {vs : List V} {fp : List Addr}, T.nhl ts = true → Reps K c1 F H ts vs fp → Reps K c2 F H ts vs fp
  | [], _, _, _, h => by simpa only [Reps] using h
  | t :: ts, _, _, n, h => by
    simp only [Reps, T.nhl, Bool.and_eq_true] at h n ⊢
    obtain ⟨v, us, f, g, e1, r, rs, e2⟩ := h
    exact ⟨v, us, f, g, e1, Rep.ca hc t n.1 r, Reps.ca hc ts n.2 rs, e2⟩
theorem Repk.ca (hc : c1.cl = c2.cl) : ∀ (ts : List (Key × T)) {vs : List (Key × V)} {fp : List Addr}, T.nhk ts = true → Repk K c1 F H ts vs fp → Repk K c2 F H ts vs fp
  | [], _, _, _, h => by simpa only [Repk] using h
  | (k, t) :: ts, _, _, n, h => by
    simp only [Repk, T.nhk, Bool.and_eq_true] at h n ⊢
    obtain ⟨v, us, f, g, e1, r, rs, e2⟩ := h
    exact ⟨v, us, f, g, e1, Rep.ca hc t n.1 r, Repk.ca hc ts n.2 rs, e2⟩
theorem Repf.ca (hc : c1.cl = c2.cl) : ∀ (ts : List (Str × T)) {vs : List (Str × V)} {fp : List Addr}, T.nhf ts = true → Repf K c1 F H ts vs fp → Repf K c2 F H ts vs fp
  | [], _, _, _, h => by simpa only [Repf] using h
  | (k, t) :: ts, _, _, n, h => by
    simp only [Repf, T.nhf, Bool.and_eq_true] at h n ⊢
    obtain ⟨v, us, f, g, e1, r, rs, e2⟩ := h
    exact ⟨v, us, f, g, e1, Rep.ca hc t n.1 r, Repf.ca hc ts n.2 rs, e2⟩
end
end
def nhE (env : En) : Bool := env.all fun o => match o with
  | some t => t.nh
  | none => true
theorem nhE_at {env : En} {i : Nat} {t : T} (h : nhE env = true) (e : env[i]? = some (some t)) : t.nh = true := List.all_eq_true.mp h _ (List.mem_of_getElem? e)
theorem SR.ca {K : PySem.W.Frag} {c1 c2 : Ca} {F H : Hp} {σ : L2.St} {env : En} {fp : Fp} (hc : c1.cl = c2.cl) (n : nhE env = true) (s : SR K c1 F H σ env fp) : SR K c2 F H σ env fp where
  sub := s.sub
  slot := fun i t e => by
    obtain ⟨v, e1, r⟩ := s.slot i t e
    exact ⟨v, e1, Rep.ca hc t (nhE_at n e) r⟩
  alive := s.alive
  one := s.one
  nd := s.nd
  len := s.len
def Stp.isFd : Stp → Bool
  | .fd _ _ => true
  | _ => false
/-- x, y = e, o.f; then s, at whose end the list is as s left it -/
def alsIn (i : Nat) (p : List Stp) (j1 j : Nat) (t1 : T) (env : En) : Option En := match T.at env i with
  | some t => match T.foc p t with
    | some (.lst true xs) => match T.upf p t .hole with
      | some t' => if p.all Stp.isFd = true ∧ nhE env = true ∧ t1.nh = true ∧ j1 < env.length ∧ j < env.length then some (((env.set i (some t')).set j1 (some t1)).set j (some (.lst true xs))) else none
      | none => none
    | _ => none
  | none => none
def flN : Fl → Bool
  | .nx => true
  | .rt t => t.nh
  | _ => false
def alsOut (i : Nat) (p : List Stp) (j : Nat) (fl : Fl) (env : En) : Option En := match T.at env i, T.at env j with
  | some t, some u => match T.foc p t, T.upf p t u with
    | some .hole, some t' => if nhE ((env.set j none).set i (some t')) = true ∧ flN fl = true then some ((env.set j none).set i (some t')) else none
    | _, _ => none
  | _, _ => none
def sAls (f : EM) (i : Nat) (p : List Stp) (j1 j : Nat) (s : SM) : SM := fun env => do
  let (t1, env1) ← f env
  match alsIn i p j1 j t1 env1 with
  | some env2 => do
    let (fl, env3) ← s env2
    match alsOut i p j fl env3 with
    | some env4 => .ok (fl, env4)
    | none => stk
  | none => stk
section
variable {K : PySem.W.Frag} {ca : Ca} {F H : Hp} {σ : L2.St} {md pn : List Nat} {f : EM} {s : SM}
end
section
variable {ca : Ca} {X : Cx} {md pn : List Nat} {e o : Expr} {pos : Pos} {x y : Str} {f : EM} {i : Nat} {pt : List Stp} {rest : List Stmt} {sf : SM}
end
section
variable {K : PySem.W.Frag} {ca : Ca} {F F' F1 H H' H1 : Hp} {O O' : Addr → Prop} {σ : L2.St} {env : En} {fp : Fp} {t : T} {v : V} {fv : List Addr} {md : List Nat}
theorem Repk.pure_fp : ∀ (ts : List (Key × T)) {vs : List (Key × V)} {fp : List Addr}, T.owk ts = false → Repk K ca F H ts vs fp → fp = []
  | [], _, _, _, h => by simp only [Repk] at h; exact h.2
  | (k, t) :: ts, _, _, n, h => by
    simp only [Repk, T.owk, Bool.or_eq_false_iff] at h n
    obtain ⟨v, us, f, g, e1, r, rs, e2⟩ := h
    rw [e2, Rep.pure_fp t n.1 r, Repk.pure_fp ts n.2 rs]
    rfl
def T.isDct : T → Bool
  | .dct true _ => true
  | _ => false
def sSetKy (i : Nat) (fv fk : EM) : SM := fun env => do
  let (x, env1) ← fv env
  let (y, env2) ← fk env1
  match T.at env2 i, keyT y with
  | some (.dct true ks), some j => do
    let _ ← ck (!T.owk ks && (!x.ow && (T.isDct ((T.at env1 i).getD .non) && decide (ks.length < big))))
    .ok (.nx, env2.set i (some (.dct true (putT ks j x))))
  | _, _ => stk
end
section
variable {ca : Ca} {X : Cx} {md pn : List Nat} {a b c value : Expr} {pos apos cpos : Pos} {x : Str} {f g : EM} {bf bg bh : BM}
/-- a slot's dict -/
def bD (i : Nat) : BM := fun env => match env[i]? with
  | some (some (.dct o ks)) => .ok (.br (.dct o ks) i, env)
  | _ => stk
theorem tb_d {K : PySem.W.Frag} {σ : L2.St} {H : Hp} {i : Nat} {Q : VK} (hi : i ∉ md) (h : TBof K ca md (bD i) σ H Q) : tVar i σ H fun x H1 => (∃ a, x = .ref a ∧ IsD H1 a) ∧ Q x H1 := by
  obtain ⟨F, env, fp, b, env', s, e, k⟩ := h
  unfold bD at e
  split at e
  case h_2 => cases e
  case h_1 o ks et =>
    cases e
    obtain ⟨v, e1, r⟩ := s.slot i _ et
    have r0 := r
    refine ⟨v, e1, ?_, k v H F fp [] (Go.refl s.sub fun b z => z.elim id (fun z => nomatch z)) Keep.refl s ?_ List.nodup_nil (fun _ z => nomatch z)⟩
    · cases o with
      | true =>
        simp only [Rep] at r0
        obtain ⟨a, us, f, rfl, q1, _⟩ := r0
        exact ⟨a, rfl, .inl ⟨us, .inl q1⟩⟩
      | false =>
        simp only [Rep] at r0
        obtain ⟨a, us, rfl, q1, _⟩ := r0
        exact ⟨a, rfl, .inl ⟨us, s.sub.rd q1⟩⟩
    · simp only [Ops]
      exact ⟨v, [], [], [], rfl, ⟨hi, rfl, fp i, r, fun _ z => z⟩, ⟨rfl, rfl⟩, rfl⟩
theorem d_dget2 {px : Pos} (hu : X.A.units + 1 < cLine) (i : Nat) (hb : DB ca X md b bg) (hc : DB ca X md c bh) (hi : i ∉ md := by decide) (hN : X.N[i]? = some x := by rfl) (hv : Vis X.env.scope x := by first | exact Or.inl rfl | exact Or.inr (Or.inl rfl) | exact Or.inr (Or.inr rfl)) (hd : (x == ("__debug__" : Str)) = false := by decide) (hcd : (x == ("__classdict__" : Str)) = false := by decide)
    (h1 : attributeBase (.Name x px) "get" X.env (eval (.Name x px) X.env) = eval (.Name x px) X.env := by rfl) (h2 : ((backTo cpos (starEach [b, c] X.env)).all (fun x => !x.1) && (backToKw cpos (keywordEach [] X.env)).all (fun x => x.1.isSome)
    && decide (([b, c] : List Expr).length + ([] : List Keyword).length + (if ([] : List Keyword).isEmpty then 0 else 1) < 30)) = true := by rfl) (h3 : (apos.endLine == cpos.line) = true := by rfl) (h4 : backTo cpos (starEach [b, c] X.env) = [(false, eval b X.env), (false, eval c X.env)] := by rfl) :
    DE ca X md (.Call (.Attribute (.Name x px) "get" apos) [b, c] [] cpos) (eOp oDGet (aCons (bD i) (aCons bg (aCons bh aNil)))) :=
  PEm (pe_dget2 hu (pv i hN hv hd hcd) hb hc ⟨h1, h2, h3, h4⟩) fun σ H Q h => by
    obtain ⟨v, hv, ⟨a, rfl, hD⟩, q⟩ := tb_d hi (ta_cons (te_op s_dget h))
    refine ⟨_, hv, a, rfl, hD, (ta_cons q : TBof X.K ca md bg σ H _).mono fun y H2 q2 => (ta_cons q2 : TBof X.K ca md bh σ H2 _).mono fun z H3 q3 => ?_⟩
    obtain ⟨x', y', z', e, a', ea, _, o, g, q⟩ := (ta_nil q3 : _)
    cases e
    cases ea
    exact ⟨o, g, q⟩
end
def eCallT (g : Fn) (f : AM) : EM := fun env => do
  let (bs, env1) ← f env
  match bs with
  | .tmp t :: bs => do
    let _ ← ck (bs.all unB)
    let (t', _) ← g (t :: bs.map Bop.res)
    .ok (t', env1)
  | _ => stk
section
variable {K : PySem.W.Frag} {ca : Ca} {F F' F1 H H' H1 : Hp} {σ : L2.St} {md : List Nat}
end
section
variable {ca : Ca} {X : Cx} {md : List Nat} {e : Expr} {es : List Expr} {p pos : Pos} {x : Str} {af : AM} {lvl k : Nat} {ps : List Str} {g : Fn}
end
end QL
namespace QL
open PySem L2
theorem ite_F {P A : Prop} [Decidable P] : (if P then A else False) = (P ∧ A) := by by_cases h : P <;> simp only [h, if_true, if_false, true_and, false_and]
section
variable {env e : En} {i j : Nat} {f g h : EM} {bf : BM} {af : AM} {s : SM} {t u : T} {b : Bool} {bs : List Bop} {ts : List T} {c d m x y : Str} {fs : List (Str × T)} {gf : Fn} {p : List Stp}
variable {Q : T × En → Prop} {QB : Bop × En → Prop} {QS : Fl × En → Prop}
def obK (o : Option T) (i : Nat) (c m : Str) (env : En) (QB : Bop × En → Prop) : Prop := match o with
  | some (.obj d fs) => (d = c ∧ fs.lookup m = none) ∧ QB (.io i, env)
  | _ => False
theorem obK_some : obK (some (.obj d fs)) i c m env QB = ((d = c ∧ fs.lookup m = none) ∧ QB (.io i, env)) := rfl
theorem w_bOb : wp (bOb i c m env) QB = obK (look env i) i c m env QB := by
  unfold bOb look
  cases env[i]? with
  | none => exact we_stk
  | some o =>
    cases o with
    | none => exact we_stk
    | some t =>
      cases t with
      | obj d fs =>
        show wp (if d = c ∧ fs.lookup m = none then _ else _) QB = _
        rw [we_ite, we_ok, we_stk]
        exact ite_F
      | _ => exact we_stk
def kMk2 (e : En) (Q : T × En → Prop) : T × Option T → Prop := fun r => r.1 = .non ∧ opt r.2 fun u => Q (u, e)
theorem kMk2_ap : kMk2 e Q (.non, some u) = Q (u, e) := by
  show (T.non = .non ∧ opt (some u) fun u => Q (u, e)) = _
  simp [opt]
def kMk (c : Str) (gf : Fn) (Q : T × En → Prop) : List Bop × En → Prop := fun r => r.1.all unB = true ∧ wp (gf (.obj c [] :: r.1.map Bop.res)) (kMk2 r.2 Q)
theorem kMk_ap : kMk c gf Q (bs, e) = (bs.all unB = true ∧ wp (gf (.obj c [] :: bs.map Bop.res)) (kMk2 e Q)) := rfl
theorem w_eMake : wp (eMake c gf af env) Q = wp (af env) (kMk c gf Q) := we_bind.trans (by
  congr 1; funext ⟨bs, e⟩
  rw [we_bind, we_ck, we_bind, kMk_ap]
  congr 2; funext ⟨t, out⟩
  show wp (match t, out with | .non, some u => Except.ok (u, e) | _, _ => stk) Q = (t = .non ∧ opt out fun u => Q (u, e))
  cases t <;> cases out <;> first | (simp [opt, we_ok]; done) | (simp [opt, we_stk]; done))
theorem unB_tmp : unB (.tmp t) = !t.ow := rfl
theorem unB_br : unB (.br t i) = !t.ow := rfl
def fldK (o : Option T) (i : Nat) (c x : Str) (t : T) (e : En) (QS : Fl × En → Prop) : Prop := match o with
  | some (.obj d fs) => (d = c ∧ fs.length < 1000) ∧ QS (.nx, e.set i (some (.obj c (putFT x t fs))))
  | _ => False
theorem fldK_some : fldK (some (.obj d fs)) i c x t e QS = ((d = c ∧ fs.length < 1000) ∧ QS (.nx, e.set i (some (.obj c (putFT x t fs))))) := rfl
def kFd (i : Nat) (c x : Str) (QS : Fl × En → Prop) : T × En → Prop := fun r => fldK (look r.2 i) i c x r.1 r.2 QS
theorem kFd_ap : kFd i c x QS (t, e) = fldK (look e i) i c x t e QS := rfl
theorem w_sFldS : wp (sFldS i c x f env) QS = wp (f env) (kFd i c x QS) := we_bind.trans (by
  congr 1; funext ⟨t, e⟩
  show wp (match T.at e i with | some (.obj d fs) => if d = c ∧ fs.length < 1000 then Except.ok (Fl.nx, e.set i (some (.obj c (putFT x t fs)))) else stk | _ => stk) QS = fldK (look e i) i c x t e QS
  rw [show T.at e i = look e i from rfl]
  cases look e i with
  | none => exact we_stk
  | some o =>
    cases o with
    | obj d fs =>
      show wp (if d = c ∧ fs.length < 1000 then _ else _) QS = ((d = c ∧ fs.length < 1000) ∧ QS _)
      rw [we_ite, we_ok, we_stk]
      exact ite_F
    | _ => exact we_stk)
theorem putFT_nil : putFT x t [] = [(x, t)] := rfl
theorem putFT_cons : putFT x t ((y, u) :: fs) = if y = x then (y, t) :: fs else (y, u) :: putFT x t fs := rfl
theorem setF_nil : setF [] x t = [] := rfl
theorem setF_cons : setF ((y, u) :: fs) x t = if x == y then (y, t) :: fs else (y, u) :: setF fs x t := rfl
theorem foc_F2 : T.foc (.fd c x :: p) (.obj d fs) = if c = d then (fs.lookup x).bind (T.foc p) else none := rfl
theorem upf_F : T.upf (.fd c x :: p) (.obj d fs) u = (fs.lookup x).bind fun y => (T.upf p y u).map fun z => .obj d (setF fs x z) := rfl
theorem w_eMvF : wp (eMvF i p env) Q = opt ((look env i).bind (T.foc p)) fun u => Q (u, env.set i none) := by
  unfold eMvF
  rw [show T.at env i = look env i from rfl]
  cases (look env i).bind (T.foc p) with
  | none => exact we_stk
  | some t => exact we_ok
def kAl4 (fl : Fl) (QS : Fl × En → Prop) : En → Prop := fun e => QS (fl, e)
theorem kAl4_ap {fl : Fl} : kAl4 fl QS e = QS (fl, e) := rfl
def kAl3 (i : Nat) (p : List Stp) (j : Nat) (QS : Fl × En → Prop) : Fl × En → Prop := fun q => opt (alsOut i p j q.1 q.2) (kAl4 q.1 QS)
theorem kAl3_ap {fl : Fl} : kAl3 i p j QS (fl, e) = opt (alsOut i p j fl e) (kAl4 fl QS) := rfl
def kAl2 (i : Nat) (p : List Stp) (j : Nat) (s : SM) (QS : Fl × En → Prop) : En → Prop := fun e => wp (s e) (kAl3 i p j QS)
theorem kAl2_ap : kAl2 i p j s QS e = wp (s e) (kAl3 i p j QS) := rfl
def kAl (i : Nat) (p : List Stp) (j1 j : Nat) (s : SM) (QS : Fl × En → Prop) : T × En → Prop := fun r => opt (alsIn i p j1 j r.1 r.2) (kAl2 i p j s QS)
theorem kAl_ap {j1 : Nat} : kAl i p j1 j s QS (t, e) = opt (alsIn i p j1 j t e) (kAl2 i p j s QS) := rfl
theorem w_sAls {j1 : Nat} : wp (sAls f i p j1 j s env) QS = wp (f env) (kAl i p j1 j s QS) := we_bind.trans (by
  congr 1; funext ⟨t, e⟩
  show wp (match alsIn i p j1 j t e with | some env2 => _ | none => stk) QS = opt (alsIn i p j1 j t e) _
  cases alsIn i p j1 j t e with
  | none => exact we_stk
  | some e2 =>
    refine we_bind.trans ?_
    show _ = wp (s e2) (kAl3 i p j QS)
    congr 1; funext ⟨fl, e3⟩
    show wp (match alsOut i p j fl e3 with | some env4 => Except.ok (fl, env4) | none => stk) QS = opt (alsOut i p j fl e3) (kAl4 fl QS)
    cases alsOut i p j fl e3 with
    | none => exact we_stk
    | some e4 => exact we_ok)
def ctK (bs : List Bop) (gf : Fn) (e : En) (Q : T × En → Prop) : Prop := match bs with
  | .tmp t :: bs => bs.all unB = true ∧ wp (gf (t :: bs.map Bop.res)) fun r => Q (r.1, e)
  | _ => False
def kCt2 (e : En) (Q : T × En → Prop) : T × Option T → Prop := fun r => Q (r.1, e)
theorem kCt2_ap {o : Option T} : kCt2 e Q (t, o) = Q (t, e) := rfl
def kCt (gf : Fn) (Q : T × En → Prop) : List Bop × En → Prop := fun r => match r.1 with
  | .tmp t :: bs => bs.all unB = true ∧ wp (gf (t :: bs.map Bop.res)) (kCt2 r.2 Q)
  | _ => False
theorem kCt_ap : kCt gf Q (.tmp t :: bs, e) = (bs.all unB = true ∧ wp (gf (t :: bs.map Bop.res)) (kCt2 e Q)) := rfl
theorem w_eCallT : wp (eCallT gf af env) Q = wp (af env) (kCt gf Q) := we_bind.trans (by
  congr 1; funext ⟨bs, e⟩
  cases bs with
  | nil => exact we_stk
  | cons b bs =>
    cases b with
    | tmp t =>
      show wp (ck (bs.all unB) >>= fun _ => gf (t :: bs.map Bop.res) >>= fun p => Except.ok (p.1, e)) Q = _
      rw [we_bind, we_ck, we_bind, kCt_ap]
      congr 2; funext r
      exact we_ok
    | _ => exact we_stk)
def bdK (o : Option T) (i : Nat) (env : En) (QB : Bop × En → Prop) : Prop := match o with
  | some (.dct o ks) => QB (.br (.dct o ks) i, env)
  | _ => False
theorem bdK_some {o : Bool} {ks : List (Key × T)} : bdK (some (.dct o ks)) i env QB = QB (.br (.dct o ks) i, env) := rfl
theorem w_bD : wp (bD i env) QB = bdK (look env i) i env QB := by
  unfold bD look
  cases env[i]? with
  | none => exact we_stk
  | some o =>
    cases o with
    | none => exact we_stk
    | some t => cases t <;> first | exact we_stk | exact we_ok
def kyK (o1 o : Option T) (k : Option Key) (i : Nat) (x : T) (e : En) (QS : Fl × En → Prop) : Prop := match o, k with
  | some (.dct true ks), some j => (T.owk ks = false ∧ x.ow = false ∧ T.isDct (o1.getD .non) = true ∧ ks.length < big) ∧ QS (.nx, e.set i (some (.dct true (putT ks j x))))
  | _, _ => False
theorem kyK_some {o1 : Option T} {ks : List (Key × T)} {k : Key} : kyK o1 (some (.dct true ks)) (some k) i t e QS = ((T.owk ks = false ∧ t.ow = false ∧ T.isDct (o1.getD .non) = true ∧ ks.length < big) ∧ QS (.nx, e.set i (some (.dct true (putT ks k t))))) := rfl
def kKy2 (o1 : Option T) (i : Nat) (x : T) (QS : Fl × En → Prop) : T × En → Prop := fun r => kyK o1 (look r.2 i) (keyT r.1) i x r.2 QS
theorem kKy2_ap {o1 : Option T} {x : T} : kKy2 o1 i x QS (t, e) = kyK o1 (look e i) (keyT t) i x e QS := rfl
def kKy (i : Nat) (g : EM) (QS : Fl × En → Prop) : T × En → Prop := fun r => wp (g r.2) (kKy2 (look r.2 i) i r.1 QS)
theorem kKy_ap : kKy i g QS (t, e) = wp (g e) (kKy2 (look e i) i t QS) := rfl
theorem keyT_int {i : Int} : keyT (.int i) = some (.inl i) := rfl
theorem keyT_str {z : Str} : keyT (.str z) = some (.inr z) := rfl
theorem isDct_t {ks : List (Key × T)} : T.isDct (.dct true ks) = true := rfl
theorem w_sSetKy : wp (sSetKy i f g env) QS = wp (f env) (kKy i g QS) := we_bind.trans (by
  congr 1; funext ⟨x, e1⟩
  refine we_bind.trans ?_
  rw [kKy_ap]
  congr 1; funext ⟨y, e2⟩
  rw [kKy2_ap]
  show wp (match T.at e2 i, keyT y with | some (.dct true ks), some j => (ck (!T.owk ks && (!x.ow && (T.isDct ((T.at e1 i).getD .non) && decide (ks.length < big)))) >>= fun _ => Except.ok (Fl.nx, e2.set i (some (.dct true (putT ks j x))))) | _, _ => stk) QS = _
  rw [show T.at e2 i = look e2 i from rfl, show T.at e1 i = look e1 i from rfl]
  cases look e2 i with
  | none => exact we_stk
  | some t =>
    cases keyT y with
    | none => cases t <;> first | exact we_stk | (rename_i o _; cases o <;> exact we_stk)
    | some k =>
      cases t with
      | dct o ks =>
        cases o with
        | false => exact we_stk
        | true =>
          rw [kyK_some]
          refine we_bind.trans ?_
          rw [we_ck, we_ok]
          refine propext ?_
          simp only [Bool.and_eq_true, Bool.not_eq_true', decide_eq_true_eq, and_assoc]
      | lst o xs => cases o <;> exact we_stk
      | _ => exact we_stk)
end
theorem sO : type_of% (And.intro (And.intro (And.intro (And.intro (And.intro (@w_bOb) (@obK_some)) (And.intro (@w_eMake) (@kMk_ap))) (And.intro (And.intro (@kMk2_ap) (@unB_tmp)) (And.intro (@unB_br) (And.intro (@w_sFldS) (@kFd_ap))))) (And.intro (And.intro (And.intro (@fldK_some) (@putFT_nil)) (And.intro (@putFT_cons) (And.intro (@setF_nil) (@setF_cons)))) (And.intro (And.intro (@upf_F) (@foc_F2)) (And.intro (@foc_nil) (And.intro (@upf_nil) (@w_eMvF)))))) (And.intro (And.intro (And.intro (And.intro (@w_sAls) (@kAl_ap)) (And.intro (@kAl2_ap) (@kAl3_ap))) (And.intro (And.intro (@kAl4_ap) (@w_eCallT)) (And.intro (@kCt_ap) (And.intro (@kCt2_ap) (@w_bD))))) (And.intro (And.intro (And.intro (@bdK_some) (@w_sSetKy)) (And.intro (@kKy_ap) (And.intro (@kKy2_ap) (@kyK_some)))) (And.intro (And.intro (@keyT_int) (@keyT_str)) (And.intro (@isDct_t) (And.intro (@List.lookup_cons.{0,0}) (@List.lookup_nil.{0,0}))))))) := And.intro (And.intro (And.intro (And.intro (And.intro (@w_bOb) (@obK_some)) (And.intro (@w_eMake) (@kMk_ap))) (And.intro (And.intro (@kMk2_ap) (@unB_tmp)) (And.intro (@unB_br) (And.intro (@w_sFldS) (@kFd_ap))))) (And.intro (And.intro (And.intro (@fldK_some) (@putFT_nil)) (And.intro (@putFT_cons) (And.intro (@setF_nil) (@setF_cons)))) (And.intro (And.intro (@upf_F) (@foc_F2)) (And.intro (@foc_nil) (And.intro (@upf_nil) (@w_eMvF)))))) (And.intro (And.intro (And.intro (And.intro (@w_sAls) (@kAl_ap)) (And.intro (@kAl2_ap) (@kAl3_ap))) (And.intro (And.intro (@kAl4_ap) (@w_eCallT)) (And.intro (@kCt_ap) (And.intro (@kCt2_ap) (@w_bD))))) (And.intro (And.intro (And.intro (@bdK_some) (@w_sSetKy)) (And.intro (@kKy_ap) (And.intro (@kKy2_ap) (@kyK_some)))) (And.intro (And.intro (@keyT_int) (@keyT_str)) (And.intro (@isDct_t) (And.intro (@List.lookup_cons.{0,0}) (@List.lookup_nil.{0,0}))))))
end QL
namespace QL
open PySem L2 RZ
theorem mergeK_new : ∀ {more kvs : List (Key × V)}, (more.map (·.1)).Nodup → (∀ p ∈ more, ∀ q ∈ kvs, p.1 ≠ q.1) → mergeK kvs more = kvs ++ more
  | [], kvs, _, _ => by simp [mergeK]
  | p :: more, kvs, h, d => by
    show mergeK (putK kvs p.1 p.2) more = _
    have hv : valV kvs p.1 = none := by
      unfold valV
      rw [List.find?_eq_none.mpr (fun q hq => by simpa using fun z => d p List.mem_cons_self q hq z.symm)]; rfl
    rw [putK_new _ hv, mergeK_new (List.nodup_cons.mp h).2 ?_, List.append_assoc]
    · rfl
    · intro q hq r hr
      rcases List.mem_append.mp hr with z | z
      · exact d q (List.mem_cons_of_mem _ hq) r z
      · rw [List.mem_singleton.mp z]
        exact fun e => (List.nodup_cons.mp h).1 (List.mem_map.mpr ⟨q, hq, e⟩)
theorem zip_keys {α : Type} : ∀ {ks : List Key} {vs : List α}, vs.length = ks.length → (ks.zip vs).map (·.1) = ks
  | [], _, _ => rfl
  | _ :: _, [], h => by cases h
  | k :: ks, v :: vs, h => by rw [List.zip_cons_cons, List.map_cons, zip_keys (by simpa using h)]
def isTmp : Bop → Bool
  | .tmp _ => true
  | _ => false
def eDisp (ks : List Key) (f : AM) : EM := fun env => do
  let (bs, env1) ← f env
  let _ ← ck (bs.all isTmp && decide (bs.length = ks.length) && decide ks.Nodup)
  .ok (.dct true (ks.zip (bs.map Bop.res)), env1)
section
variable {K : PySem.W.Frag} {ca : Ca} {F F' F1 H H' H1 : Hp} {O O' : Addr → Prop} {σ : L2.St} {env : En} {fp : Fp} {t : T} {v : V} {fv : List Addr} {ts : List T} {vs : List V} {md : List Nat}
theorem ops_tmp : ∀ {bs : List Bop} {vs : List V} {ft : List Addr} {ks : List Key}, Ops K ca md F H σ fp bs vs ft → bs.all isTmp = true → bs.length = ks.length → vs.length = ks.length ∧ Repk K ca F H (ks.zip (bs.map Bop.res)) (ks.zip vs) ft
  | [], _, _, [], h, _, _ => by
    simp only [Ops] at h
    obtain ⟨rfl, rfl⟩ := h
    exact ⟨rfl, by simp only [List.map_nil, List.zip_nil_left, Repk]; trivial⟩
  | [], _, _, _ :: _, _, _, e => by cases e
  | _ :: _, _, _, [], _, _, e => by cases e
  | b :: bs, _, _, k :: ks, h, c, e => by
    simp only [Ops] at h
    obtain ⟨v, us, f, g, rfl, r, rs, rfl⟩ := h
    simp only [List.all_cons, Bool.and_eq_true] at c
    obtain ⟨l, q⟩ := ops_tmp rs c.2 (by simpa using e)
    cases b with
    | tmp t =>
      refine ⟨by simp [l], ?_⟩
      simp only [List.map_cons, List.zip_cons_cons, Repk]
      exact ⟨v, _, f, g, rfl, r, q, rfl⟩
    | br t i => cases c.1
    | io i => cases c.1
theorem te_disp {ks : List Key} {f : AM} {Q : VK} (h : TEof K ca md (eDisp ks f) σ H Q) : ks.Nodup ∧ ∀ p, H p = none → TAof K ca md f σ (upd H p (.dK [])) fun vs H2 => H2 p = some (.dK []) ∧ Q (.ref p) (upd H2 p (.dK (ks.zip vs))) := by
  obtain ⟨F, env, fp, t, env', s, e, k⟩ := h
  obtain ⟨⟨bs, env1⟩, e1, e⟩ := bind_ok e
  obtain ⟨_, c, e⟩ := bind_ok e
  have c := ck_ok c
  cases e
  simp only [Bool.and_eq_true, decide_eq_true_eq] at c
  refine ⟨c.2, fun p hp => ?_⟩
  have hFp := none_of_sub s.sub hp
  have g0 : Go F H (fun _ => False) F (upd H p (.dK [])) (· = p) := Go.newO s.sub hp fun b z => .inr (by rw [z]; exact hp)
  have g0' : Go F H (OwM md fp) F (upd H p (.dK [])) (fun a => OwM md fp a ∨ a = p) := Go.newO s.sub hp fun b z => z.elim .inl fun z => .inr (by rw [z]; exact hp)
  refine ⟨F, env, fp, bs, env', s.of_go g0 (fun _ _ z => z), e1, fun vs H' F' fp' ft g1 k1 s1 o1 n1 d1 => ?_⟩
  have hpO : ¬ OwM md fp p := fun z => (s.alive p z.ow).1 hp
  have hp2 : H' p = some (.dK []) := g1.frame p _ upd_same hpO
  obtain ⟨hl, r⟩ := ops_tmp (ks := ks) o1 c.1.1 c.1.2
  have hF' : F' p = none := by
    cases w : F' p with
    | none => rfl
    | some o =>
      exfalso
      rcases g1.nofz p (by rw [w]; simp) with q | q | q
      · exact q hFp
      · exact hpO q
      · rw [upd_same] at q; cases q
  have hnew : ∀ a, OwM md fp' a ∨ a ∈ ft → a ≠ p := fun a z e => by
    subst e
    rcases g1.fresh a z with q | q
    · exact hpO q
    · rw [upd_same] at q; cases q
  have hpo : ¬ Ow fp' p := fun ⟨i, hi⟩ => by
    by_cases hm : i ∈ md
    · exact hnew p (.inl ⟨i, hm, hi⟩) rfl
    · rw [k1.fp i hm] at hi
      exact (s.alive p ⟨i, hi⟩).1 hp
  have g2 : Go F' H' (· = p) F' (upd H' p (.dK (ks.zip vs))) (· = p) := Go.write s1.sub rfl hF' (fun b z => .inl z)
  have gg : Go F H (OwM md fp) F' (upd H' p (.dK (ks.zip vs))) (fun a => OwM md fp' a ∨ a ∈ p :: ft) :=
    (g0'.trans g1 (P := fun a => (OwM md fp' a ∨ a ∈ ft) ∨ a = p) (fun _ z => .inl z) fun _ z => z.elim .inl fun z => .inr (.inr z)).trans g2 (fun _ z => .inr z) fun a z => by
      rcases z with z | z
      · exact .inr (.inl (.inl z))
      · rcases List.mem_cons.mp z with z | z
        · exact .inl z
        · exact .inr (.inl (.inr z))
  refine ⟨hp2, k (.ref p) _ F' fp' (p :: ft) gg k1 (s1.of_go g2 fun a ha z => hpo (z ▸ ha)) ⟨?_, List.nodup_cons.mpr ⟨fun z => hnew p (.inr z) rfl, n1⟩, fun a ha => ?_⟩⟩
  · simp only [Rep]
    exact ⟨p, _, ft, rfl, upd_same, hF', Repk.go (Sub.refl F') _ r (fun a ha => upd_ne (hnew a (.inr ha))) (fun a ha => (Repk.alive _ r a ha).2), rfl⟩
  · rcases List.mem_cons.mp ha with z | z
    · rw [z]; exact hpo
    · exact d1 a z
end
structure DPs (ca : Ca) (X : Cx) (md : List Nat) (pos : Pos) (ks : List Key) (kes : List (Option Expr)) (es : List Expr) (f : AM) : Prop where
  ex : ∃ trs, PPs X pos kes es trs ∧ kes.all (·.isSome) = true ∧ kes.length = es.length ∧ ks.length = kes.length ∧ ∀ σ H (Q : List V → Hp → Prop) (R : List (V × V) → Hp → Prop), TAof X.K ca md f σ H Q → (∀ vs H', Q vs H' → vs.length = ks.length → R ((ks.zip vs).map fun kv => (L2.kV kv.1, kv.2)) H') → tPairs trs σ H R
section
variable {ca : Ca} {X : Cx} {md : List Nat} {e ek : Expr} {es : List Expr} {kes : List (Option Expr)} {pos : Pos} {f : AM} {g : EM} {k : Key} {ks : List Key}
theorem dp_nil : DPs ca X md pos [] [] [] aNil := ⟨[], pps_nil, rfl, rfl, rfl, fun σ H Q R h q => q [] H (ta_nil h) rfl⟩
theorem dp_cons (hk : PE X ek (tC (L2.kV k))) (he : DE ca X md e g) (h : DPs ca X md pos ks kes es f) : DPs ca X md pos (k :: ks) (some ek :: kes) (e :: es) (aCons (bE g) f) := by
  obtain ⟨trs, h1, h2, h3, h5, h4⟩ := h.ex
  refine ⟨_ :: trs, pps_cons hk he h1, by simpa using h2, by simp [h3], by simp [h5], fun σ H Q R ht q => ?_⟩
  show TEof X.K ca md g σ H fun y H2 => tPairs trs σ H2 fun ps H3 => R ((L2.kV k, y) :: ps) H3
  exact (tb_e (ta_cons ht)).mono fun y H2 h => h4 σ H2 _ _ h fun vs H' hq hl => q (y :: vs) H' hq (by simp [hl])
theorem d_disp (h : DPs ca X md pos ks kes es f) (h0 : kes ≠ [] := by simp) (h15 : kes.length ≤ 15 := by simp) : DE ca X md (.Dict kes es pos) (eDisp ks f) := by
  obtain ⟨trs, h1, h2, h3, h5, h4⟩ := h.ex
  exact PEm (pe_disp h1 h2 h3 h0 h15) fun σ H Q hq => by
    obtain ⟨nd, q⟩ := te_disp hq
    intro p hp
    refine h4 σ _ _ _ (q p hp) fun vs H' hq hl => ⟨hq.1, ks.zip vs, rfl, ?_, ?_⟩
    · rw [List.length_zip]; omega
    · rw [mergeK_new (by rw [zip_keys hl]; exact nd) (fun _ _ _ z => absurd z (by simp)), List.nil_append]
      exact hq.2
end
section
variable {env e : En} {f : AM} {Q : T × En → Prop} {bs : List Bop} {ks : List Key}
def kDi (ks : List Key) (Q : T × En → Prop) : List Bop × En → Prop := fun r => (r.1.all isTmp && decide (r.1.length = ks.length) && decide ks.Nodup) = true ∧ Q (.dct true (ks.zip (r.1.map Bop.res)), r.2)
theorem kDi_ap : kDi ks Q (bs, e) = ((bs.all isTmp && decide (bs.length = ks.length) && decide ks.Nodup) = true ∧ Q (.dct true (ks.zip (bs.map Bop.res)), e)) := rfl
theorem w_eDisp : wp (eDisp ks f env) Q = wp (f env) (kDi ks Q) := we_bind.trans (by
  congr 1; funext ⟨bs, e⟩
  rw [we_bind, we_ck, we_ok, kDi_ap])
theorem isTmp_tmp {t : T} : isTmp (.tmp t) = true := rfl
end
def tDictZip (K : PySem.W.Frag) (ta : TA) : TE := fun σ H Q => ta σ H fun vs H1 => ∃ (a b : Addr) (ks : List Key) (ys : List V), vs = [.ref a, .ref b] ∧ SqL K H1 a (ks.map L2.kV) ∧ SqL K H1 b ys ∧ ∀ p, H1 p = none → Q (.ref p) (upd H1 p (.dK (mergeK [] (ks.zip ys))))
def oDictZip : List T → R T
  | [.lst _ xs, .lst _ ys] => match intsOf xs with
    | some ns => if T.owl ys then stk else .ok (.dct true (mergeT [] ((ns.map Sum.inl).zip ys)))
    | none => stk
  | _ => stk
end QL
namespace QL
open PySem PySem.Spec PyProof.Rows L2
/-- a set just made -/
abbrev fso (w : World) : Obj := { cls := .type "set", dict := none, data := .set #[] 0 (.fresh 0 0 (!w.params.followText "set-order")) }
abbrev hps (w : World) (s : Shared) : Heap := s.heap.push (fso w)
section
variable {P : Program} {w : World} {A : Around} {E : Value → Shared → Prop} {s : Shared}
/-- what a set of a list of whole numbers is -/
def SetOut (w : World) (s : Shared) (ns : List Int) (t : Shared) : Prop := ∃ (g : Heap) (k c : Nat), t = { s with heap := g, toks := k } ∧ SetR w g s.heap.objs.size (fun j => decide (j ∈ ns)) c ∧ ∀ b o, s.heap.get? b = some o → g.get? b = some o
set_option maxHeartbeats 3200000 in
theorem set_of_list {l : Addr} {its : Array Value} (ns : List Int) {Q : Value → Shared → Prop} (hA : A.handled = none) (hl : s.heap.IsList l its) (hi : IntsAre its.toList ns) (few : ns.length + 1 < scanBound)
    (q : ∀ t, SetOut w s ns t → Q (.ref s.heap.objs.size) t) : wpAny (model P w) A (call (.type "set") [.ref l]) Q E s := by
  have zl : its.size = ns.length := by simpa using IntsAre.length hi
  have m0 := F.called_set.mro
  obtain ⟨c0, r0, m0⟩ := m0
  have m1 := F.called_set.made
  have m2 := F.called_set.sub
  have m3 := F.called_set.notType
  have m4 := F.called_set.canCreate
  have m5 := F.typeCall_set_1 (.ref l)
  apply wpAny_call
  apply codeAny_of_tree
  show wpAny _ _ (callAny (.type "set") _) _ _ _
  apply wpAny_pure
  refine ⟨Code.quiet_builtin _ (by decide +kernel), codeAny_builtin F.entry_type_call ?_⟩
  rw [Around.under_plain (weight_type_call_type "set" [.ref l] []) rfl]
  repeat (any_goals (first | assumption | wp_step))
  have made := code_set_led1 (P := P) (A := A.in1) (w := w) (s := s) (.ref l) (E := E) (Q₁ := fun x t => x = .ref s.heap.objs.size ∧ t = { s with heap := hps w s }) ⟨rfl, rfl⟩
  refine codeAny_mono made ?_
  intro r t hr
  cases r with
  | error e => exact hr
  | ok fl =>
  cases fl with
  | ret x =>
    obtain ⟨ex, et⟩ := hr
    subst ex
    subst et
    have there : (hps w s).get? s.heap.objs.size = some (fso w) := Heap.get?_push_size _ rfl
    have ty : Shared.TypeIs { s with heap := hps w s } (.ref s.heap.objs.size) "set" := ⟨_, there, rfl⟩
    have i1 := F.called_set.init.lookup
    have i2 := F.called_set.init.bind (.ref s.heap.objs.size)
    repeat (any_goals (first | assumption | wp_step))
    have initd : codeAny (model P w) A.in1 (.call (.builtin "set.__init__") ⟨[.ref s.heap.objs.size, .ref l], []⟩) (wants (fun r t => r = .none ∧ SetOut w s ns t) E) { s with heap := hps w s } := by
      refine codeAny_call_builtin F.called_set.init.plain F.entry_set_init (check_set_init_1 ty ?_)
      obtain ⟨o, ho, co, n, dt⟩ := hl
      have lo : l < s.heap.objs.size := Heap.lt_size ho
      obtain ⟨k1, k2, k3, k4⟩ := o
      have co : k1 = .type "list" := co
      have dt : k3 = .seq its n := dt
      subst co
      subst dt
      have ho2 := Heap.get?_push_of_some (fso w) ho
      have isl : (hps w s).IsList l its := ⟨_, ho2, rfl, n, rfl⟩
      have s1 := F.sub_list_set
      have s2 := F.sub_list_frozenset
      have s3 : (Value.type "list" == Value.type "dict") = false := by decide
      unfold Builtin.«set.__init__» noKeywords Builtin.Frozenset.updateFrom
      generalize hI : pyIter = PyI
      wp_walk
      subst hI
      apply wpAny_pyIter_list isl
      apply wpAny_bind
      apply wpAny_runValue
      have hA3 : A.in1.in1.in1.handled = none := by simp [hA]
      have ne : l ≠ (hps w s).objs.size := by
        rw [Heap.size_push]
        exact fun z => absurd lo (by rw [z]; exact Nat.not_lt.mpr (Nat.le_succ _))
      have off : s.heap.objs.size ∉ [(hps w s).objs.size, l] := fun z => by
        rw [Heap.size_push] at z
        rcases List.mem_cons.mp z with z | z
        · exact absurd z (Nat.ne_of_lt (Nat.lt_succ_self _))
        · exact absurd (List.mem_singleton.mp z) (Nat.ne_of_gt lo)
      have val : ∀ (i : Nat) (v : Value), its[i]? = some v → ∃ k t, ns[i]? = some k ∧ v = .int k t := fun i v e => by
        have b : i < ns.length := zl ▸ (Array.getElem?_eq_some_iff.mp e).1
        have ⟨t, ev⟩ := IntsAre.int_at hi i v (Array.getElem?_toList.trans e)
        refine ⟨ns[i], t, List.getElem?_eq_getElem b, ev.trans ?_⟩
        rw [List.getD_eq_getElem?_getD, List.getElem?_eq_getElem b]
        rfl
      have W := (Walks.list (prog := P) (w := w) hA3 (hps w s).objs.size l ne its).toS
      refine set_update_ints W s.heap.objs.size off ns zl few val its.size 0 _ rfl (Nat.zero_le _) ⟨⟨_, Heap.get?_push_size _ rfl, rfl, rfl⟩, isl.push _⟩ ⟨0, Nat.le_refl 0, setR_new_at (Heap.get?_push_of_some _ there)⟩ ?_
      intro t c mv _ RR
      obtain ⟨g, g2, d2, k, o2⟩ := t
      have q1 : g2 = s.gens := mv.gens
      have q2 : d2 = s.drawn := mv.drawn
      have q3 : o2 = s.os := mv.os
      subst q1 q2 q3
      show wpAny _ _ _ _ _ _
      apply wpAny_pure
      show wpAny _ _ (ret Value.none) _ _ _
      apply wpAny_pure
      refine ⟨rfl, g, k, c, rfl, RR, fun b o e => ?_⟩
      have eb := Heap.get?_push_of_some (fso w) e
      have lb : b < s.heap.objs.size := Heap.lt_size e
      refine mv.heap b o (fun z => ?_) (Heap.get?_push_of_some _ eb)
      rcases List.mem_cons.mp z with z | z
      · exact absurd z (Nat.ne_of_lt lb)
      · have z := List.mem_singleton.mp z
        rw [z, Heap.size_push] at lb
        exact absurd lb (Nat.not_lt.mpr (Nat.le_succ _))
    refine codeAny_mono initd ?_
    intro r t hr
    cases r with
    | error e => exact hr
    | ok fl =>
    cases fl with
    | ret x =>
      obtain ⟨ex, out⟩ := hr
      subst ex
      have out2 := out
      obtain ⟨g, k, c, et, _⟩ := out2
      subst et
      repeat (any_goals (first | assumption | wp_step))
      exact q _ out
    | _ => exact hr.elim
  | _ => exact hr.elim
end
end QL
namespace QL
open PySem PySem.Spec PyProof.Rows L2 RZ
def ins (x : Int) : List Int → List Int
  | [] => [x]
  | y :: ys => if x < y then x :: y :: ys else if x = y then y :: ys else y :: ins x ys
def uniq (ns : List Int) : List Int := ns.foldr ins []
theorem mem_ins {x j : Int} : ∀ {l : List Int}, j ∈ ins x l ↔ j = x ∨ j ∈ l
  | [] => by simp [ins]
  | y :: ys => by
    unfold ins
    split
    · simp
    · split
      · rename_i e
        subst e
        simp
      · rw [List.mem_cons, mem_ins, List.mem_cons]
        constructor
        · rintro (a | a | a)
          · exact .inr (.inl a)
          · exact .inl a
          · exact .inr (.inr a)
        · rintro (a | a | a)
          · exact .inr (.inl a)
          · exact .inl a
          · exact .inr (.inr a)
theorem up_ins {x : Int} : ∀ {l : List Int}, l.Pairwise (fun a b : Int => a < b) → (ins x l).Pairwise (fun a b : Int => a < b)
  | [], _ => by simp [ins]
  | y :: ys, h => by
    have h2 := List.pairwise_cons.mp h
    unfold ins
    split
    · rename_i e
      refine List.pairwise_cons.mpr ⟨fun z hz => ?_, h⟩
      rcases List.mem_cons.mp hz with w | w
      · omega
      · have := h2.1 z w; omega
    · split
      · exact h
      · refine List.pairwise_cons.mpr ⟨fun z hz => ?_, up_ins h2.2⟩
        rcases mem_ins.mp hz with w | w
        · omega
        · exact h2.1 z w
theorem mem_uniq {j : Int} : ∀ {ns : List Int}, j ∈ uniq ns ↔ j ∈ ns
  | [] => by simp [uniq]
  | n :: ns => by
    show j ∈ ins n (uniq ns) ↔ _
    rw [mem_ins, mem_uniq, List.mem_cons]
theorem up_uniq : ∀ {ns : List Int}, (uniq ns).Pairwise (fun a b : Int => a < b)
  | [] => List.Pairwise.nil
  | n :: ns => up_ins (l := uniq ns) up_uniq
theorem up_nodup {l : List Int} (h : l.Pairwise (fun a b : Int => a < b)) : l.Nodup := h.imp fun z e => by omega
theorem up_same {l m : List Int} (h1 : l.Pairwise (fun a b : Int => a < b)) (h2 : m.Pairwise (fun a b : Int => a < b)) (h : ∀ x, x ∈ l ↔ x ∈ m) : l = m :=
  List.Perm.eq_of_pairwise (le := fun a b : Int => a < b) (fun a b _ _ h1 h2 => by omega) h1 h2 ((List.perm_ext_iff_of_nodup (up_nodup h1) (up_nodup h2)).mpr h)
theorem setR_many {w : World} {h : Heap} {a : Addr} {ns : List Int} {c : Nat} (R : SetR w h a (fun j => decide (j ∈ ns)) c) : c = (uniq ns).length := by
  obtain ⟨o, es, ep, t, _, _, _, _, nd, hm, _, _, hn, _⟩ := R
  have e := ((List.perm_ext_iff_of_nodup nd (up_nodup (up_uniq (ns := ns)))).mpr fun k => by
    rw [← hm k, mem_uniq]
    exact decide_eq_true_iff).length_eq
  rw [List.length_map, Array.length_toList, hn] at e
  exact e
section
variable {X : Cx}
def rSetL (K : PySem.W.Frag) (w : World) : List V → Hp → VK → Prop := fun xs H Q => ∃ (l : Addr) (ns : List Int), xs = [.ref l] ∧ SqL K H l (ns.map V.int) ∧ ns.length ≤ 4000 ∧ ∀ p, H p = none → Q (.ref p) (upd H p (SetO w p (fun j => decide (j ∈ ns)) (uniq ns).length))
theorem cr_setL (hc : X.calm = true) : CallR X (.type "set") (rSetL X.K X.w) := by
  intro pins s σ H xs us Q I r h
  obtain ⟨l, ns, rfl, hq, hl, q⟩ := h
  rw [Vals.ref1 r]
  obtain ⟨its, rv, pl, hz⟩ := I.list hq
  refine set_of_list (w := X.w) ns (I.ok.hd hc) pl.isList (by simpa using intsAre_vals rv) (by unfold scanBound; omega) fun t ht => ?_
  obtain ⟨g, k, c, rfl, R, keep⟩ := ht
  have e := setR_many R
  subst e
  exact ⟨.ref s.heap.objs.size, _, I.laid (t' := k) keep (Nat.le_refl _) (setO_new R), rfl, q _ (I.hok.fresh (Nat.le_refl _))⟩
end
def rSS (K : PySem.W.Frag) (w : World) : List V → Hp → VK → Prop := fun vs H Q => ∃ (l : Addr) (ns : List Int), vs = [.ref l] ∧ SqL K H l (ns.map V.int) ∧ ns.length ≤ 4000 ∧ (uniq ns).length < 64 ∧
  ∀ p, H p = none → ∀ q, upd H p (SetO w p (fun j => decide (j ∈ ns)) (uniq ns).length) q = none → Q (.ref q) (upd (upd H p (SetO w p (fun j => decide (j ∈ ns)) (uniq ns).length)) q (.lst ((uniq ns).map V.int)))
def oSortSet : List T → R T
  | [.lst _ xs] => match intsOf xs with
    | some ns => if ns.length ≤ 4000 ∧ (uniq ns).length < 64 then .ok (.lst true ((uniq ns).map T.int)) else stk
    | none => stk
  | _ => stk
theorem s_sortSet {K : PySem.W.Frag} {ca : Ca} {w : World} : CallS K ca (rSS K w) oSortSet := by
  intro F H ts vs f t Q s r nd e q
  unfold oSortSet at e
  split at e
  · split at e
    · rename_i o xs z ns hn
      split at e
      · rename_i hb
        cases e
        obtain ⟨x', rfl, r1⟩ := reps1 r
        obtain ⟨a, us, g, rfl, h1, h2, h3, h4, _⟩ := r1.lst s nd
        have := intsOf_ok h2 hn
        subst this
        refine ⟨a, ns, rfl, SqL.of h1, hb.1, hb.2, fun p hp p2 hp2 => ?_⟩
        have g0 : Go F H (· ∈ f) F (upd H p (SetO w p (fun j => decide (j ∈ ns)) (uniq ns).length)) (fun _ => False) := Go.newO s hp fun _ z => z.elim
        exact newLst (f := []) g0.sub hp2 (reps_ints _) List.nodup_nil (fun _ z => z) fun v H' F' k g1 rv ndk => q v H' F' k (g0.trans (O1' := (· ∈ ([] : List Addr))) g1 (fun _ z => absurd z (by simp)) fun _ z => .inl z) rv ndk
      · cases e
    · cases e
  · cases e
theorem d_sortSet {ca : Ca} {X : Cx} {md : List Nat} {a : Expr} {f : AM} {p p2 pos pos2 : Pos} (hm : X.mg "sorted" = none) (hm2 : X.mg "set" = none) (ha : DA ca X md [a] f) (hg : Gl X "sorted" := by rfl) (hg2 : Gl X "set" := by rfl) (hc : X.calm = true := by rfl)
    (he : starEach [a] X.env = (false, eval a X.env) :: starEach [] X.env := by rfl) (hpl : (backTo pos2 (starEach [] X.env)).any (·.1) = false := by rfl)
    (he2 : starEach [.Call (.Name "set" p2) [a] [] pos2] X.env = (false, eval (.Call (.Name "set" p2) [a] [] pos2) X.env) :: starEach [] X.env := by rfl) (hpl2 : (backTo pos (starEach [] X.env)).any (·.1) = false := by rfl) :
    DE ca X md (.Call (.Name "sorted" p) [.Call (.Name "set" p2) [a] [] pos2] [] pos) (eOp oSortSet f) :=
  PEm (pe_callB (cr_sortedSet hc) hg hm boot_sorted_ (pa_cons (pe_callTy (cr_setL hc) hg2 hm2 boot_set_ ha (he := he) (hpl := hpl)) pa_nil he2) (he := he2) (hpl := hpl2)) fun σ H Q h => by
    show TAof X.K ca md f σ H _
    refine (te_op (s_sortSet (w := X.w)) h).mono fun vs H1 q => ?_
    obtain ⟨l, ns, rfl, hq, hl, h64, q⟩ := q
    refine ⟨l, ns, rfl, hq, hl, fun p hp => ?_⟩
    refine ⟨p, _, _, rfl, upd_same, h64, fun ms p2 up mem _ hp2 => ?_⟩
    have e : ms = uniq ns := up_same up up_uniq fun x => by
      rw [mem x, mem_uniq]
      exact decide_eq_true_iff
    subst e
    exact q p hp p2 hp2
theorem w_sortSet {o : Bool} {ns : List Int} {P : T → Prop} (h : ns.length ≤ 4000) (h2 : (uniq ns).length < 64) (q : P (.lst true ((uniq ns).map T.int))) : wp (oSortSet [.lst o (ns.map T.int)]) P := by
  show wp (match intsOf (ns.map T.int) with | some ns => if ns.length ≤ 4000 ∧ (uniq ns).length < 64 then Except.ok (T.lst true ((uniq ns).map T.int)) else stk | none => stk) P
  rw [intsOf_map]
  show wp (if ns.length ≤ 4000 ∧ (uniq ns).length < 64 then _ else _) P
  rw [if_pos ⟨h, h2⟩]
  exact wp_ok q
/-- rising numbers between two are few -/
theorem up_few {a b : Int} : ∀ {l : List Int}, l.Pairwise (fun a b : Int => a < b) → (∀ x ∈ l, a ≤ x ∧ x < b) → (l.length : Int) ≤ max 0 (b - a)
  | [], _, _ => by simp; omega
  | x :: xs, h, hb => by
    have h2 := List.pairwise_cons.mp h
    have := up_few (a := x + 1) (b := b) h2.2 fun y hy => ⟨by have := h2.1 y hy; omega, (hb y (List.mem_cons_of_mem _ hy)).2⟩
    have hx := hb x List.mem_cons_self
    rw [List.length_cons]
    omega
end QL
namespace QL
open PySem L2 RZ PyProof.Rows

/-- the operand is a tuple -/
def Bop.isT : Bop → Bool
  | .tmp (.tup _) => true
  | .br (.tup _) _ => true
  | _ => false
def bT (f : BM) : BM := fun env => do
  let (b, env1) ← f env
  let _ ← ck b.isT
  .ok (b, env1)
section
variable {K : PySem.W.Frag} {ca : Ca} {σ : L2.St} {H : Hp} {md : List Nat}
/-- the place of the first one -/
def oTIdx : List T → R T
  | [.tup xs, .int k] => match intsOf xs with
    | some ns => do
      let _ ← ck (decide (k ∈ ns))
      .ok (.int (ns.idxOf k : Nat))
    | none => stk
  | _ => stk
def rTIdx (K : PySem.W.Frag) : R2 := fun x y H Q => ∃ p k, ∃ ns : List Int, x = .ref p ∧ y = .int k ∧ SqT K H p (ns.map V.int) ∧ k ∈ ns ∧ Q (.int (ns.idxOf k : Nat)) H
end
section
variable {X : Cx} {a b : Expr} {ta tb : TE} {apos cpos : Pos} {md : List Nat} {ca : Ca} {bf bg : BM}
theorem flat_ints (ns : List Int) : (ns.map V.int).all flatV = true := by rw [List.all_map]; exact List.all_eq_true.mpr fun _ _ => rfl
end
section
variable {K : PySem.W.Frag} {ca : Ca} {X : Cx}
def mPop : T → List T → R (T × T)
  | .lst true xs, [.int i] => do
    let _ ← ck (!T.owl xs && (decide (0 ≤ i) && decide (i < 2 ^ 63)))
    match xs[i.toNat]? with
    | some y => .ok (.lst true (xs.eraseIdx i.toNat), y)
    | none => stk
  | _, _ => stk
def kPop (P : T × T → Prop) (xs : List T) (i : Nat) : T → Prop := fun y => P (.lst true (xs.eraseIdx i), y)
def kBt (Q : Bop × En → Prop) : Bop × En → Prop := fun p => p.1.isT = true ∧ Q p
end
end QL
namespace QL
open PySem L2 RZ PyProof.Rows

/-- it can be shown here -/
def shOk (d : PyData) : Bool := d.showable && (!d.hasDict && (decide (d.depth ≤ 40) && decide (d.shown.length ≤ sizeLine)))
def oRepr : List T → R T
  | [t] => match t.pd with
    | some d => do
      let _ ← ck (shOk d)
      .ok (.str d.shown)
    | none => stk
  | _ => stk
/-- how str tells it -/
def told : PyData → Str
  | .str z => z
  | d => d.shown
def oStr : List T → R T
  | [t] => match t.pd with
    | some d => do
      let _ ← ck (shOk d)
      .ok (.str (told d))
    | none => stk
  | _ => stk
def rShow (K : PySem.W.Frag) (f : PyData → Str) : List V → Hp → VK → Prop := fun xs H Q => ∃ v d, xs = [v] ∧ Dp K H v d ∧ shOk d = true ∧ Q (.str (f d)) H
section
variable {K : PySem.W.Frag} {ca : Ca}
theorem s_str : CallS K ca (rShow K told) oStr := by
  intro F H ts vs f t Q s r nd e q
  unfold oStr at e
  split at e
  · split at e
    · rename_i x d hd
      obtain ⟨_, c, e⟩ := bind_ok e
      cases e
      obtain ⟨v, rfl, r1⟩ := reps1 r
      exact ⟨v, d, rfl, r1.dp s _ hd, ck_ok c, give s (fun _ _ => rep_str) q⟩
    · cases e
  · cases e
end
section
variable {X : Cx} {k : Nat}
theorem call_strD (hr : RoomG k X.A) : CallR X (.type "str") (rShow X.K told) := by
  rintro pins s σ H xs us Q I r ⟨v, d, rfl, hd, ok, q⟩
  obtain ⟨u, rfl, ru⟩ := vals1 r
  obtain ⟨as, hs⟩ := Dp.reads I d v u hd ru
  simp only [shOk, Bool.and_eq_true, Bool.not_eq_true', decide_eq_true_eq] at ok
  obtain ⟨o1, o2, o3, o4⟩ := ok
  have un := hr.toRoom.units
  cases hs with
  | none => simp only [told, PyData.shown_none] at q; exact PySem.P.str_of_none ⟨.str _, H, I.tok _, ⟨_, rfl⟩, q⟩
  | bool b => simp only [told, PyData.shown_bool] at q; exact PySem.P.str_of_bool ⟨.str _, H, I.tok _, ⟨_, rfl⟩, q⟩
  | int i t => simp only [told, PyData.shown_int] at q; exact PySem.P.str_of_int (by simpa [PyData.showable] using o1) ⟨.str _, H, I.tok _, ⟨_, rfl⟩, q⟩
  | str x t => exact PySem.P.str_of_str ⟨.str _, H, I, ⟨_, rfl⟩, q⟩
  | list h1 h2 h3 h4 => exact str_of_reads (.list h1 h2 h3 h4) o1 (PyData.noDict_hsm o2) hr.gd (by omega) (fun _ _ e => e) (fun h' u tk hk => ⟨.str _, H, I.kept hk, ⟨_, rfl⟩, q⟩) o4
  | tuple h1 h2 h3 h4 => exact str_of_reads (.tuple h1 h2 h3 h4) o1 (PyData.noDict_hsm o2) hr.gd (by omega) (fun _ _ e => e) (fun h' u tk hk => ⟨.str _, H, I.kept hk, ⟨_, rfl⟩, q⟩) o4
  | dict => simp [PyData.hasDict] at o2
end
section
variable {K : PySem.W.Frag} {ca : Ca}
def eFrz (f : EM) : EM := fun env => do
  let (t, e) ← f env
  let _ ← ck t.nob
  .ok (t.fz, e)
open Classical in
def kFrz (Q : T × En → Prop) : T × En → Prop := fun p => p.1.nob = true ∧ Q (p.1.fz, p.2)
def oIsBl : List T → R T
  | [.bl a, .bl b] => .ok (.bl (decide (a = b)))
  | _ => stk
def oNotBl : List T → R T
  | [.bl a, .bl b] => .ok (.bl (!decide (a = b)))
  | _ => stk
end
section
end
section
variable {ca : Ca} {X : Cx} {md : List Nat} {e : Expr} {f : EM}
end
end QL
namespace QL
open PySem L2 RZ PyProof.Rows

def oRev : List T → R T
  | [.lst _ xs] => do
    let _ ← ck (!T.owl xs)
    .ok (.lst true xs.reverse)
  | _ => stk
section
variable {K : PySem.W.Frag} {ca : Ca} {md : List Nat} {σ : L2.St} {H : Hp} {Q : VK}
theorem te_rev {f : BM} (h : TEof K ca md (eOp oRev (aCons f aNil)) σ H Q) : tRevL K (TBof K ca md f) σ H Q := by
  refine te_op1 (r := fun x H Q => ∃ a xs, x = .ref a ∧ SqL K H a xs ∧ ∀ p, H p = none → Q (.ref p) (upd H p (.lst xs.reverse))) (fun F H ts vs f t Q s r nd e q => ?_) h
  unfold oRev at e
  split at e
  · obtain ⟨_, c, e⟩ := bind_ok e
    cases e
    obtain ⟨x, rfl, r1⟩ := reps1 r
    obtain ⟨a, us, g, rfl, h1, h2, h3, h4, _⟩ := r1.lst s nd
    have hg := Reps.pure_fp _ (by simpa using ck_ok c) h2
    subst hg
    exact ⟨_, rfl, a, us, rfl, SqL.of h1, fun p hp => newLst s hp h2.reverse List.nodup_nil (fun _ z => nomatch z) q⟩
  · cases e
end
section
variable {ca : Ca} {X : Cx} {md : List Nat} {a : Expr} {bf : BM} {k : Nat} {p1 p2 p3 pos : Pos}
theorem d_rev (ha : DB ca X md a bf) : DE ca X md (.Subscript a (.Slice none none (some (.UnaryOp .USub (.Constant (.int 1) k p1) p2)) p3) pos) (eOp oRev (aCons bf aNil)) := PEm (pe_revL ha) fun _ _ _ h => te_rev h
end
theorem w_rev {o : Bool} {xs : List T} {P : T → Prop} : wp (oRev [.lst o xs]) P = (T.owl xs = false ∧ P (.lst true xs.reverse)) := by
  unfold oRev
  rw [we_bind, we_ck, we_ok]
  simp
def oSumT : List T → R T
  | [.lst _ xs] => match intsOf xs with
    | some ns => .ok (.int ns.sum)
    | none => stk
  | [.tup xs] => match intsOf xs with
    | some ns => .ok (.int ns.sum)
    | none => stk
  | _ => stk
def rSumT (K : PySem.W.Frag) : List V → Hp → VK → Prop := fun vs H Q => ∃ (a : Addr) (ns : List Int), vs = [V.ref a] ∧ (SqL K H a (ns.map V.int) ∨ SqT K H a (ns.map V.int)) ∧ Q (.int ns.sum) H
def maxI : Int → List Int → Int
  | m, [] => m
  | m, x :: xs => maxI (if m < x then x else m) xs
def oMaxL : List T → R T
  | [.lst _ xs] => match intsOf xs with
    | some (n :: ns) => .ok (.int (maxI n ns))
    | _ => stk
  | _ => stk
def IteT (K : PySem.W.Frag) (a : Addr) : It where
  go := fun i H => ∃ (xs : List V) (x : V), SqT K H a xs ∧ xs[i]? = some x
  yld := fun i H v H' => ∃ T x, v = .ref T ∧ H T = none ∧ H' = upd H T (.tup [.int (i : Nat), x]) ∧ ∀ xs, SqT K H a xs → xs[i]? = some x
  stop := fun i H => ∃ xs : List V, SqT K H a xs ∧ xs.length = i
section
variable {prog : Program} {w : World} {A : Around} {E : Value → Shared → Prop} {s : Shared}
abbrev ze1 (h : Heap) (l : Addr) : Heap := h.push { cls := .type "tuple_iterator", data := .fields #[.ref l, .int 0 0] }
abbrev ze2 (h : Heap) (l : Addr) : Heap := (ze1 h l).push { cls := .type "enumerate", data := .fields #[.none, .bool false, .ref h.objs.size, rawInt 0, .none, .none] }
end
/-- enumerate of a list or a tuple -/
def iEnumA (K : PySem.W.Frag) (ta : TA) : TI := fun σ H R => ta σ H fun vs H1 => ∃ a xs, vs = [.ref a] ∧ ((SqL K H1 a xs ∧ R (Ite K a) H1) ∨ (SqT K H1 a xs ∧ R (IteT K a) H1))
def enmA : List T → R (List T)
  | [.lst _ xs] => .ok (enumT 0 xs)
  | [.tup xs] => .ok (enumT 0 xs)
  | _ => stk
section
variable {K : PySem.W.Frag} {ca : Ca} {F H : Hp} {ts : List T} {md : List Nat} {σ : L2.St}
end
section
variable {ca : Ca} {X : Cx} {md : List Nat} {a : Expr} {af : AM} {p pos tpos : Pos}
end
def ixv (x j : T) : R T := match x, j with
  | .lst _ xs, .int n => do
    let _ ← ck (!T.owl xs)
    match atI xs n with
    | some y => .ok y
    | none => stk
  | _, _ => stk
def eIxV (i : Nat) (g : BM) : EM := fun env => do
  let (bs, env1) ← aCons (bV i) (aCons g aNil) env
  match bs with
  | [.br x _, b] => do
    let t ← ixv x (Bop.res b)
    .ok (t, env1)
  | _ => stk
section
variable {K : PySem.W.Frag} {ca : Ca} {F H : Hp} {md : List Nat} {σ : L2.St} {fp : Fp} {Q : VK}
end
section
variable {ca : Ca} {X : Cx} {md : List Nat} {a b : Expr} {bg : BM} {pos : Pos}
end
def kIv2 (x : T) (Q : T × En → Prop) : Bop × En → Prop := fun r => wp (ixv x (Bop.res r.1)) fun t => Q (t, r.2)
section
variable {X : Cx}
def rSetA (K : PySem.W.Frag) (w : World) : List V → Hp → VK → Prop := fun xs H Q => ∃ (l : Addr) (ns : List Int), xs = [.ref l] ∧ (SqL K H l (ns.map V.int) ∨ SqT K H l (ns.map V.int)) ∧ ns.length ≤ 4000 ∧ ∀ p, H p = none → Q (.ref p) (upd H p (SetO w p (fun j => decide (j ∈ ns)) (uniq ns).length))
def rLenSet (w : World) : List V → Hp → VK → Prop := fun vs H Q => ∃ (a : Addr) (S : Int → Bool) (n : Nat), vs = [V.ref a] ∧ H a = some (SetO w a S n) ∧ Q (.int n) H
end
def rLS (K : PySem.W.Frag) (w : World) : List V → Hp → VK → Prop := fun vs H Q => ∃ (l : Addr) (ns : List Int), vs = [.ref l] ∧ (SqL K H l (ns.map V.int) ∨ SqT K H l (ns.map V.int)) ∧ ns.length ≤ 4000 ∧
  ∀ p, H p = none → Q (.int (uniq ns).length) (upd H p (SetO w p (fun j => decide (j ∈ ns)) (uniq ns).length))
def oLenSet : List T → R T
  | [x] => match x with
    | .lst _ xs => match intsOf xs with
      | some ns => if ns.length ≤ 4000 then .ok (.int (uniq ns).length) else stk
      | none => stk
    | .tup xs => match intsOf xs with
      | some ns => if ns.length ≤ 4000 then .ok (.int (uniq ns).length) else stk
      | none => stk
    | _ => stk
  | _ => stk
end QL
namespace QL
open PySem L2 RZ PyProof.Rows

def eStrL (ys : List Str) : EM := fun env => .ok (.lst true (ys.map T.str), env)
section
variable {K : PySem.W.Frag} {ca : Ca} {F H : Hp} {md : List Nat} {σ : L2.St} {Q : VK}
theorem reps_strs : ∀ {ys : List Str}, Reps K ca F H (ys.map T.str) (ys.map V.str) []
  | [] => by simp only [List.map_nil, Reps]; trivial
  | y :: ys => by
    simp only [List.map_cons, Reps]
    exact ⟨.str y, ys.map V.str, [], [], rfl, rep_str, reps_strs, rfl⟩
theorem te_strL {a b : Str} {ys : List Str} (e : Txt.split a b = ys) (hb : (b.length == 0) = false) (hz : a.length + 2 ≤ sizeLine) (h : TEof K ca md (eStrL ys) σ H Q) : tM1 rSplitAny (tC (.str a)) (tC (.str b)) σ H Q := by
  obtain ⟨F, env, fp, t, env', s, e1, k⟩ := h
  cases e1
  refine ⟨⟨a, rfl⟩, .inl ⟨a, b, rfl, rfl, hb, hz, fun p hp => ?_⟩⟩
  rw [e]
  have g : Go F H (fun _ => False) F (upd H p (.lst (ys.map V.str))) (· = p) := Go.newO s.sub hp fun b z => .inr (by rw [z]; exact hp)
  have g0 : Go F H (OwM md fp) F H (OwM md fp) := Go.refl s.sub fun _ z => z
  refine k (.ref p) _ F fp [p] (g0.trans g (fun _ z => z.elim) fun a z => ?_) Keep.refl (s.of_go g fun _ _ z => z) ⟨?_, by simp, fun a ha z => ?_⟩
  · rcases z with z | z
    · exact .inr z
    · exact .inl (List.mem_singleton.mp z)
  · simp only [Rep]
    exact ⟨p, ys.map V.str, [], rfl, upd_same, none_of_sub s.sub hp, reps_strs, rfl⟩
  · rw [List.mem_singleton.mp ha] at z
    exact (s.alive p z).1 hp
end
section
variable {ca : Ca} {X : Cx} {md : List Nat}
theorem d_split {a b : Str} {ys : List Str} {k1 k2 : Nat} {p1 p2 apos pos : Pos} (e : Txt.split a b = ys) (hb : (b.length == 0) = false) (hz : a.length + 2 ≤ sizeLine) (hs : starEach [.Constant (.str b) k2 p2] X.env = [(false, eval (.Constant (.str b) k2 p2) X.env)] := by rfl)
    (hbase : attributeBase (.Constant (.str a) k1 p1) "split" X.env (eval (.Constant (.str a) k1 p1) X.env) = eval (.Constant (.str a) k1 p1) X.env := by rfl) (hline : (apos.endLine == pos.line) = true := by rfl) :
    DE ca X md (.Call (.Attribute (.Constant (.str a) k1 p1) "split" apos) [.Constant (.str b) k2 p2] [] pos) (eStrL ys) :=
  PEm (pe_splitAny pe_str pe_str hs hbase hline) fun _ _ _ h => te_strL e hb hz h
end
def sSetPairV (i j1 j2 : Nat) (f : EM) : SM := fun env => do
  let (x, env1) ← f env
  match x, T.at env1 j1, T.at env1 j2 with
  | .tup [u, v], some (.int n), some (.int m) => match T.at env1 i with
    | some (.lst true xs) => do
      let _ ← ck (!T.owl xs && (!u.ow && !v.ow))
      match ixN xs.length n with
      | some p => match ixN xs.length m with
        | some q => .ok (.nx, env1.set i (some (.lst true ((xs.set p u).set q v))))
        | none => stk
      | none => stk
    | _ => stk
  | _, _, _ => stk
section
variable {K : PySem.W.Frag} {ca : Ca} {F F' F1 H H' H1 : Hp} {σ : L2.St} {env : En} {fp : Fp} {t : T} {v : V} {md : List Nat}
end
section
variable {ca : Ca} {X : Cx} {md pn : List Nat} {value : Expr} {pos : Pos} {f : EM} {x y z : Str}
end
theorem w_eStrL {ys : List Str} {env : En} {Q : T × En → Prop} : wp (eStrL ys env) Q = Q (.lst true (ys.map T.str), env) := we_ok
def spVK (oi o1 o2 : Option T) (i : Nat) (u v : T) (e : En) (QS : Fl × En → Prop) : Prop := match oi, o1, o2 with
  | some (.lst true xs), some (.int n), some (.int m) => T.owl xs = false ∧ u.ow = false ∧ v.ow = false ∧ opt (ixN xs.length n) fun a => opt (ixN xs.length m) fun b => QS (.nx, e.set i (some (.lst true ((xs.set a u).set b v))))
  | _, _, _ => False
theorem spVK_some {i : Nat} {n m : Int} {QS : Fl × En → Prop} {u v : T} {e : En} {xs : List T} : spVK (some (.lst true xs)) (some (.int n)) (some (.int m)) i u v e QS = (T.owl xs = false ∧ u.ow = false ∧ v.ow = false ∧ opt (ixN xs.length n) fun a => opt (ixN xs.length m) fun b => QS (.nx, e.set i (some (.lst true ((xs.set a u).set b v))))) := rfl
def kSpV (i j1 j2 : Nat) (QS : Fl × En → Prop) : T × En → Prop := fun r => match r.1 with
  | .tup [u, v] => spVK (look r.2 i) (look r.2 j1) (look r.2 j2) i u v r.2 QS
  | _ => False
theorem kSpV_ap {i j1 j2 : Nat} {QS : Fl × En → Prop} {u v : T} {e : En} : kSpV i j1 j2 QS (.tup [u, v], e) = spVK (look e i) (look e j1) (look e j2) i u v e QS := rfl
end QL
namespace QL
open PySem L2 RZ PyProof.Rows

section
variable {K : PySem.W.Frag} {c1 : Ca} {F F' H H' : Hp}
/-- a place, its value, what is around -/
structure Foc2 (K : PySem.W.Frag) (c1 : Ca) (F H : Hp) (p : List Stp) (t u : T) (v w : V) (f fu fr : List Addr) : Prop where
  via : ∀ F1 H1, Sub F F1 → Sub F1 H1 → (∀ a ∈ fr, H1 a = H a) → Via K c1 H1 p v w
  rep : Rep K c1 F H u w fu
  mem : ∀ a, a ∈ f ↔ a ∈ fr ∨ a ∈ fu
  ndu : fu.Nodup
  dis : ∀ a ∈ fu, a ∉ fr
  ndr : fr.Nodup
  upd : ∀ (c2 : Ca), c1.cl = c2.cl → ∀ F' H' u' fu' t', Sub F F' → (∀ a ∈ fr, H' a = H a ∧ F' a = none) → Rep K c2 F' H' u' w fu' → fu'.Nodup → (∀ a ∈ fu', a ∉ fr) → T.upf p t u' = some t' → ∃ f', Rep K c2 F' H' t' v f' ∧ f'.Nodup ∧ ∀ a, a ∈ f' ↔ a ∈ fr ∨ a ∈ fu'
end
section
variable {K : PySem.W.Frag} {ca : Ca} {F H : Hp} {σ : L2.St} {env : En} {fp : Fp} {i j : Nat} {p : List Stp} {t t' u u' : T} {xs : List T} {a : Addr}
end
section
/-- numbers, begin = (o, o2) if c else e; s -/
def alsI (i : Nat) (p p2 : List Stp) (j jb : Nat) (env : En) : Option En := match T.at env i with
  | some t => match T.foc p t, T.foc p2 t, T.upf p t .hole with
    | some (.lst true xs), some (.int n), some t' => if nhE env = true ∧ j < env.length ∧ jb < env.length then some (((env.set i (some t')).set j (some (.lst true xs))).set jb (some (.int n))) else none
    | _, _, _ => none
  | none => none
def sAlsI (c : En → R (Bool × En)) (i : Nat) (p p2 : List Stp) (j jb : Nat) (e3 : EM) (s : SM) : SM := fun env => do
  let (b, env1) ← c env
  if b then
    match alsI i p p2 j jb env1 with
    | some env2 => do
      let (fl, env3) ← s env2
      match alsOut i p j fl env3 with
      | some env4 => .ok (fl, env4)
      | none => stk
    | none => stk
  else sSeq (sAsg e3 (gT 2 (gsC (gN j) (gsC (gN jb) gsN)))) s env1
variable {K : PySem.W.Frag} {ca : Ca} {F H : Hp} {σ : L2.St} {env : En} {fp : Fp} {i j jb : Nat} {p p2 : List Stp} {md pn : List Nat} {s : SM}
theorem EndsFrom.more {D : Ends} {fl : Fl} {env' : En} (k : EndsFrom K ca pn F H σ fp D fl env') : EndsFrom K ca (j :: pn) F H σ fp D fl env' := by
  have pin : ∀ σ3, Pin (j :: pn) σ σ3 → Pin pn σ σ3 := fun σ3 p3 q hq => p3 q (List.mem_cons_of_mem _ hq)
  cases fl with
  | nx => exact fun σ' H' F' fp' g s q => k σ' H' F' fp' g s (pin _ q)
  | bk => exact fun σ' H' F' fp' g s q => k σ' H' F' fp' g s (pin _ q)
  | ct => exact fun σ' H' F' fp' g s q => k σ' H' F' fp' g s (pin _ q)
  | rt t => exact fun σ' H' F' fp' v fv g s q m => k σ' H' F' fp' v fv g s (pin _ q) m
end
section
variable {ca : Ca} {X : Cx} {md pn : List Nat} {c e o o2 : Expr} {pos : Pos} {x y : Str} {cf : BT} {f3 : EM} {i : Nat} {pt pt2 : List Stp} {rest : List Stmt} {sf : SM}
end
section
variable {c : BT} {i j jb : Nat} {p p2 : List Stp} {f3 : EM} {s : SM} {env e : En} {QS : Fl × En → Prop}
def kAi (i : Nat) (p p2 : List Stp) (j jb : Nat) (f3 : EM) (s : SM) (QS : Fl × En → Prop) : Bool × En → Prop := fun r =>
  if r.1 then opt (alsI i p p2 j jb r.2) (kAl2 i p j s QS) else wp (sSeq (sAsg f3 (gT 2 (gsC (gN j) (gsC (gN jb) gsN)))) s r.2) QS
end
def keysI : List (Key × T) → Option (List Int)
  | [] => some []
  | (.inl n, _) :: r => (keysI r).map (n :: ·)
  | (.inr _, _) :: _ => none
def oSortD : List T → R T
  | [.dct _ kvs] => match keysI kvs with
    | some ns => do
      let _ ← ck (decide (ns.length < 64))
      .ok (.lst true ((ns.mergeSort (fun a b => decide (a ≤ b))).map T.int))
    | none => stk
  | _ => stk
section
variable {K : PySem.W.Frag} {ca : Ca} {F H : Hp}
end
def rNeNil (K : PySem.W.Frag) : R2 := fun x y H Q => ∃ (a b : Addr) (xs : List V), x = .ref a ∧ y = .ref b ∧ SqL K H a xs ∧ SqL K H b [] ∧ Q (.bl (!xs.isEmpty)) H
def oNeNil : List T → R T
  | [.lst _ xs, .lst _ []] => .ok (.bl (!xs.isEmpty))
  | _ => stk
section
variable {K : PySem.W.Frag} {ca : Ca} {F H : Hp}
end
def rNotInDT (K : PySem.W.Frag) : R2 := fun x y H Q => ∃ d ds, Dp K H x d ∧ Dp K H y (.tuple ds) ∧ SeqAt.shaped d = true ∧ SeqAt.shaped (.tuple ds) = true ∧ Q (.bl (!ds.any fun z => PyData.eqv z d)) H
def oNinDT : List T → R T
  | [x, .tup ys] => match x.pd, T.pdl ys with
    | some d, some ds => if SeqAt.shaped d = true ∧ SeqAt.shaped (.tuple ds) = true then .ok (.bl (!ds.any fun z => PyData.eqv z d)) else stk
    | _, _ => stk
  | _ => stk
end QL
namespace QL
open PySem L2 RZ PyProof.Rows

section
variable {K : PySem.W.Frag} {ca : Ca} {F F' F1 H H' H1 : Hp} {σ : L2.St} {env : En} {fp : Fp} {t u u' t' : T} {v w : V} {md : List Nat} {i : Nat} {p : List Stp} {f fu fr fu' ft fv : List Addr}
theorem Foc.go (c : Foc K ca F H p t u v w f fu fr) (e : Sub F F') (h : ∀ a ∈ f, H' a = H a ∧ F' a = none) : Foc K ca F' H' p t u v w f fu fr where
  via := fun F1 H1 s1 s2 hh => c.via F1 H1 (e.trans s1) s2 fun a ha => (hh a ha).trans (h a ((c.mem a).mpr (.inl ha))).1
  rep := Rep.go e u c.rep (fun a ha => (h a ((c.mem a).mpr (.inr ha))).1) fun a ha => (h a ((c.mem a).mpr (.inr ha))).2
  mem := c.mem
  ndu := c.ndu
  dis := c.dis
  ndr := c.ndr
  upd := fun F2 H2 u' fu' t' s hfr r nd dj hu => c.upd F2 H2 u' fu' t' (e.trans s) (fun a ha => ⟨(hfr a ha).1.trans (h a ((c.mem a).mpr (.inl ha))).1, (hfr a ha).2⟩) r nd dj hu
/-- a step at the place is a step of the slot -/
theorem SR.placeU (s1 : SR K ca F H σ env fp) (hv : σ[i]? = some (some v)) (cmem : ∀ a, a ∈ fp i ↔ a ∈ fr ∨ a ∈ fu) (cdis : ∀ a ∈ fu, a ∉ fr)
    (cupd : ∀ F' H' u' fu' t', Sub F F' → (∀ a ∈ fr, H' a = H a ∧ F' a = none) → Rep K ca F' H' u' w fu' → fu'.Nodup → (∀ a ∈ fu', a ∉ fr) → T.upf p t u' = some t' → ∃ f', Rep K ca F' H' t' v f' ∧ f'.Nodup ∧ ∀ a, a ∈ f' ↔ a ∈ fr ∨ a ∈ fu')
    (g2 : Go F H (fun a => a ∈ fu ∨ a ∈ ft) F' H' (fun a => a ∈ fu' ∨ a ∈ fv)) (d1 : ∀ a ∈ ft, ¬ Ow fp a)
    (r1 : Rep K ca F' H' u' w fu') (n2 : fu'.Nodup) (d2 : ∀ a ∈ fv, a ∉ fu') (h5 : T.upf p t u' = some t') :
    ∃ f', SR K ca F' H' σ (env.set i (some t')) (fpSet fp i f') ∧ Go F H (fun a => a ∈ fp i ∨ a ∈ ft) F' H' (fun a => a ∈ f' ∨ a ∈ fv) ∧ ∀ a ∈ fv, ¬ Ow (fpSet fp i f') a := by
  have alv : ∀ a, a ∈ fp i → F a = none ∧ H a ≠ none := fun a ha => by
    obtain ⟨q1, q2⟩ := s1.alive a ⟨i, ha⟩
    exact ⟨q2, q1⟩
  have fu_in : ∀ a ∈ fu, a ∈ fp i := fun a ha => (cmem a).mpr (.inr ha)
  have fr_in : ∀ a ∈ fr, a ∈ fp i := fun a ha => (cmem a).mpr (.inl ha)
  have off_fr : ∀ a ∈ fr, ¬ (a ∈ fu ∨ a ∈ ft) := fun a ha z => z.elim (fun q => cdis a q ha) fun q => d1 a q ⟨i, fr_in a ha⟩
  have fr2 : ∀ a ∈ fr, H' a = H a ∧ F' a = none := fun a ha => by
    obtain ⟨q2, q3⟩ := alv a (fr_in a ha)
    constructor
    · cases w : H a with
      | none => exact absurd w q3
      | some o => exact g2.frame a o w (off_fr a ha)
    · cases w : F' a with
      | none => rfl
      | some o =>
        exfalso
        rcases g2.nofz a (by rw [w]; simp) with z | z | z
        · exact z q2
        · exact off_fr a ha z
        · exact q3 z
  obtain ⟨f', i1, i2, i3⟩ := cupd F' H' u' fu' t' g2.ext fr2 r1 n2 (fun a ha hb => by
    rcases g2.fresh a (.inl ha) with z | z
    · exact off_fr a hb z
    · exact (alv a (fr_in a hb)).2 z) h5
  have g3 : Go F H (fun a => a ∈ fp i ∨ a ∈ ft) F' H' (fun a => a ∈ f' ∨ a ∈ fv) := by
    refine ⟨g2.ext, g2.sub, fun b o eb n => g2.frame b o eb fun z => n (z.imp (fun q => fu_in b q) id), fun b eb => (g2.nofz b eb).imp id (Or.imp (fun z => z.imp (fun q => fu_in b q) id) id), fun b z => ?_⟩
    rcases z with z | z
    · rcases (i3 b).mp z with z | z
      · exact .inl (.inl (fr_in b z))
      · exact (g2.fresh b (.inl z)).imp (fun z => z.imp (fun q => fu_in b q) id) id
    · exact (g2.fresh b (.inr z)).imp (fun z => z.imp (fun q => fu_in b q) id) id
  have dw : ∀ a ∈ fv, a ∉ f' := fun a ha hb => by
    rcases (i3 a).mp hb with z | z
    · rcases g2.fresh a (.inr ha) with q | q
      · exact off_fr a z q
      · exact (alv a (fr_in a z)).2 q
    · exact d2 a ha z
  obtain ⟨sP, dP⟩ := s1.replace hv g3 d1 i1 i2 dw
  exact ⟨f', sP, g3, dP⟩
theorem SR.place (s1 : SR K ca F H σ env fp) (hv : σ[i]? = some (some v)) (c : Foc K ca F H p t u v w (fp i) fu fr) (g2 : Go F H (fun a => a ∈ fu ∨ a ∈ ft) F' H' (fun a => a ∈ fu' ∨ a ∈ fv)) (d1 : ∀ a ∈ ft, ¬ Ow fp a)
    (r1 : Rep K ca F' H' u' w fu') (n2 : fu'.Nodup) (d2 : ∀ a ∈ fv, a ∉ fu') (h5 : T.upf p t u' = some t') :
    ∃ f', SR K ca F' H' σ (env.set i (some t')) (fpSet fp i f') ∧ Go F H (fun a => a ∈ fp i ∨ a ∈ ft) F' H' (fun a => a ∈ f' ∨ a ∈ fv) ∧ ∀ a ∈ fv, ¬ Ow (fpSet fp i f') a := s1.placeU hv c.mem c.dis c.upd g2 d1 r1 n2 d2 h5
theorem Foc2.go (c : Foc2 K ca F H p t u v w f fu fr) (e : Sub F F') (h : ∀ a ∈ f, H' a = H a ∧ F' a = none) : Foc2 K ca F' H' p t u v w f fu fr where
  via := fun F1 H1 s1 s2 hh => c.via F1 H1 (e.trans s1) s2 fun a ha => (hh a ha).trans (h a ((c.mem a).mpr (.inl ha))).1
  rep := Rep.go e u c.rep (fun a ha => (h a ((c.mem a).mpr (.inr ha))).1) fun a ha => (h a ((c.mem a).mpr (.inr ha))).2
  mem := c.mem
  ndu := c.ndu
  dis := c.dis
  ndr := c.ndr
  upd := fun c2 hc F2 H2 u' fu' t' s hfr r nd dj hu => c.upd c2 hc F2 H2 u' fu' t' (e.trans s) (fun a ha => ⟨(hfr a ha).1.trans (h a ((c.mem a).mpr (.inl ha))).1, (hfr a ha).2⟩) r nd dj hu
/-- what owns nothing, at a place -/
def eP (i : Nat) (p : List Stp) : EM := fun env => match (T.at env i).bind (T.foc p) with
  | some u => do
    let _ ← ck (!u.ow)
    .ok (u, env)
  | none => stk
theorem te_p {Q : VK} (h : TEof K ca md (eP i p) σ H Q) : tP K ca i p σ H Q := by
  obtain ⟨F, env, fp, t, env', s, e, k⟩ := h
  unfold eP at e
  split at e
  case h_2 => cases e
  case h_1 u hu =>
    obtain ⟨_, c, e⟩ := bind_ok e
    cases e
    obtain ⟨t0, et, ef⟩ := at_slot hu
    obtain ⟨v, e1, r⟩ := s.slot i t0 et
    obtain ⟨w, fu, fr, c'⟩ := Rep.foc p t0 t r (s.nd i) ef
    have hf := Rep.pure_fp t (by simpa using ck_ok c) c'.rep
    subst hf
    exact ⟨v, w, e1, c'.via F H (Sub.refl F) s.sub (fun _ _ => rfl), k w H F fp [] (Go.refl s.sub fun b z => z.elim id (fun z => nomatch z)) Keep.refl s ⟨c'.rep, List.nodup_nil, fun _ z => nomatch z⟩⟩
def eFzP (i : Nat) (p : List Stp) : EM := fun env => match T.at env i with
  | some t => match T.foc p t with
    | some u => do
      let _ ← ck u.nob
      match T.upf p t u.fz with
      | some t' => .ok (u.fz, env.set i (some t'))
      | none => stk
    | none => stk
  | none => stk
open Classical in
theorem te_fzP {Q : VK} (hi : i ∈ md) (h : TEof K ca md (eFzP i p) σ H Q) : tP K ca i p σ H Q := by
  obtain ⟨F, env, fp, t, env', s, e, k⟩ := h
  unfold eFzP at e
  split at e
  case h_2 => cases e
  case h_1 t0 ha =>
  split at e
  case h_2 => cases e
  case h_1 u2 ef =>
  obtain ⟨_, c, e⟩ := bind_ok e
  split at e
  case h_2 => cases e
  case h_1 t2 hu =>
  cases e
  obtain ⟨v, e1, r⟩ := s.slot i t0 (T.at_some ha)
  obtain ⟨w, fu, fr, c'⟩ := Rep.foc p t0 u2 r (s.nd i) ef
  have view : ∃ Fv : Hp, (∀ a, a ∈ fu → Fv a = H a) ∧ (∀ a, a ∉ fu → Fv a = F a) := ⟨fun a => if a ∈ fu then H a else F a, fun a z => if_pos z, fun a z => if_neg z⟩
  obtain ⟨Fv, v1, v2⟩ := view
  have sv : Sub F Fv := fun a o ea => by
    by_cases z : a ∈ fu
    · rw [v1 a z]; exact s.sub a o ea
    · rw [v2 a z]; exact ea
  have svH : Sub Fv H := fun a o ea => by
    by_cases z : a ∈ fu
    · rw [v1 a z] at ea; exact ea
    · rw [v2 a z] at ea; exact s.sub a o ea
  have g2 : Go F H (fun a => a ∈ fu ∨ a ∈ ([] : List Addr)) Fv H (fun a => a ∈ ([] : List Addr) ∨ a ∈ ([] : List Addr)) := ⟨sv, svH, fun _ _ e _ => e, fun b e => by
    by_cases z : b ∈ fu
    · exact .inr (.inl (.inl z))
    · rw [v2 b z] at e; exact .inl e, fun _ z => by rcases z with z | z <;> cases z⟩
  have rv := Rep.frz (H' := H) sv u2 (ck_ok c) c'.rep v1
  obtain ⟨f', sP, g3, _⟩ := s.place e1 c' g2 (fun _ z => nomatch z) rv List.nodup_nil (fun _ z => nomatch z) hu
  refine ⟨v, w, e1, c'.via F H (Sub.refl F) s.sub (fun _ _ => rfl), k w H Fv _ [] (Go.slot (md0 := []) (ft := []) (env := env) (env1 := env) hi (fun _ z => nomatch z) (Go.refl s.sub fun b z => z.elim id fun z => nomatch z) Keep.refl g3) ⟨fun j hj => fpSet_ne fun z => hj (by rw [z]; exact hi), fun j hj => List.getElem?_set_ne fun z => hj (by rw [← z]; exact hi)⟩ sP ⟨rv, List.nodup_nil, fun _ z => nomatch z⟩⟩
/-- what stands at a place, frozen where it is owned -/
def eAlP (i : Nat) (p : List Stp) : EM := fun env => match (T.at env i).bind (T.foc p) with
  | some u => if u.ow then eFzP i p env else .ok (u, env)
  | none => stk
theorem te_alP {Q : VK} (hi : i ∈ md) (h : TEof K ca md (eAlP i p) σ H Q) : tP K ca i p σ H Q := by
  obtain ⟨F, env, fp, t, env', s, e, k⟩ := h
  have e0 := e
  unfold eAlP at e
  split at e
  case h_2 => cases e
  case h_1 u eu =>
    split at e
    · exact te_fzP hi ⟨F, env, fp, t, env', s, e, k⟩
    · rename_i how
      refine te_p ⟨F, env, fp, t, env', s, ?_, k⟩
      unfold eP
      rw [eu]
      have : u.ow = false := by simpa using how
      simp only [this, Bool.not_false]
      exact e
def sFldA (i : Nat) (c x : Str) (f : EM) : SM := fun env => do
  let (y, env1) ← f env
  match T.at env i, y with
  | some (.obj d fs), .int n => match fs.lookup x with
    | some (.int m) => if d = c ∧ fs.length < 1000 then .ok (.nx, env1.set i (some (.obj c (putFT x (.int (m + n)) fs)))) else stk
    | _ => stk
  | _, _ => stk
def sSetKyP (i : Nat) (p : List Stp) (f g : EM) : SM := fun env => do
  let (x, env1) ← f env
  let (y, env2) ← g env1
  match T.at env i with
  | some t => match T.foc p t, keyT y with
    | some (.dct true ks), some j => do
      let _ ← ck (!T.owk ks && (!x.ow && decide (ks.length < big)))
      match T.upf p t (.dct true (putT ks j x)) with
      | some t' => .ok (.nx, env2.set i (some t'))
      | none => stk
    | _, _ => stk
  | none => stk
theorem sSetKyP_ok {f g : EM} {fl : Fl} {env' : En} (e : sSetKyP i p f g env = .ok (fl, env')) : ∃ x env1 y env2 t ks j t', f env = .ok (x, env1) ∧ g env1 = .ok (y, env2) ∧ T.at env i = some t ∧ T.foc p t = some (.dct true ks) ∧ keyT y = some j ∧ T.owk ks = false ∧ x.ow = false ∧ ks.length < big ∧
    T.upf p t (.dct true (putT ks j x)) = some t' ∧ fl = .nx ∧ env' = env2.set i (some t') := by
  obtain ⟨⟨x, env1⟩, e1, e⟩ := bind_ok e
  obtain ⟨⟨y, env2⟩, e2, e⟩ := bind_ok e
  dsimp only at e
  split at e
  case h_2 => cases e
  case h_1 t ha =>
  split at e
  case h_2 => cases e
  case h_1 ks j hf hk =>
  obtain ⟨_, c, e⟩ := bind_ok e
  have c := ck_ok c
  simp only [Bool.and_eq_true, Bool.not_eq_true', decide_eq_true_eq] at c
  split at e
  case h_2 => cases e
  case h_1 t' hu =>
    cases e
    exact ⟨x, env1, y, env2, t, ks, j, t', e1, e2, ha, hf, hk, c.1, c.2.1, c.2.2, hu, rfl, rfl⟩
/-- a slot that is not touched -/
theorem SR.still {env1 : En} {fp1 : Fp} {fv : List Addr} (s : SR K ca F H σ env fp) (hi : i ∉ md) (g1 : Go F H (OwM md fp) F' H' (fun a => OwM md fp1 a ∨ a ∈ fv)) (k1 : Keep md env fp env1 fp1) (s1 : SR K ca F' H' σ env1 fp1) : fp1 i = fp i ∧ ∀ a ∈ fp i, H' a = H a ∧ F' a = none := by
  have efp := k1.fp i hi
  refine ⟨efp, fun a ha => ?_⟩
  obtain ⟨q1, q2⟩ := s.alive a ⟨i, ha⟩
  refine ⟨?_, (s1.alive a ⟨i, by rw [efp]; exact ha⟩).2⟩
  cases w : H a with
  | none => exact absurd w q1
  | some o => exact g1.frame a o w fun ⟨j, hj, hj2⟩ => hi (by rw [s.one i j a ha hj2]; exact hj)
theorem ts_setKyP {pn : List Nat} {f g : EM} {D : Ends} (hi : i ∉ md) (h : TSof K ca pn (sSetKyP i p f g) D σ H) : tAsg (TEof K ca md f) (gSub (tP K ca i p) (TEof K ca md g) rSetD) D σ H := by
  obtain ⟨F, env, fp, fl, env', s, e, k⟩ := h
  obtain ⟨x, env1, y, env2, t, ks, j, t', e1, e2, ha, hf, hk, c1, c2, c3, hu, rfl, rfl⟩ := sSetKyP_ok e
  obtain ⟨v0, hv0, r⟩ := s.slot i _ (T.at_some ha)
  obtain ⟨w, fu, fr, c⟩ := Rep.foc p t _ r (s.nd i) hf
  refine ⟨F, env, fp, x, env1, s, e1, fun v H1 F1 fp1 fv g1 k1 s1 m1 => ?_⟩
  obtain ⟨ef1, al1⟩ := s.still hi g1 k1 s1
  have cA := c.go g1.ext al1
  refine ⟨v0, w, hv0, cA.via F1 H1 (Sub.refl F1) s1.sub (fun _ _ => rfl), F1, env1, fp1, y, env2, s1, e2, fun v2 H2 F2 fp2 fv2 g2 k2 s2 m2 => ?_⟩
  obtain ⟨ef2, al2⟩ := s1.still hi g2 k2 s2
  rw [ef1] at ef2 al2
  have cB := cA.go g2.ext al2
  obtain ⟨rfl, rfl⟩ := keyT_ok hk m2.rep
  have hfv := Rep.pure_fp x c2 m1.rep
  subst hfv
  have rx := m1.rep.of_go g2.nilr (fun _ z => absurd z (by simp))
  have r2 := cB.rep
  simp only [Rep] at r2
  obtain ⟨a, us, gg, rfl, h3, h4, h5, h6⟩ := r2
  have hgg := Repk.pure_fp ks c1 h5
  subst hgg h6
  refine ⟨a, _, rfl, DPut.k h3 (by rw [Repk.len h5]; exact Nat.lt_of_lt_of_le c3 (by decide)), ?_⟩
  have ga : Go F2 H2 (fun b => b ∈ [a] ∨ b ∈ ([] : List Addr)) F2 (upd H2 a (.dK (putK us j v))) (fun b => b ∈ [a] ∨ b ∈ ([] : List Addr)) := Go.write s2.sub (.inl List.mem_cons_self) h4 fun b z => .inl z
  have rN : Rep K ca F2 (upd H2 a (.dK (putK us j v))) (.dct true (putT ks j x)) (.ref a) [a] := by
    simp only [Rep]
    refine ⟨a, _, [], rfl, upd_same, h4, ?_, rfl⟩
    exact Repk.go (Sub.refl F2) _ (Repk.put0 rx h5) (fun _ z => absurd z (by simp)) (fun _ z => absurd z (by simp))
  have cC : Foc K ca F2 H2 p t (.dct true ks) v0 (.ref a) (fp2 i) [a] fr := by rw [ef2]; exact cB
  obtain ⟨f', sP, g3, _⟩ := s2.place hv0 cC ga (fun _ z => absurd z (by simp)) rN (by simp) (fun _ z => absurd z (by simp)) hu
  have g12 := ((g1.nilr).full0 k1).trans ((g2.nilr).full0 k2) (fun _ z => z) (P := Ow fp2) fun _ z => .inl z
  refine k σ _ F2 _ (g12.trans g3 (fun b z => z.elim (fun z => ⟨i, z⟩) (fun z => absurd z (by simp))) fun b z => ?_) sP Pin.refl
  rcases ow_fpSet z with z | z
  · exact .inr z
  · exact .inl (.inl z)
def eDisp1 (f : AM) : EM := fun env => do
  let (bs, env1) ← f env
  match bs with
  | [.tmp y, .tmp x] => match keyT y with
    | some k => .ok (.dct true [(k, x)], env1)
    | none => stk
  | _ => stk
def sStk : SM := fun _ => stk
def alsT (i : Nat) (p : List Stp) (j0 j j2 : Nat) (env : En) : Option En := match T.at env i with
  | some t => match T.foc p t with
    | some (.tup [x, .lst true xs, z]) => match T.upf p t (.tup [x, .hole, z]) with
      | some t' => if nhE env = true ∧ x.ow = false ∧ z.ow = false ∧ j0 < env.length ∧ j < env.length ∧ j2 < env.length then some ((((env.set i (some t')).set j (some (.lst true xs))).set j0 (some x)).set j2 (some z)) else none
      | none => none
    | _ => none
  | none => none
def sAlsT (i : Nat) (p : List Stp) (j0 j j2 : Nat) (s : SM) : SM := fun env => match alsT i p j0 j j2 env with
  | some env2 => do
    let (fl, env3) ← s env2
    match alsOut i (p ++ [.ix 1]) j fl env3 with
    | some env4 => .ok (fl, env4)
    | none => stk
  | none => stk
def alsO (i : Nat) (p : List Stp) (j : Nat) (x z : T) (env : En) : Option En := match T.at env i, T.at env j with
  | some t, some (.lst true xs) => match T.foc p t with
    | some (.lst true ys) => match T.upf p t (.lst true (ys ++ [.tup [x, .hole, z]])) with
      | some t' => if nhE env = true ∧ x.nh = true ∧ z.nh = true ∧ x.ow = false ∧ z.ow = false ∧ ys.length < big then some (env.set i (some t')) else none
      | none => none
    | _ => none
  | _, _ => none
def sAlsO (i : Nat) (p : List Stp) (j : Nat) (fx fz : EM) (s : SM) : SM := fun env => do
  let (x, env1) ← fx env
  let (z, _) ← fz env1
  match alsO i p j x z env with
  | some env2 => do
    let (fl, env3) ← s env2
    match alsOut i (p ++ [.ix (-1), .ix 1]) j fl env3 with
    | some env4 => .ok (fl, env4)
    | none => stk
  | none => stk
theorem Keep.all {env1 : En} {fp1 : Fp} (k : Keep [] env fp env1 fp1) : env1 = env ∧ fp1 = fp := ⟨List.ext_getElem? fun j => k.env j (by simp), funext fun j => k.fp j (by simp)⟩
end
section
variable {ca : Ca} {X : Cx} {md md0 tv pn : List Nat} {a b c e ek ex ez o value : Expr} {es : List Expr} {pos pos' tpos p apos cpos : Pos} {f g h fx fz : EM} {bf bg bh : BM} {af : AM} {x y z : Str} {i : Nat} {pt : List Stp} {rest body : List Stmt} {sf : SM}
theorem d_alP (ho : DP ca X i pt e) (hi : i ∈ md := by decide) : DE ca X md e (eAlP i pt) := PEm ho fun _ _ _ h => te_alP hi h
theorem s_setkyP (hu : X.A.units + 1 < cLine) (ho : DP ca X i pt o) (hi : DE ca X md b g) (hv : DE ca X md value f) (him : i ∉ md := by decide)
    (ha : ∀ v, assign (.Subscript o b pos') X.env v = (do
      let ov ← holding [v] (eval o X.env)
      let iv ← holding [v, ov] (eval b X.env)
      standAt pos'
      holding [v, ov, iv] (setItem ov iv v)
      release [v, ov, iv] []) := by intro _; rfl) (hs : swapsWithSole [.Subscript o b pos'] value pos.line X.env = pure false := by rfl) (hw : swappedStores [.Subscript o b pos'] value X.env = pure none := by rfl) (h1 : (assignEach [.Subscript o b pos'] X.env).map (·.2) = [assign (.Subscript o b pos') X.env] := by rfl) :
    DS ca X pn (.Assign [.Subscript o b pos'] value pos) (sSetKyP i pt f g) := PSm (ps_asg hv (pg_sub ho hi (set_dict hu) ha) hs hw h1) fun _ _ _ h => ts_setKyP him h
theorem s_raise {e c : Option Expr} : DS ca X pn (.Raise e c pos) sStk := ⟨fun pins s σ H D I h => by
  obtain ⟨F, env, fp, fl, env', s, e, k⟩ := h
  cases e⟩
end
section
variable {K : PySem.W.Frag} {ca : Ca} {σ : L2.St} {H F H' F' : Hp} {md md0 : List Nat} {env env' : En} {fp fp' : Fp} {P : Addr → Prop}
/-- a new instance asked -/
def eMethT (c m : Str) (g : Fn) (f : EM) : EM := fun env => do
  let (t, env1) ← f env
  match t with
  | .obj d fs => if d = c ∧ fs.lookup m = none then do
      let (t', _) ← g [.obj d fs]
      .ok (t', env1) else stk
  | _ => stk
end
def spOfD (K : PySem.W.Frag) (ca : Ca) (g : Fn) : Sp := fun vs H Q _ => ∃ F ts fi t out, SR K ca F H (vs.map some) (ts.map some) (fpI (some 0) fi) ∧ g ts = .ok (t, out) ∧
  ∀ v H' F' fv, Go F H (· ∈ fi) F' H' (· ∈ fv) → Rep K ca F' H' t v fv → fv.Nodup → Q v H'
section
variable {K : PySem.W.Frag} {ca : Ca} {F F' H H' : Hp} {vs : List V}
end
structure MthD (ca : Ca) (P : Program) (w : World) (K : PySem.W.Frag) (mg : Str → Option Value) (base : Heap) (lvl : Nat) (c m : Str) (ps : List Str) (g : Fn) : Prop where
  ex : ∃ f fd, Cls K (ca.cl c) ∧ Meth K (ca.cl c) m f ∧ FnG P w K mg base lvl f fd ps (spOfD K ca g) ∧ Binds K fd ps []
section
variable {K : PySem.W.Frag} {ca : Ca} {σ : L2.St} {H : Hp} {md : List Nat}
end
section
variable {ca : Ca} {X : Cx} {md md0 : List Nat} {e o : Expr} {pos p apos : Pos} {f : EM} {bf : BT} {c m : Str} {lvl k : Nat} {ps : List Str} {g : Fn}
end
section
variable {env e : En} {i j j0 j2 : Nat} {f g fx fz : EM} {af : AM} {s : SM} {t u : T} {o : Option T} {c d x y : Str} {fs : List (Str × T)} {p : List Stp} {ks : List (Key × T)} {k : Key} {m n : Int}
variable {Q : T × En → Prop} {QS : Fl × En → Prop}
theorem w_eP : wp (eP i p env) Q = opt ((look env i).bind (T.foc p)) fun u => u.ow = false ∧ Q (u, env) := by
  unfold eP
  rw [show T.at env i = look env i from rfl]
  cases (look env i).bind (T.foc p) with
  | none => exact we_stk
  | some t =>
    refine we_bind.trans ?_
    rw [we_ck, we_ok, opt_some]
    simp
def kAp (o : Option T) (i : Nat) (p : List Stp) (env : En) (Q : T × En → Prop) : T → Prop := fun u => if u.ow = true then u.nob = true ∧ opt (o.bind fun t => T.upf p t u.fz) (fun t' => Q (u.fz, env.set i (some t'))) else Q (u, env)
theorem kAp_ap : kAp o i p env Q u = if u.ow = true then u.nob = true ∧ opt (o.bind fun t => T.upf p t u.fz) (fun t' => Q (u.fz, env.set i (some t'))) else Q (u, env) := rfl
theorem w_eAlP : wp (eAlP i p env) Q = opt ((look env i).bind (T.foc p)) (kAp (look env i) i p env Q) := by
  unfold eAlP
  rw [show T.at env i = look env i from rfl]
  cases ho : look env i with
  | none => exact we_stk
  | some t =>
    rw [Option.bind_some]
    cases hf : T.foc p t with
    | none => exact we_stk
    | some u =>
      rw [opt_some, kAp_ap]
      show wp (if u.ow = true then eFzP i p env else Except.ok (u, env)) Q = _
      rw [we_ite, we_ok]
      congr 1
      unfold eFzP
      rw [show T.at env i = look env i from rfl, ho]
      simp only [hf]
      refine we_bind.trans ?_
      rw [we_ck, Option.bind_some]
      congr 1
      cases T.upf p t u.fz with
      | none => exact we_stk
      | some t' => exact we_ok
def faK2 (n : Int) (i : Nat) (c x d : Str) (fs : List (Str × T)) (e : En) (QS : Fl × En → Prop) : T → Prop := fun u => match u with
  | .int m => (d = c ∧ fs.length < 1000) ∧ QS (.nx, e.set i (some (.obj c (putFT x (.int (m + n)) fs))))
  | _ => False
theorem faK2_int : faK2 n i c x d fs e QS (.int m) = ((d = c ∧ fs.length < 1000) ∧ QS (.nx, e.set i (some (.obj c (putFT x (.int (m + n)) fs))))) := rfl
def faK (o : Option T) (y : T) (i : Nat) (c x : Str) (e : En) (QS : Fl × En → Prop) : Prop := match o, y with
  | some (.obj d fs), .int n => opt (fs.lookup x) (faK2 n i c x d fs e QS)
  | _, _ => False
theorem faK_some : faK (some (.obj d fs)) (.int n) i c x e QS = opt (fs.lookup x) (faK2 n i c x d fs e QS) := rfl
def kFA (o : Option T) (i : Nat) (c x : Str) (QS : Fl × En → Prop) : T × En → Prop := fun r => faK o r.1 i c x r.2 QS
theorem kFA_ap : kFA o i c x QS (t, e) = faK o t i c x e QS := rfl
theorem w_sFldA : wp (sFldA i c x f env) QS = wp (f env) (kFA (look env i) i c x QS) := we_bind.trans (by
  congr 1; funext ⟨y, e⟩
  rw [kFA_ap]
  dsimp only
  rw [show T.at env i = look env i from rfl]
  cases look env i with
  | none => exact we_stk
  | some o =>
    cases o with
    | obj d fs =>
      cases y with
      | int n =>
        rw [faK_some]
        dsimp only
        cases fs.lookup x with
        | none => exact we_stk
        | some u =>
          cases u with
          | int m =>
            rw [opt_some, faK2_int]
            dsimp only
            rw [we_ite, we_ok, we_stk]
            exact ite_F
          | _ => exact we_stk
      | _ => exact we_stk
    | _ => exact we_stk)
def kyP (o : Option T) (u : Option T) (k : Option Key) (i : Nat) (p : List Stp) (x : T) (e : En) (QS : Fl × En → Prop) : Prop := match u, k with
  | some (.dct true ks), some j => (T.owk ks = false ∧ x.ow = false ∧ ks.length < big) ∧ opt (o.bind fun t => T.upf p t (.dct true (putT ks j x))) fun t' => QS (.nx, e.set i (some t'))
  | _, _ => False
theorem kyP_some : kyP o (some (.dct true ks)) (some k) i p t e QS = ((T.owk ks = false ∧ t.ow = false ∧ ks.length < big) ∧ opt (o.bind fun u => T.upf p u (.dct true (putT ks k t))) fun t' => QS (.nx, e.set i (some t'))) := rfl
def kYP2 (o : Option T) (i : Nat) (p : List Stp) (x : T) (QS : Fl × En → Prop) : T × En → Prop := fun r => kyP o (o.bind (T.foc p)) (keyT r.1) i p x r.2 QS
theorem kYP2_ap {y : T} : kYP2 o i p t QS (y, e) = kyP o (o.bind (T.foc p)) (keyT y) i p t e QS := rfl
def kYP (o : Option T) (i : Nat) (p : List Stp) (g : EM) (QS : Fl × En → Prop) : T × En → Prop := fun r => wp (g r.2) (kYP2 o i p r.1 QS)
theorem kYP_ap : kYP o i p g QS (t, e) = wp (g e) (kYP2 o i p t QS) := rfl
theorem w_sSetKyP : wp (sSetKyP i p f g env) QS = wp (f env) (kYP (look env i) i p g QS) := we_bind.trans (by
  congr 1; funext ⟨x, e1⟩
  refine we_bind.trans ?_
  rw [kYP_ap]
  congr 1; funext ⟨y, e2⟩
  rw [kYP2_ap]
  dsimp only
  rw [show T.at env i = look env i from rfl]
  cases look env i with
  | none => exact we_stk
  | some t =>
    rw [Option.bind_some]
    dsimp only
    cases T.foc p t with
    | none => cases keyT y <;> exact we_stk
    | some u =>
      cases keyT y with
      | none => cases u <;> first | exact we_stk | (rename_i o _; cases o <;> exact we_stk)
      | some k =>
        cases u with
        | dct o ks =>
          cases o with
          | false => exact we_stk
          | true =>
            rw [kyP_some]
            refine we_bind.trans ?_
            rw [we_ck, Option.bind_some]
            refine propext ?_
            simp only [Bool.and_eq_true, Bool.not_eq_true', decide_eq_true_eq, and_assoc]
            cases T.upf p t (.dct true (putT ks k x)) with
            | none => simp [we_stk, opt_none]
            | some t' => simp [we_ok, opt_some]
        | lst o xs => cases o <;> exact we_stk
        | _ => exact we_stk)
def kD1 (Q : T × En → Prop) : List Bop × En → Prop := fun r => match r.1 with
  | [.tmp y, .tmp x] => opt (keyT y) fun k => Q (.dct true [(k, x)], r.2)
  | _ => False
theorem kD1_ap {y x : T} : kD1 Q ([.tmp y, .tmp x], e) = opt (keyT y) fun k => Q (.dct true [(k, x)], e) := rfl
theorem w_eDisp1 : wp (eDisp1 af env) Q = wp (af env) (kD1 Q) := we_bind.trans (by
  congr 1; funext ⟨bs, e⟩
  unfold kD1
  dsimp only
  split
  · rename_i y x
    cases keyT y with
    | none => exact we_stk
    | some k => exact we_ok
  · exact we_stk)
theorem w_sStk : wp (sStk env) QS = False := we_stk
theorem w_sAlsT : wp (sAlsT i p j0 j j2 s env) QS = opt (alsT i p j0 j j2 env) (kAl2 i (p ++ [.ix 1]) j s QS) := by
  unfold sAlsT
  cases alsT i p j0 j j2 env with
  | none => exact we_stk
  | some e2 =>
    refine we_bind.trans ?_
    show _ = wp (s e2) (kAl3 i (p ++ [.ix 1]) j QS)
    congr 1; funext ⟨fl, e3⟩
    show wp (match alsOut i (p ++ [.ix 1]) j fl e3 with | some env4 => Except.ok (fl, env4) | none => stk) QS = opt (alsOut i (p ++ [.ix 1]) j fl e3) (kAl4 fl QS)
    cases alsOut i (p ++ [.ix 1]) j fl e3 with
    | none => exact we_stk
    | some e4 => exact we_ok
def kAO2 (i : Nat) (p : List Stp) (j : Nat) (s : SM) (env : En) (QS : Fl × En → Prop) (x : T) : T × En → Prop := fun r => opt (alsO i p j x r.1 env) (kAl2 i (p ++ [.ix (-1), .ix 1]) j s QS)
theorem kAO2_ap {z : T} : kAO2 i p j s env QS t (z, e) = opt (alsO i p j t z env) (kAl2 i (p ++ [.ix (-1), .ix 1]) j s QS) := rfl
def kAO1 (i : Nat) (p : List Stp) (j : Nat) (fz : EM) (s : SM) (env : En) (QS : Fl × En → Prop) : T × En → Prop := fun r => wp (fz r.2) (kAO2 i p j s env QS r.1)
theorem kAO1_ap : kAO1 i p j fz s env QS (t, e) = wp (fz e) (kAO2 i p j s env QS t) := rfl
theorem w_sAlsO : wp (sAlsO i p j fx fz s env) QS = wp (fx env) (kAO1 i p j fz s env QS) := we_bind.trans (by
  congr 1; funext ⟨x, e1⟩
  refine we_bind.trans ?_
  rw [kAO1_ap]
  congr 1; funext ⟨z, e2⟩
  rw [kAO2_ap]
  dsimp only
  cases alsO i p j x z env with
  | none => exact we_stk
  | some e2 =>
    refine we_bind.trans ?_
    show _ = wp (s e2) (kAl3 i (p ++ [.ix (-1), .ix 1]) j QS)
    congr 1; funext ⟨fl, e3⟩
    show wp (match alsOut i (p ++ [.ix (-1), .ix 1]) j fl e3 with | some env4 => Except.ok (fl, env4) | none => stk) QS = opt (alsOut i (p ++ [.ix (-1), .ix 1]) j fl e3) (kAl4 fl QS)
    cases alsOut i (p ++ [.ix (-1), .ix 1]) j fl e3 with
    | none => exact we_stk
    | some e4 => exact we_ok)
def kMT2 (e : En) (Q : T × En → Prop) : T × Option T → Prop := fun r => Q (r.1, e)
theorem kMT2_ap {o : Option T} : kMT2 e Q (t, o) = Q (t, e) := rfl
def kMT (c m : Str) (gf : Fn) (Q : T × En → Prop) : T × En → Prop := fun r => match r.1 with
  | .obj d fs => (d = c ∧ fs.lookup m = none) ∧ wp (gf [.obj d fs]) (kMT2 r.2 Q)
  | _ => False
theorem kMT_ap {m : Str} {gf : Fn} : kMT c m gf Q (.obj d fs, e) = ((d = c ∧ fs.lookup m = none) ∧ wp (gf [.obj d fs]) (kMT2 e Q)) := rfl
theorem w_eMethT {m : Str} {gf : Fn} : wp (eMethT c m gf f env) Q = wp (f env) (kMT c m gf Q) := we_bind.trans (by
  congr 1; funext ⟨t, e⟩
  cases t with
  | obj d fs =>
    rw [kMT_ap]
    show wp (if d = c ∧ fs.lookup m = none then gf [.obj d fs] >>= fun p => Except.ok (p.1, e) else stk) Q = _
    rw [we_ite, we_stk, we_bind]
    refine ite_F.trans ?_
    congr 2; funext ⟨t, o⟩
    exact we_ok
  | _ => exact we_stk)
end
theorem sP : type_of% (And.intro (And.intro (And.intro (And.intro (@w_eP) (@w_eAlP)) (And.intro (@kAp_ap) (And.intro (@w_sFldA) (@kFA_ap)))) (And.intro (And.intro (@faK_some) (@faK2_int)) (And.intro (@w_sSetKyP) (And.intro (@kYP_ap) (@kYP2_ap))))) (And.intro (And.intro (And.intro (@kyP_some) (@w_eDisp1)) (And.intro (@kD1_ap) (And.intro (@w_sStk) (@w_sAlsT)))) (And.intro (And.intro (@w_sAlsO) (And.intro (@kAO1_ap) (@kAO2_ap))) (And.intro (@w_eMethT) (And.intro (@kMT_ap) (@kMT2_ap)))))) := And.intro (And.intro (And.intro (And.intro (@w_eP) (@w_eAlP)) (And.intro (@kAp_ap) (And.intro (@w_sFldA) (@kFA_ap)))) (And.intro (And.intro (@faK_some) (@faK2_int)) (And.intro (@w_sSetKyP) (And.intro (@kYP_ap) (@kYP2_ap))))) (And.intro (And.intro (And.intro (@kyP_some) (@w_eDisp1)) (And.intro (@kD1_ap) (And.intro (@w_sStk) (@w_sAlsT)))) (And.intro (And.intro (@w_sAlsO) (And.intro (@kAO1_ap) (@kAO2_ap))) (And.intro (@w_eMethT) (And.intro (@kMT_ap) (@kMT2_ap)))))
end QL
namespace QL
open PySem L2 RZ PyProof.Rows
def mx3 (a b c : Int) : Int := if b > a then (if c > b then c else b) else (if c > a then c else a)
def oMax3 : List T → R T
  | [.int i, .int j, .int k] => .ok (.int (mx3 i j k))
  | _ => stk
end QL
namespace SrtT
open PySem PySem.Spec PyProof.Rows SrtO
open Sem (wp)
section
variable {prog : Program} {w : World} {A : Around} {E : Value → Shared → Prop} {s : Shared}
end
end SrtT
namespace QL
open PySem L2 RZ PyProof.Rows
def rSrtT (K : PySem.W.Frag) : List V → Hp → VK → Prop := fun vs H Q => ∃ (a : Addr) (ns : List Int), vs = [V.ref a] ∧ SqT K H a (ns.map V.int) ∧
  ∀ (ms : List Int) (p : Addr), ms.Perm ns → ms.Pairwise (· ≤ ·) → H p = none → Q (.ref p) (upd H p (.lst (ms.map V.int)))
def oSrtT : List T → R T
  | [.tup xs] => match intsOf xs with
    | some ns => .ok (.lst true ((ns.mergeSort (fun a b => decide (a ≤ b))).map T.int))
    | none => stk
  | _ => stk
end QL
namespace QL
open PySem L2 RZ PyProof.Rows

def Bop.isL : Bop → Bool
  | .tmp (.lst _ _) => true
  | .br (.lst _ _) _ => true
  | _ => false
def bL (f : BM) : BM := fun env => do
  let (b, env1) ← f env
  let _ ← ck b.isL
  .ok (b, env1)
section
variable {K : PySem.W.Frag} {ca : Ca} {σ : L2.St} {H : Hp} {md : List Nat}
theorem tb_l {f : BM} {Q : VK} (h : TBof K ca md (bL f) σ H Q) : TBof K ca md f σ H (fun y H1 => (∃ p us, y = .ref p ∧ SqL K H1 p us) ∧ Q y H1) := by
  obtain ⟨F, env, fp, b, env', s, e, k⟩ := h
  obtain ⟨⟨b1, env1⟩, e1, e⟩ := bind_ok e
  obtain ⟨_, c, e⟩ := bind_ok e
  have c := ck_ok c
  cases e
  refine ⟨F, env, fp, b, env', s, e1, fun v H' F' fp' ft g kp s' o n d => ⟨?_, k v H' F' fp' ft g kp s' o n d⟩⟩
  simp only [Ops] at o
  obtain ⟨v', us, f1, f2, h1, r, _⟩ := o
  cases h1
  unfold Bop.isL at c
  have one : ∀ (o : Bool) (xs : List T) (F' H' : Hp) (v : V) (fp : List Addr), Sub F' H' → Rep K ca F' H' (.lst o xs) v fp → ∃ p us, v = .ref p ∧ SqL K H' p us := by
    intro o xs F' H' v fp sb r
    cases o with
    | false =>
      simp only [Rep] at r
      obtain ⟨a, ws, rfl, q, _⟩ := r
      exact ⟨a, ws, rfl, SqL.of (sb _ _ q)⟩
    | true =>
      simp only [Rep] at r
      obtain ⟨a, ws, _, rfl, q, _⟩ := r
      exact ⟨a, ws, rfl, SqL.of q⟩
  split at c
  · simp only [Op1] at r
    exact one _ _ _ _ _ _ s'.sub r
  · simp only [Op1] at r
    obtain ⟨_, _, fb, r, _⟩ := r
    exact one _ _ _ _ _ _ s'.sub r
  · cases c
/-- the place of the first one -/
def oLIdx : List T → R T
  | [.lst _ xs, .int k] => match intsOf xs with
    | some ns => do
      let _ ← ck (decide (k ∈ ns))
      .ok (.int (ns.idxOf k : Nat))
    | none => stk
  | _ => stk
def rLIdx (K : PySem.W.Frag) : R2 := fun x y H Q => ∃ p k, ∃ ns : List Int, x = .ref p ∧ y = .int k ∧ SqL K H p (ns.map V.int) ∧ k ∈ ns ∧ Q (.int (ns.idxOf k : Nat)) H
theorem s_lidx : OpS K ca (rLIdx K) oLIdx := by
  intro F H ts vs f t Q s r nd e q
  unfold oLIdx at e
  split at e
  · rename_i o xs k
    split at e
    · rename_i ns hn
      obtain ⟨_, c, e⟩ := bind_ok e
      cases e
      obtain ⟨x, y, g1, g2, rfl, r1, r2, rfl⟩ := reps2 r
      simp only [Rep] at r2
      obtain ⟨rfl, rfl⟩ := r2
      obtain ⟨a, us, g, rfl, h1, h2, _⟩ := r1.lst s (by simpa using nd)
      have h2 := intsOf_ok h2 hn
      subst h2
      exact ⟨_, _, rfl, a, k, ns, rfl, rfl, SqL.of h1, of_decide_eq_true (ck_ok c), give s (fun _ _ => rep_int) q⟩
    · cases e
  · cases e
end
section
variable {X : Cx} {a b : Expr} {ta tb : TE} {apos cpos : Pos} {md : List Nat} {ca : Ca} {bf bg : BM}
theorem mt_lidx : MtR X "list.index" (fun x xs H Q => ∃ y, xs = [y] ∧ rLIdx X.K x y H Q) := by
  rintro pins s σ H x xs v us Q I rx rs ⟨y, rfl, p, k, ns, rfl, rfl, hq, hk, q⟩
  cases rx
  obtain ⟨u, rfl, t, rfl⟩ := vals1 rs
  obtain ⟨its, rv, pl, few⟩ := I.list hq
  exact PySem.SeqAt.list_index_ints pl.isList rv.ints (by simpa using few) hk ⟨.int (ns.idxOf k : Nat), H, I.tok _, ⟨_, rfl⟩, q⟩
/-- o.index(e) -/
theorem pe_lidx (ha : PE X a ta) (hb : PE X b tb)
    (h1 : attributeBase a "index" X.env (eval a X.env) = eval a X.env) (h2 : ((backTo cpos (starEach [b] X.env)).all (fun x => !x.1) && (backToKw cpos (keywordEach [] X.env)).all (fun x => x.1.isSome)
      && decide (([b] : List Expr).length + ([] : List Keyword).length + (if ([] : List Keyword).isEmpty then 0 else 1) < 30)) = true)
    (h3 : (apos.endLine == cpos.line) = true) (h4 : starEach [b] X.env = [(false, eval b X.env)]) :
    PE X (.Call (.Attribute a "index" apos) [b] [] cpos) (fun σ H Q => ta σ H fun x H1 => (∃ p us, x = .ref p ∧ SqL X.K H1 p us) ∧ tb σ H1 fun y H2 => rLIdx X.K x y H2 Q) where
  run := by
    intro pins s σ H Q I h
    refine wpAny_Call_method_late h1 h2 h3 rfl (thn (ha.run pins s σ H _ I h) ?_)
    rintro v s1 ⟨_, H1, I1, rv, ⟨p, us, rfl, hq⟩, q⟩
    cases rv
    obtain ⟨its, rv2, pl, few⟩ := I1.list hq
    refine ⟨"list", "list.index", PySem.F.plainAttrs_list, PySem.F.slot_list_index, PySem.F.type_list_index, ?g1, ?g2, ?_⟩
    case g1 =>
      obtain ⟨ob, z1, z2, _⟩ := pl.isList
      exact ⟨ob, z1, z2⟩
    case g2 =>
      intro a e
      cases e
      obtain ⟨ob, _, z1, _, z2, _⟩ := pl
      exact ⟨ob, z1, z2⟩
    have hA : wpAny (model X.prog X.w) X.A (spliced (backTo cpos (starEach [b] X.env))) (fun us s' => wpAny (model X.prog X.w) X.A (call (.builtin "list.index") (.ref p :: us)) (EP X pins σ Q) X.xe s') X.xe s1 :=
      args_cons (thn (hb.run pins s1 σ H1 _ I1 q) fun u s2 ⟨y, H2, I2, ru, q2⟩ => args_nil (mt_lidx pins s2 σ H2 (.ref p) [y] (.ref p) [u] Q I2 rfl (.cons ru .nil) ⟨y, rfl, q2⟩)) h4
    rw [h4] at hA ⊢
    exact Calls.callWith_builtin rfl (Calls.evalArgs_plain hA)
theorem d_lidx (ha : DB ca X md a bf) (hb : DB ca X md b bg)
    (h1 : attributeBase a "index" X.env (eval a X.env) = eval a X.env := by rfl) (h2 : ((backTo cpos (starEach [b] X.env)).all (fun x => !x.1) && (backToKw cpos (keywordEach [] X.env)).all (fun x => x.1.isSome)
      && decide (([b] : List Expr).length + ([] : List Keyword).length + (if ([] : List Keyword).isEmpty then 0 else 1) < 30)) = true := by rfl)
    (h3 : (apos.endLine == cpos.line) = true := by rfl) (h4 : starEach [b] X.env = [(false, eval b X.env)] := by rfl) :
    DE ca X md (.Call (.Attribute a "index" apos) [b] [] cpos) (eOp oLIdx (aCons (bL bf) (aCons bg aNil))) :=
  PEm (pe_lidx ha hb h1 h2 h3 h4) fun σ H Q h => by
    refine (tb_l (ta_cons (te_op (r := fun vs H Q => ∃ x y, vs = [x, y] ∧ rLIdx X.K x y H Q) s_lidx h))).mono fun x H1 ⟨h1, h2⟩ => ⟨h1, ?_⟩
    refine (ta_cons h2 : TBof X.K ca md bg σ H1 _).mono fun y H2 h3 => ?_
    obtain ⟨x', y', e, q⟩ := (ta_nil h3 : _)
    cases e
    exact q
end
def kBl (Q : Bop × En → Prop) : Bop × En → Prop := fun p => p.1.isL = true ∧ Q p
theorem kBl_ap {Q : Bop × En → Prop} {b : Bop} {e : En} : kBl Q (b, e) = (b.isL = true ∧ Q (b, e)) := rfl
theorem w_bL {f : BM} {env : En} {Q : Bop × En → Prop} : wp (bL f env) Q = wp (f env) (kBl Q) := by
  unfold bL
  rw [we_bind]
  congr 1
  funext p
  obtain ⟨b, e⟩ := p
  show wp ((ck b.isL) >>= fun _ => Except.ok (b, e)) Q = _
  rw [we_bind, we_ck, we_ok]
  rfl
theorem w_lidx {o : Bool} {ns : List Int} {k : Int} {P : T → Prop} : wp (oLIdx [.lst o (ns.map T.int), .int k]) P = (k ∈ ns ∧ P (.int (ns.idxOf k : Nat))) := by
  show wp (match intsOf (ns.map T.int) with
    | some ns => do
      let _ ← ck (decide (k ∈ ns))
      Except.ok (T.int (ns.idxOf k : Nat))
    | none => stk) P = _
  rw [intsOf_map]
  show wp (ck (decide (k ∈ ns)) >>= fun _ => Except.ok (T.int (ns.idxOf k : Nat))) P = _
  rw [we_bind, we_ck, we_ok, decide_eq_true_eq]
end QL
namespace QL
open PySem L2 RZ PyProof.Rows

def Bop.isS : Bop → Bool
  | .tmp (.str _) => true
  | .br (.str _) _ => true
  | _ => false
def bS (f : BM) : BM := fun env => do
  let (b, env1) ← f env
  let _ ← ck b.isS
  .ok (b, env1)
section
variable {K : PySem.W.Frag} {ca : Ca} {σ : L2.St} {H : Hp} {md : List Nat}
theorem tb_s {f : BM} {Q : VK} (h : TBof K ca md (bS f) σ H Q) : TBof K ca md f σ H (fun y H1 => (∃ a, y = .str a) ∧ Q y H1) := by
  obtain ⟨F, env, fp, b, env', s, e, k⟩ := h
  obtain ⟨⟨b1, env1⟩, e1, e⟩ := bind_ok e
  obtain ⟨_, c, e⟩ := bind_ok e
  have c := ck_ok c
  cases e
  refine ⟨F, env, fp, b, env', s, e1, fun v H' F' fp' ft g kp s' o n d => ⟨?_, k v H' F' fp' ft g kp s' o n d⟩⟩
  simp only [Ops] at o
  obtain ⟨v', us, f1, f2, h1, r, _⟩ := o
  cases h1
  unfold Bop.isS at c
  split at c
  · simp only [Op1, Rep] at r
    exact ⟨_, r.1⟩
  · simp only [Op1, Rep] at r
    obtain ⟨_, _, fb, r, _⟩ := r
    exact ⟨_, r.1⟩
  · cases c
/-- a.split(b) -/
def oSplit : List T → R T
  | [.str a, .str b] => do
    let _ ← ck (!(b.length == 0) && decide (a.length + 2 ≤ 16777216))
    .ok (.lst true ((Txt.split a b).map T.str))
  | _ => stk
def strsOf : List T → Option (List Str)
  | [] => some []
  | .str a :: ts => (strsOf ts).map (a :: ·)
  | _ :: _ => none
theorem strsOf_ok {K : PySem.W.Frag} {ca : Ca} {F H : Hp} : ∀ {ts : List T} {us : List V} {f : List Addr} {ys : List Str}, Reps K ca F H ts us f → strsOf ts = some ys → us = ys.map V.str
  | [], _, _, _, h, e => by cases e; simp only [Reps] at h; exact h.1
  | t :: ts, _, _, _, h, e => by
    simp only [Reps] at h
    obtain ⟨v, us, f, g, rfl, r, rs, rfl⟩ := h
    cases t with
    | str b =>
      obtain ⟨bs, e1, e⟩ := Option.map_eq_some_iff.mp e
      subst e
      simp only [Rep] at r
      rw [strsOf_ok rs e1, r.1]
      rfl
    | _ => cases e
/-- a.join(xs) -/
def oJoin : List T → R T
  | [.str a, .lst _ xs] => match strsOf xs with
    | some ys => do
      let _ ← ck (decide ((ys.map (·.length)).sum + ys.length * a.length ≤ 16777216))
      .ok (.str (Txt.join a ys))
    | none => stk
  | _ => stk
def rSplit1 : R2 := fun x y H Q => ∃ a b, x = .str a ∧ y = .str b ∧ (b.length == 0) = false ∧ a.length + 2 ≤ sizeLine ∧ rNewStrs (Txt.split a b) H Q
def rJoin1 (K : PySem.W.Frag) : R2 := fun x y H Q => ∃ a p, ∃ ys : List Str, x = .str a ∧ y = .ref p ∧ (SqL K H p (ys.map V.str) ∨ SqT K H p (ys.map V.str)) ∧ (ys.map (·.length)).sum + ys.length * a.length ≤ 16777216 ∧ Q (.str (Txt.join a ys)) H
theorem s_split : OpS K ca rSplit1 oSplit := by
  intro F H ts vs f t Q s r nd e q
  unfold oSplit at e
  split at e
  · rename_i a b
    obtain ⟨_, c, e⟩ := bind_ok e
    have c := ck_ok c
    simp only [Bool.and_eq_true, Bool.not_eq_true', decide_eq_true_eq] at c
    cases e
    obtain ⟨x, y, g1, g2, rfl, r1, r2, rfl⟩ := reps2 r
    simp only [Rep] at r1 r2
    obtain ⟨rfl, rfl⟩ := r1
    obtain ⟨rfl, rfl⟩ := r2
    refine ⟨_, _, rfl, a, b, rfl, rfl, c.1, c.2, fun p hp => ?_⟩
    exact newLst s hp reps_strs List.nodup_nil (fun _ z => absurd z (by simp)) q
  · cases e
theorem s_join : OpS K ca (rJoin1 K) oJoin := by
  intro F H ts vs f t Q s r nd e q
  unfold oJoin at e
  split at e
  · rename_i a o xs
    split at e
    · rename_i ys hn
      obtain ⟨_, c, e⟩ := bind_ok e
      cases e
      obtain ⟨x, y, g1, g2, rfl, r1, r2, rfl⟩ := reps2 r
      simp only [Rep] at r1
      obtain ⟨rfl, rfl⟩ := r1
      obtain ⟨p, us, g, rfl, h1, h2, _⟩ := r2.lst s (by simpa using nd)
      have h2 := strsOf_ok h2 hn
      subst h2
      exact ⟨_, _, rfl, a, p, ys, rfl, rfl, .inl (SqL.of h1), of_decide_eq_true (ck_ok c), give s (fun _ _ => rep_str) q⟩
    · cases e
  · cases e
/-- int(a) of a text -/
def oIntS : List T → R T
  | [.str a] => match PySem.intText? a with
    | some n => do
      let _ ← ck (decide (a.length ≤ 640))
      .ok (.int n)
    | none => stk
  | _ => stk
theorem s_intS : CallS K ca (fun xs H Q => ∃ a n, xs = [.str a] ∧ PySem.intText? a = some n ∧ a.length ≤ 640 ∧ Q (.int n) H) oIntS := by
  intro F H ts vs f t Q s r nd e q
  unfold oIntS at e
  split at e
  · split at e
    · rename_i a n hn
      obtain ⟨_, c, e⟩ := bind_ok e
      cases e
      obtain ⟨x, rfl, r1⟩ := reps1 r
      simp only [Rep] at r1
      obtain ⟨rfl, rfl⟩ := r1
      exact ⟨_, _, rfl, hn, of_decide_eq_true (ck_ok c), give s (fun _ _ => rep_int) q⟩
    · cases e
  · cases e
/-- a.index(b) of texts -/
def oSIdx : List T → R T
  | [.str a, .str b] => match Builtin.Str.occurrences a b 0 a.length 1 with
    | i :: _ => .ok (.int (i : Nat))
    | [] => stk
  | _ => stk
def rSIdx : R2 := fun x y H Q => ∃ a b i rest, x = .str a ∧ y = .str b ∧ Builtin.Str.occurrences a b 0 a.length 1 = i :: rest ∧ Q (.int (i : Nat)) H
theorem s_sidx : OpS K ca rSIdx oSIdx := by
  intro F H ts vs f t Q s r nd e q
  unfold oSIdx at e
  split at e
  · rename_i a b
    split at e
    · rename_i i rest hi
      cases e
      obtain ⟨x, y, g1, g2, rfl, r1, r2, rfl⟩ := reps2 r
      simp only [Rep] at r1 r2
      obtain ⟨rfl, rfl⟩ := r1
      obtain ⟨rfl, rfl⟩ := r2
      exact ⟨_, _, rfl, a, b, i, rest, rfl, rfl, hi, give s (fun _ _ => rep_int) q⟩
    · cases e
  · cases e
end
section
variable {X : Cx} {a b : Expr} {ta tb : TE} {apos cpos : Pos} {md : List Nat} {ca : Ca} {bf bg : BM}
theorem d_splitV (ha : DB ca X md a bf) (hb : DB ca X md b bg) (hs : starEach [b] X.env = [(false, eval b X.env)] := by rfl)
    (hbase : attributeBase a "split" X.env (eval a X.env) = eval a X.env := by rfl) (hline : (apos.endLine == cpos.line) = true := by rfl) :
    DE ca X md (.Call (.Attribute a "split" apos) [b] [] cpos) (eOp oSplit (aCons (bS bf) (aCons bg aNil))) :=
  PEm (pe_split ha hb hs hbase hline) fun σ H Q h => by
    refine (tb_s (ta_cons (te_op (r := fun vs H Q => ∃ x y, vs = [x, y] ∧ rSplit1 x y H Q) s_split h))).mono fun x H1 ⟨h1, h2⟩ => ⟨h1, ?_⟩
    refine (ta_cons h2 : TBof X.K ca md bg σ H1 _).mono fun y H2 h3 => ?_
    obtain ⟨x', y', e, q⟩ := (ta_nil h3 : _)
    cases e
    obtain ⟨a, b, rfl, rfl, q1, q2, q3⟩ := q
    exact ⟨a, b, rfl, rfl, q1, q2, q3⟩
theorem d_joinV (ha : DB ca X md a bf) (hb : DB ca X md b bg) (hs : starEach [b] X.env = [(false, eval b X.env)] := by rfl)
    (hbase : attributeBase a "join" X.env (eval a X.env) = eval a X.env := by rfl) (hline : (apos.endLine == cpos.line) = true := by rfl) :
    DE ca X md (.Call (.Attribute a "join" apos) [b] [] cpos) (eOp oJoin (aCons (bS bf) (aCons bg aNil))) :=
  PEm (pe_join ha hb hs hbase hline) fun σ H Q h => by
    refine (tb_s (ta_cons (te_op (r := fun vs H Q => ∃ x y, vs = [x, y] ∧ rJoin1 X.K x y H Q) s_join h))).mono fun x H1 ⟨h1, h2⟩ => ⟨h1, ?_⟩
    refine (ta_cons h2 : TBof X.K ca md bg σ H1 _).mono fun y H2 h3 => ?_
    obtain ⟨x', y', e, q⟩ := (ta_nil h3 : _)
    cases e
    obtain ⟨a, p, ys, rfl, rfl, q1, q2, q3⟩ := q
    exact ⟨a, p, ys, rfl, rfl, q1, q2, q3⟩
theorem d_sidx (ha : DB ca X md a bf) (hb : DB ca X md b bg) (hs : starEach [b] X.env = [(false, eval b X.env)] := by rfl)
    (hbase : attributeBase a "index" X.env (eval a X.env) = eval a X.env := by rfl) (hline : (apos.endLine == cpos.line) = true := by rfl) :
    DE ca X md (.Call (.Attribute a "index" apos) [b] [] cpos) (eOp oSIdx (aCons (bS bf) (aCons bg aNil))) :=
  PEm (pe_m1 PySem.F.slot_str_index PySem.F.type_str_index mt_sindex ha hb hs hbase hline) fun σ H Q h => by
    refine (tb_s (ta_cons (te_op (r := fun vs H Q => ∃ x y, vs = [x, y] ∧ rSIdx x y H Q) s_sidx h))).mono fun x H1 ⟨h1, h2⟩ => ⟨h1, ?_⟩
    refine (ta_cons h2 : TBof X.K ca md bg σ H1 _).mono fun y H2 h3 => ?_
    obtain ⟨x', y', e, q⟩ := (ta_nil h3 : _)
    cases e
    obtain ⟨a, b, i, rest, rfl, rfl, q1, q2⟩ := q
    exact ⟨a, b, i, rest, rfl, rfl, q1, q2⟩
end
theorem w_intS {a : Str} {n : Int} (h : PySem.intText? a = some n) {P : T → Prop} : wp (oIntS [.str a]) P = (a.length ≤ 640 ∧ P (.int n)) := by
  show wp (match PySem.intText? a with
    | some n => do
      let _ ← ck (decide (a.length ≤ 640))
      Except.ok (T.int n)
    | none => stk) P = _
  rw [h]
  show wp (ck _ >>= fun _ => Except.ok _) P = _
  rw [we_bind, we_ck, we_ok, decide_eq_true_eq]
theorem w_sidx {a b : Str} {i : Nat} {rest : List Nat} (h : Builtin.Str.occurrences a b 0 a.length 1 = i :: rest) {P : T → Prop} : wp (oSIdx [.str a, .str b]) P = P (.int (i : Nat)) := by
  show wp (match Builtin.Str.occurrences a b 0 a.length 1 with | i :: _ => Except.ok (T.int (i : Nat)) | [] => stk) P = _
  rw [h]
  exact we_ok
def kBs (Q : Bop × En → Prop) : Bop × En → Prop := fun p => p.1.isS = true ∧ Q p
theorem kBs_ap {Q : Bop × En → Prop} {b : Bop} {e : En} : kBs Q (b, e) = (b.isS = true ∧ Q (b, e)) := rfl
theorem w_bS {f : BM} {env : En} {Q : Bop × En → Prop} : wp (bS f env) Q = wp (f env) (kBs Q) := by
  unfold bS
  rw [we_bind]
  congr 1
  funext p
  obtain ⟨b, e⟩ := p
  show wp ((ck b.isS) >>= fun _ => Except.ok (b, e)) Q = _
  rw [we_bind, we_ck, we_ok]
  rfl
theorem isS_str {z : Str} : Bop.isS (.tmp (.str z)) = true := rfl
theorem isS_br {z : Str} {i : Nat} : Bop.isS (.br (.str z) i) = true := rfl
theorem strsOf_map {ys : List Str} : strsOf (ys.map T.str) = some ys := by
  induction ys with
  | nil => rfl
  | cons y ys ih => rw [List.map_cons, strsOf, ih, Option.map_some]
theorem w_split {a b : Str} {P : T → Prop} : wp (oSplit [.str a, .str b]) P = (((b.length == 0) = false ∧ a.length + 2 ≤ 16777216) ∧ P (.lst true ((Txt.split a b).map T.str))) := by
  show wp (ck _ >>= fun _ => Except.ok _) P = _
  rw [we_bind, we_ck, we_ok, Bool.and_eq_true, Bool.not_eq_true', decide_eq_true_eq]
theorem w_join {o : Bool} {a : Str} {ys : List Str} {P : T → Prop} : wp (oJoin [.str a, .lst o (ys.map T.str)]) P = ((ys.map (·.length)).sum + ys.length * a.length ≤ 16777216 ∧ P (.str (Txt.join a ys))) := by
  show wp (match strsOf (ys.map T.str) with
    | some ys => do
      let _ ← ck (decide ((ys.map (·.length)).sum + ys.length * a.length ≤ 16777216))
      Except.ok (T.str (Txt.join a ys))
    | none => stk) P = _
  rw [strsOf_map]
  show wp (ck _ >>= fun _ => Except.ok _) P = _
  rw [we_bind, we_ck, we_ok, decide_eq_true_eq]
end QL
namespace QL
open PySem L2 RZ PyProof.Rows

section
variable {X : Cx} {pins : List (Addr × Obj)} {σ : L2.St} {H : Hp} {s : Shared} {a b : Addr} {kvs more : List (Key × V)} {A : Around} {E : Value → Shared → Prop}
theorem d_updateOf {Q : Value → Shared → Prop} (I : Inv X pins σ H s) (e : H a = some (.dK kvs)) (e2 : Rd H b (.dK more)) (hne : a ≠ b) (hl : kvs.length + more.length ≤ sizeLine) (hl2 : (mergeK kvs more).length ≤ sizeLine) (h : ∀ s', Inv X pins σ (upd H a (.dK (mergeK kvs more))) s' → Q .none s') :
    wpAny (model X.prog X.w) A (call (.builtin "dict.update") [.ref a, .ref b]) Q E s := by
  obtain ⟨z, hd, vs, rel, dd⟩ := dk_of I.hok e
  obtain ⟨z2, hd2, ws, rel2, dd2⟩ := dk_rd I.hok e2
  refine call_meetsIn PySem.F.slot_dict_update dd.typeIs PySem.F.entry_dict_update (PySem.F.args_dict_update_2 _ _) (meets_dict_update (mixKind X.prog X.w) a b hne hd2) ⟨vs, ws, dd, dd2, by rw [← rel.length, ← rel2.length]; exact hl, fun h' dd' _ hs => h _ ?_⟩
  have he : ∃ q, h'.get? a = some q := let ⟨q, _, _, hq, _⟩ := dd'; ⟨q, hq⟩
  exact d_write (t' := s.toks) I (by rw [e]; exact True.intro) hs he (dk_new hl2 hd (KV.merge rel2 rel) dd')
def rUpd (K : PySem.W.Frag) : V → List V → Hp → VK → Prop := fun x xs H Q => ∃ a b kvs more, x = .ref a ∧ xs = [.ref b] ∧ a ≠ b ∧ H a = some (.dK kvs) ∧ Rd H b (.dK more) ∧ kvs.length + more.length ≤ sizeLine ∧ (mergeK kvs more).length ≤ sizeLine ∧ Q .non (upd H a (.dK (mergeK kvs more)))
theorem mt_dupdate : MtR X "dict.update" (rUpd X.K) := by
  rintro pins s σ H x xs v us Q I rx rs ⟨a, b, kvs, more, rfl, rfl, hne, e, e2, hl, hl2, q⟩
  cases rx
  rw [Vals.ref1 rs]
  exact d_updateOf I e e2 hne hl hl2 fun s' I' => ⟨.non, _, I', rfl, q⟩
end
section
variable {K : PySem.W.Frag} {ca : Ca} {F F' F1 H H' H1 : Hp} {σ : L2.St} {env : En} {fp : Fp} {t : T} {v : V} {md : List Nat}
theorem ty_dct (F H : Hp) (t : T) (v : V) (fv : List Addr) (h : t.isDct = true) (s : Sub F H) (r : Rep K ca F H t v fv) : tyV K "dict" v H := by
  cases t with
  | dct o xs =>
    cases o with
    | true =>
      simp only [Rep] at r
      obtain ⟨a, us, g, rfl, h1, _⟩ := r
      exact .inr (.inr (.inl ⟨rfl, .inl ⟨us, h1⟩⟩))
    | false => cases h
  | _ => cases h
def mUpd : T → List T → R (T × T)
  | .dct true ks, [.dct _ ms] => do
    let _ ← ck (!T.owk ks && (!T.owk ms && (decide (ks.length ≤ 1000) && decide (ms.length ≤ 1000))))
    .ok (.dct true (mergeT ks ms), .non)
  | _, _ => stk
theorem len_putK {ks : List (Key × V)} {k : Key} {v : V} : (putK ks k v).length ≤ ks.length + 1 := length_putK ks k v
theorem len_mergeK : ∀ {ms : List (Key × V)} {ks : List (Key × V)}, (mergeK ks ms).length ≤ ks.length + ms.length
  | [], ks => Nat.le_refl _
  | m :: ms, ks => by
    have h1 := len_mergeK (ms := ms) (ks := putK ks m.1 m.2)
    have h2 := len_putK (ks := ks) (k := m.1) (v := m.2)
    show (mergeK (putK ks m.1 m.2) ms).length ≤ _
    rw [List.length_cons]
    omega
theorem repk_len : ∀ {ts : List (Key × T)} {us : List (Key × V)} {f : List Addr}, Repk K ca F H ts us f → us.length = ts.length
  | [], _, _, h => by simp only [Repk] at h; rw [h.1]; rfl
  | (k, t) :: ts, _, _, h => by
    simp only [Repk] at h
    obtain ⟨v, us, f, g, rfl, _, r, _⟩ := h
    rw [List.length_cons, List.length_cons, repk_len r]
theorem s_upd : MutS K ca (rUpd K) mUpd := by
  intro F H t v fv ts vs ft t' u Q s r n rs ns d e q
  unfold mUpd at e
  split at e
  · rename_i ks o ms
    obtain ⟨_, c, e⟩ := bind_ok e
    have c := ck_ok c
    simp only [Bool.and_eq_true, Bool.not_eq_true', decide_eq_true_eq] at c
    obtain ⟨c1, c2, c3, c4⟩ := c
    cases e
    obtain ⟨y, rfl, ry⟩ := reps1 rs
    simp only [Rep] at r
    obtain ⟨a, us, g, rfl, h1, h2, h3, rfl⟩ := r
    have hg := Repk.pure_fp _ c1 h3
    subst hg
    have hb : ∃ b ws, y = .ref b ∧ a ≠ b ∧ Rd H b (.dK ws) ∧ Repk K ca F H ms ws [] := by
      cases o with
      | true =>
        simp only [Rep] at ry
        obtain ⟨b, ws, f, rfl, k1, k2, k3, rfl⟩ := ry
        have hf := Repk.pure_fp _ c2 k3
        subst hf
        exact ⟨b, ws, rfl, fun z => d a List.mem_cons_self (by rw [z]; exact List.mem_cons_self), .inl k1, k3⟩
      | false =>
        simp only [Rep] at ry
        obtain ⟨b, ws, rfl, k1, k3, rfl⟩ := ry
        refine ⟨b, ws, rfl, fun z => ?_, s.rd k1, k3⟩
        subst z
        rcases k1 with k1 | ⟨ob, k1⟩ <;> rw [h2] at k1 <;> cases k1
    obtain ⟨b, ws, rfl, hne, hb1, hb2⟩ := hb
    have e1 := repk_len h3
    have e2 := repk_len hb2
    have e3 := len_mergeK (ms := ws) (ks := us)
    have hbig : 2000 ≤ sizeLine := by rw [sizeLine_eq]; omega
    refine ⟨a, b, us, ws, rfl, rfl, hne, h1, hb1, by omega, by omega, ?_⟩
    have gw : Go F H (· = a) F (upd H a (.dK (mergeK us ws))) (fun _ => False) := Go.write s rfl h2 fun b z => z.elim
    have g0 : Go F H (fun b => b ∈ [a] ∨ b ∈ ft) F (upd H a (.dK (mergeK us ws))) (fun _ => False) := gw.weak (fun x z => .inl (by rw [z]; exact List.mem_cons_self)) fun _ z => z
    refine q .non _ F [a] [] ⟨g0.ext, g0.sub, g0.frame, g0.nofz, fun b z => ?_⟩ ?_ rep_non (by simp) List.nodup_nil (fun x hx => absurd hx (by simp))
    · rcases z with z | z
      · exact .inl (.inl z)
      · exact absurd z (by simp)
    · simp only [Rep]
      refine ⟨a, mergeK us ws, [], rfl, upd_same, h2, ?_, rfl⟩
      have hm := Repk.merge0 hb2 h3
      exact Repk.go (Sub.refl F) _ hm (fun _ z => absurd z (by simp)) (fun _ z => absurd z (by simp))
  · cases e
end
section
variable {X : Cx} {ca : Ca} {md : List Nat} {x name : Str} {p apos cpos : Pos} {e : Expr} {es : List Expr} {af : AM}
theorem d_mutD {id : String} {r : V → List V → Hp → VK → Prop} {m : T → List T → R (T × T)} (i : Nat) (slot : Slot "dict" name id) (hty : typeOf (.builtin id) = pure (.type "method_descriptor")) (hm : MtR X id r) (hs : MutS X.K ca r m) (md0 : List Nat) (ha : DA ca X md0 (e :: es) af)
    (hN : X.N[i]? = some x := by rfl) (him : i ∈ md := by decide) (hmd : ∀ j, j ∈ md0 → j ∈ md := by decide) (hi0 : i ∉ md0 := by decide) (hv : Vis X.env.scope x := by first | exact Or.inl rfl | exact Or.inr (Or.inl rfl) | exact Or.inr (Or.inr rfl)) (hd : (x == ("__debug__" : Str)) = false := by decide) (hcd : (x == ("__classdict__" : Str)) = false := by decide)
    (hbase : attributeBase (.Name x p) name X.env (eval (.Name x p) X.env) = eval (.Name x p) X.env := by rfl)
    (hfew : ((backTo cpos (starEach (e :: es) X.env)).all (fun x => !x.1) && (backToKw cpos (keywordEach [] X.env)).all (fun x => x.1.isSome)
      && decide ((e :: es).length + ([] : List Keyword).length + (if ([] : List Keyword).isEmpty then 0 else 1) < 30)) = true := by rfl)
    (hline : (apos.endLine == cpos.line) = true := by rfl) (hst : starEach (e :: es) X.env = (false, eval e X.env) :: starEach es X.env := by rfl) (hplain : (backTo cpos (starEach es X.env)).any (·.1) = false := by rfl) :
    DE ca X md (.Call (.Attribute (.Name x p) name apos) (e :: es) [] cpos) (eMut i T.isDct m af) :=
  PEm (pe_bm PySem.F.plainAttrs_dict slot hty hm (pv i hN hv hd hcd) ha hbase hfew hline hst hplain) fun _ _ _ h => te_mut him hmd hi0 hs ty_dct h
end
theorem w_mUpd {o : Bool} {ks ms : List (Key × T)} {P : T × T → Prop} : wp (mUpd (.dct true ks) [.dct o ms]) P = ((T.owk ks = false ∧ T.owk ms = false ∧ ks.length ≤ 1000 ∧ ms.length ≤ 1000) ∧ P (.dct true (mergeT ks ms), .non)) := by
  show wp (ck _ >>= fun _ => Except.ok _) P = _
  rw [we_bind, we_ck, we_ok]
  simp only [Bool.and_eq_true, Bool.not_eq_true', decide_eq_true_eq]
end QL
set_option maxHeartbeats 0
namespace NP
end NP
namespace Lk40
open PySem L2 QL NP
def top (i : Nat) : Stmt := PySem.Challenge.pw_nearpool_k40_texts_read.main.body.getD i (.Pass ⟨0, 0, 0, 0⟩)
def dGlob (x : Str) (st : Stmt) : He.DefD := ⟨(x, none), x, x, defArgs st, defBody st, defScope st, [], []⟩
def dMeth (c m : Str) (st : Stmt) : He.DefD := ⟨(c, some m), m, c ++ "." ++ m, defArgs st, defBody st, defScope st, [], []⟩
abbrev s_number_word : Stmt := top 10
abbrev s_register_word : Stmt := top 11
abbrev s_is_label : Stmt := top 12
abbrev s_part_word : Stmt := top 13
abbrev s_sorts_of : Stmt := top 14
abbrev s_row_read : Stmt := top 15
abbrev s_Reading_init : Stmt := inClass (top 16) 0
abbrev s_Reading_read : Stmt := inClass (top 16) 1
abbrev s_Reading_finished : Stmt := inClass (top 16) 2
abbrev s_rows_from : Stmt := top 17
abbrev s__law_cell_at : Stmt := top 19
abbrev s__law_tape : Stmt := top 20
abbrev s__law_take : Stmt := top 21
abbrev s__law_great : Stmt := top 22
abbrev s__law_rows : Stmt := top 23
abbrev s__law_same : Stmt := top 24
abbrev s__law_labels : Stmt := top 25
abbrev s__law_words : Stmt := top 26
abbrev s__law_any_labels : Stmt := top 27
abbrev s__law_text : Stmt := top 28
abbrev s_law : Stmt := top 29
def fn : List He.DefD := [dGlob "number_word" s_number_word, dGlob "register_word" s_register_word, dGlob "is_label" s_is_label, dGlob "part_word" s_part_word, dGlob "sorts_of" s_sorts_of, dGlob "row_read" s_row_read, dMeth "Reading" "__init__" s_Reading_init, dMeth "Reading" "read" s_Reading_read, dMeth "Reading" "finished" s_Reading_finished, dGlob "rows_from" s_rows_from, dGlob "_law_cell_at" s__law_cell_at, dGlob "_law_tape" s__law_tape, dGlob "_law_take" s__law_take, dGlob "_law_great" s__law_great, dGlob "_law_rows" s__law_rows, dGlob "_law_same" s__law_same, dGlob "_law_labels" s__law_labels, dGlob "_law_words" s__law_words, dGlob "_law_any_labels" s__law_any_labels, dGlob "_law_text" s__law_text, dGlob "law" s_law]
def fa : List He.Fa := [.glo "number_word", .glo "register_word", .glo "is_label", .glo "part_word", .glo "sorts_of", .glo "row_read", .glo "rows_from", .glo "_law_cell_at", .glo "_law_tape", .glo "_law_take", .glo "_law_great", .glo "_law_rows", .glo "_law_same", .glo "_law_labels", .glo "_law_words", .glo "_law_any_labels", .glo "_law_text", .glo "law", .free "abs", .free "all", .free "bool", .free "enumerate", .free "int", .free "isinstance", .free "len", .free "list", .free "max", .free "min", .free "range", .free "set", .free "sorted", .free "str", .free "tuple", .free "zip", .glo "Reading", .cls "Reading", .noat "Reading" "rows", .noat "Reading" "spots", .noat "Reading" "labels", .mkr "Reading", .meth "Reading" "read", .meth "Reading" "finished"]
def gl : List (Str × T) := [("FIGURES", .str "0123456789"), ("JUMPS", .tup [(.str "go"), (.str "nil")]), ("LETTERS", .str "abcdefghijklmnopqrstuvwxyz"), ("MOST_FIGURES", .int 8), ("MOST_LETTERS", .int 8), ("NAMES", .str "abcde")]
end Lk40
set_option maxHeartbeats 0
namespace Lk40
open PySem PySem.Spec PyProof.Rows L2 QL NP
def names0 : List PySem.Str := ["BadText", "FIGURES", "JUMPS", "LETTERS", "MOST_FIGURES", "MOST_LETTERS", "NAMES", "PoolError", "Reading", "__name__", "_law_any_labels", "_law_cell_at", "_law_great", "_law_labels", "_law_rows", "_law_same", "_law_take", "_law_tape", "_law_text", "_law_words", "is_label", "number_word", "part_word", "register_word", "row_read", "rows_from", "sorts_of"]
def names : List PySem.Str := names0
abbrev Rw : PySem.W.OpenRow := PySem.W.OpenLaw.row PySem.Challenge.rw_nearpool_k40_texts_read
abbrev hk : PySem.W.Hook := hookQ 5 fa gl fn
def ob (s : PySem.W.SharedT) : AlQ := obsQG 5 fa gl fn (HandSHeadRun.getT s)
theorem ob_eq (s : PySem.W.SharedT) : ob s = hk.obs s.abs := obsQG_eq (HandSHeadRun.getT_eq s)
theorem run (w : World) : HandSHeadRun.RunEq Rw (PySem.W.view Rw.prog [29]) hk ob 6000 names w := by
  intro os
  kernel_rfl
end Lk40
section
namespace NP
open PySem L2 QL
def b__law_cell_at : SM :=
  sRet (eIf (tV (eOp oLt (aCons (bV 1) (aCons (bE (eOp oLen (aCons (bV 0) (aNil)))) aNil)))) (eOp oIx (aCons (bV 0) (aCons (bV 1) aNil))) (eC (.int 0)))
def f__law_cell_at : Fn := fnN 2 2 none b__law_cell_at
def b__law_tape : SM :=
  sSeq (sAsg (eCall none none f__law_cell_at (aCons (bV 0) (aCons (bV 1) (aNil)))) (gN 2))
    (sRet (eLst (aCons (bE (eOp oMul (aCons (bE (eOp oAbs (aCons (bV 2) (aNil)))) (aCons (bE (eOp oInt (aCons (bE (eOp oGe (aCons (bE (eOp oAbs (aCons (bV 2) (aNil)))) (aCons (bE (eOp oPow (aCons (bE (eC (.int 10))) (aCons (bE (eC (.int 18))) aNil)))) aNil)))) (aNil)))) aNil)))) (aCons (bE (eOp oMod (aCons (bE (eOp oMul (aCons (bE (eOp oAdd (aCons (bE (eOp oAdd (aCons (bE (eOp oMod (aCons (bV 2) (aCons (bE (eC (.int 2147483647))) aNil)))) (aCons (bE (eOp oMul (aCons (bE (eC (.int 7121))) (aCons (bV 1) aNil)))) aNil)))) (aCons (bE (eC (.int 43))) aNil)))) (aCons (bE (eC (.int 48271))) aNil)))) (aCons (bE (eC (.int 2147483629))) aNil)))) (aCons (bE (eC (.int 0))) (aNil))))))
def f__law_tape : Fn := fnN 2 3 none b__law_tape
def b__law_take : SM :=
  sSeq (sIf (tV (eOp oGt (aCons (bE (eOp oIx (aCons (bV 0) (aCons (bE (eC (.int 0))) aNil)))) (aCons (bE (eC (.int 0))) aNil)))) (sSeq (sAsg (eOp oMod (aCons (bE (eOp oIx (aCons (bV 0) (aCons (bE (eC (.int 0))) aNil)))) (aCons (bV 1) aNil))) (gN 3))
    (sSeq (sSetIx 0 (eOp oFdiv (aCons (bE (eOp oIx (aCons (bV 0) (aCons (bE (eC (.int 0))) aNil)))) (aCons (bV 1) aNil))) (eC (.int 0)))
    (sRet (eVar 3)))) (sNil))
    (sSeq (sSetIx 0 (eOp oAdd (aCons (bE (eOp oIx (aCons (bV 0) (aCons (bE (eC (.int 2))) aNil)))) (aCons (bE (eC (.int 1))) aNil))) (eC (.int 2)))
    (sSeq (sAsg (eOp oMod (aCons (bE (eOp oMul (aCons (bE (eOp oAdd (aCons (bE (eOp oIx (aCons (bV 0) (aCons (bE (eC (.int 1))) aNil)))) (aCons (bE (eOp oMul (aCons (bE (eC (.int 39373))) (aCons (bE (eOp oIx (aCons (bV 0) (aCons (bE (eC (.int 2))) aNil)))) aNil)))) aNil)))) (aCons (bE (eOp oAdd (aCons (bE (eC (.int 48271))) (aCons (bE (eOp oIx (aCons (bV 0) (aCons (bE (eC (.int 2))) aNil)))) aNil)))) aNil)))) (aCons (bE (eC (.int 2147483647))) aNil))) (gN 2))
    (sSeq (sSetIx 0 (eOp oMod (aCons (bE (eOp oAdd (aCons (bE (eOp oMul (aCons (bV 2) (aCons (bE (eOp oAdd (aCons (bE (eOp oMod (aCons (bV 2) (aCons (bE (eC (.int 40009))) aNil)))) (aCons (bE (eC (.int 7))) aNil)))) aNil)))) (aCons (bE (eOp oIx (aCons (bV 0) (aCons (bE (eC (.int 2))) aNil)))) aNil)))) (aCons (bE (eC (.int 2147483629))) aNil))) (eC (.int 1)))
    (sRet (eOp oMod (aCons (bE (eOp oFdiv (aCons (bE (eOp oMod (aCons (bE (eOp oMul (aCons (bE (eOp oIx (aCons (bV 0) (aCons (bE (eC (.int 1))) aNil)))) (aCons (bE (eOp oAdd (aCons (bE (eOp oMod (aCons (bE (eOp oIx (aCons (bV 0) (aCons (bE (eC (.int 1))) aNil)))) (aCons (bE (eC (.int 1009))) aNil)))) (aCons (bE (eC (.int 3))) aNil)))) aNil)))) (aCons (bE (eC (.int 998244353))) aNil)))) (aCons (bE (eC (.int 7))) aNil)))) (aCons (bV 1) aNil)))))))
def f__law_take : Fn := fnN 2 4 (some 0) b__law_take
/-- a tape: what is left of a great number, the state, how often it was stirred -/
def Tp (n : Int) (t : T) : Prop := ∃ a b c : Int, t = .lst true [.int a, .int b, .int c] ∧ 0 ≤ a ∧ 0 ≤ b ∧ b < 2147483629 ∧ 0 ≤ c ∧ c ≤ n
theorem Tp.mono {n m : Int} {t : T} (h : Tp n t) (q : n ≤ m) : Tp m t := by
  obtain ⟨a, b, c, e, h1, h2, h3, h4, h5⟩ := h
  exact ⟨a, b, c, e, h1, h2, h3, h4, by omega⟩
theorem take_ok {n m : Int} {t : T} {Q : T × Option T → Prop} (h : Tp n t) (hn : n < 1000000000) (hm : 0 < m ∧ m < 1073741824) (q : ∀ i u, 0 ≤ i → i < m → Tp (n + 1) u → Q (.int i, some u)) : wp (f__law_take [t, .int m]) Q := by
  obtain ⟨a, b, c, rfl, ha, hb, hb2, hc, hc2⟩ := h
  unfold f__law_take b__law_take
  simp only [↓sA, sB, sC, if_true, if_false, forall_const, implies_true, forall_eq', false_imp_iff, oEq, oNe, eqT, oAdd, oNeg, oAbs, oMax2, oMin2, oInt, oLen, oIsN, oNotN, oIn, oNin, inT, eqF, oIsi, oIsi2, oList, oTuple, seqT, zp, enm, two, three, ioFind, ioCount, brOk, Bop.still, Bop.isI, T.ow, T.owl, T.nob, T.nobl, T.nfz, T.nfzl, T.fz, T.fzl, Bop.fit, Bop.res, Bop.bo, List.replicate, big, wipeE, reduceCtorEq, Nat.reduceAdd, Nat.reduceSub, Nat.reduceLT, Nat.reduceLeDiff, Int.reduceLT, Int.reduceLE, Int.reduceMul, Int.reducePow, Int.reduceToNat, Int.reduceAdd, Int.reduceSub, Int.reduceNeg, Int.reduceEq, Nat.reducePow, String.reduceEq]
  split
  · refine ⟨by omega, by omega, q _ _ (Int.emod_nonneg _ (by omega)) (Int.emod_lt_of_pos _ (by omega)) ⟨_, _, _, rfl, Int.ediv_nonneg (by omega) (by omega), by omega, by omega, by omega, by omega⟩⟩
  · generalize h1 : (b + 39373 * (c + 1)) * (48271 + (c + 1)) % 2147483647 = x
    generalize h2 : (x * (x % 40009 + 7) + (c + 1)) % 2147483629 = y
    exact ⟨by omega, by omega, by omega, by omega, q _ _ (Int.emod_nonneg _ (by omega)) (Int.emod_lt_of_pos _ (by omega)) ⟨_, _, _, rfl, by omega, by omega, by omega, by omega, by omega⟩⟩
/-- the script -/
def Scr (s : T) : Prop := ∃ xs : List Int, s = .lk (xs.map T.int) ∧ xs.length ≤ 63
theorem scr {ns : List Int} (h : ns.length ≤ 63) : Scr (.lk (ns.map T.int)) := ⟨ns, rfl, h⟩
theorem cell_ok {s : T} {k : Int} {Q : T × Option T → Prop} (h : Scr s) (hk : 0 ≤ k) (q : ∀ c : Int, Q (.int c, none)) : wp (f__law_cell_at [s, .int k]) Q := by
  obtain ⟨xs, rfl, h1⟩ := h
  unfold f__law_cell_at b__law_cell_at
  simp only [↓sA, sB, sC, if_true, if_false, forall_const, implies_true, forall_eq', false_imp_iff, oEq, oNe, eqT, oAdd, oNeg, oAbs, oMax2, oMin2, oInt, oLen, oIsN, oNotN, oIn, oNin, inT, eqF, oIsi, oIsi2, oList, oTuple, seqT, zp, enm, two, three, ioFind, ioCount, brOk, Bop.still, Bop.isI, T.ow, T.owl, T.nob, T.nobl, T.nfz, T.nfzl, T.fz, T.fzl, Bop.fit, Bop.res, Bop.bo, List.replicate, big, wipeE, reduceCtorEq, Nat.reduceAdd, Nat.reduceSub, Nat.reduceLT, Nat.reduceLeDiff, Int.reduceLT, Int.reduceLE, Int.reduceMul, Int.reducePow, Int.reduceToNat, Int.reduceAdd, Int.reduceSub, Int.reduceNeg, Int.reduceEq, Nat.reducePow, String.reduceEq]
  split
  · refine opt_at hk (by simpa using ‹_›) fun c hx _ => ?_
    simp only [↓sA, sB, sC, if_true, if_false, forall_const, implies_true, forall_eq', false_imp_iff, oEq, oNe, eqT, oAdd, oNeg, oAbs, oMax2, oMin2, oInt, oLen, oIsN, oNotN, oIn, oNin, inT, eqF, oIsi, oIsi2, oList, oTuple, seqT, zp, enm, two, three, ioFind, ioCount, brOk, Bop.still, Bop.isI, T.ow, T.owl, T.nob, T.nobl, T.nfz, T.nfzl, T.fz, T.fzl, Bop.fit, Bop.res, Bop.bo, List.replicate, big, wipeE, reduceCtorEq, Nat.reduceAdd, Nat.reduceSub, Nat.reduceLT, Nat.reduceLeDiff, Int.reduceLT, Int.reduceLE, Int.reduceMul, Int.reducePow, Int.reduceToNat, Int.reduceAdd, Int.reduceSub, Int.reduceNeg, Int.reduceEq, Nat.reducePow, String.reduceEq]
    exact q c
  · exact q 0
theorem tape_ok {s : T} {k : Int} {Q : T × Option T → Prop} (h : Scr s) (hk : 0 ≤ k ∧ k < 1000) (q : ∀ u, Tp 0 u → Q (u, none)) : wp (f__law_tape [s, .int k]) Q := by
  have h0 := h
  obtain ⟨xs, rfl, h1⟩ := h
  unfold f__law_tape b__law_tape
  simp only [↓sA, sB, sC, if_true, if_false, forall_const, implies_true, forall_eq', false_imp_iff, oEq, oNe, eqT, oAdd, oNeg, oAbs, oMax2, oMin2, oInt, oLen, oIsN, oNotN, oIn, oNin, inT, eqF, oIsi, oIsi2, oList, oTuple, seqT, zp, enm, two, three, ioFind, ioCount, brOk, Bop.still, Bop.isI, T.ow, T.owl, T.nob, T.nobl, T.nfz, T.nfzl, T.fz, T.fzl, Bop.fit, Bop.res, Bop.bo, List.replicate, big, wipeE, reduceCtorEq, Nat.reduceAdd, Nat.reduceSub, Nat.reduceLT, Nat.reduceLeDiff, Int.reduceLT, Int.reduceLE, Int.reduceMul, Int.reducePow, Int.reduceToNat, Int.reduceAdd, Int.reduceSub, Int.reduceNeg, Int.reduceEq, Nat.reducePow, String.reduceEq]
  refine cell_ok h0 hk.1 fun c => ?_
  simp only [↓sA, sB, sC, if_true, if_false, forall_const, implies_true, forall_eq', false_imp_iff, oEq, oNe, eqT, oAdd, oNeg, oAbs, oMax2, oMin2, oInt, oLen, oIsN, oNotN, oIn, oNin, inT, eqF, oIsi, oIsi2, oList, oTuple, seqT, zp, enm, two, three, ioFind, ioCount, brOk, Bop.still, Bop.isI, T.ow, T.owl, T.nob, T.nobl, T.nfz, T.nfzl, T.fz, T.fzl, Bop.fit, Bop.res, Bop.bo, List.replicate, big, wipeE, reduceCtorEq, Nat.reduceAdd, Nat.reduceSub, Nat.reduceLT, Nat.reduceLeDiff, Int.reduceLT, Int.reduceLE, Int.reduceMul, Int.reducePow, Int.reduceToNat, Int.reduceAdd, Int.reduceSub, Int.reduceNeg, Int.reduceEq, Nat.reducePow, String.reduceEq]
  refine ⟨?_, q _ ⟨_, _, _, rfl, ?_, Int.emod_nonneg _ (by omega), Int.emod_lt_of_pos _ (by omega), by omega, by omega⟩⟩
  · right; split <;> omega
  · split <;> split <;> omega
end NP
end
section
namespace NP
open PySem QL
def b__law_great : SM :=
  sSeq (sAsg (eCall (some 0) (some 0) f__law_take (aCons (bIo 0) (aCons (bE (eC (.int 4))) (aNil)))) (gN 1))
    (sSeq (sAsg (eOp oAdd (aCons (bE (eC (.int 100))) (aCons (bE (eCall (some 0) (some 0) f__law_take (aCons (bIo 0) (aCons (bE (eC (.int 99999900))) (aNil))))) aNil))) (gN 2))
    (sRet (eOp oIx (aCons (bE (eLst (aCons (bE (eOp oIx (aCons (bE (eLst (aCons (bE (eC (.int 100))) (aCons (bE (eC (.int 101))) (aCons (bE (eC (.int 12345))) (aCons (bE (eC (.int 10000))) (aCons (bE (eC (.int 9999))) (aNil)))))))) (aCons (bE (eCall (some 0) (some 0) f__law_take (aCons (bIo 0) (aCons (bE (eC (.int 5))) (aNil))))) aNil)))) (aCons (bE (eOp oAdd (aCons (bE (eC (.int 100))) (aCons (bE (eCall (some 0) (some 0) f__law_take (aCons (bIo 0) (aCons (bE (eC (.int 6))) (aNil))))) aNil)))) (aCons (bE (eVar 2)) (aCons (bE (eC (.int 99999999))) (aNil))))))) (aCons (bV 1) aNil)))))
def f__law_great : Fn := fnN 1 3 (some 0) b__law_great
def b__law_rows : SM :=
  sSeq (sAsg (eIf (tV (eOp oEq (aCons (bE (eCall (some 0) (some 0) f__law_take (aCons (bIo 0) (aCons (bE (eC (.int 8))) (aNil))))) (aCons (bE (eC (.int 0))) aNil)))) (eOp oAdd (aCons (bE (eC (.int 20))) (aCons (bE (eCall (some 0) (some 0) f__law_take (aCons (bIo 0) (aCons (bE (eC (.int 41))) (aNil))))) aNil))) (eCall (some 0) (some 0) f__law_take (aCons (bIo 0) (aCons (bE (eC (.int 11))) (aNil))))) (gN 1))
    (sSeq (sAsg (eOp oIx (aCons (bE (eLst (aCons (bE (eC (.int 2))) (aCons (bE (eC (.int 5))) (aCons (bE (eC (.int 9))) (aNil)))))) (aCons (bE (eCall (some 0) (some 0) f__law_take (aCons (bIo 0) (aCons (bE (eC (.int 3))) (aNil))))) aNil))) (gN 2))
    (sSeq (sAsg (eLst (aNil)) (gN 3))
    (sSeq (sFor (iRng rng1 (aCons (bV 1) (aNil))) (gN 4)
    (sSeq (sPar (aCons (bE (eCall (some 0) (some 0) f__law_take (aCons (bIo 0) (aCons (bE (eC (.int 10))) (aNil))))) (aCons (bE (eCall (some 0) (some 0) f__law_take (aCons (bIo 0) (aCons (bE (eC (.int 5))) (aNil))))) (aNil))) 5 8)
    (sSeq (sIf (tV (eOp oLt (aCons (bV 5) (aCons (bV 2) aNil)))) (sSeq (sDrop (eMut 3 T.isLst mAppend (aCons (bE (eTup (aCons (bE (eC (.str "set"))) (aCons (bE (eVar 8)) (aCons (bE (eCall (some 0) (some 0) f__law_great (aCons (bIo 0) (aNil)))) (aNil)))))) (aNil))))
    (sCont)) (sNil))
    (sSeq (sAsg (eCall (some 0) (some 0) f__law_take (aCons (bIo 0) (aCons (bE (eC (.int 9))) (aNil)))) (gN 5))
    (sSeq (sPar (aCons (bE (eCall (some 0) (some 0) f__law_take (aCons (bIo 0) (aCons (bE (eC (.int 5))) (aNil))))) (aCons (bE (eCall (some 0) (some 0) f__law_take (aCons (bIo 0) (aCons (bE (eOp oAdd (aCons (bV 1) (aCons (bE (eC (.int 1))) aNil)))) (aNil))))) (aNil))) 9 10)
    (sSeq (sAsg (eOp oMax2 (aCons (bE (eC (.int 0))) (aCons (bE (eOp oMin2 (aCons (bV 1) (aCons (bE (eOp oSub (aCons (bE (eOp oAdd (aCons (bV 4) (aCons (bE (eCall (some 0) (some 0) f__law_take (aCons (bIo 0) (aCons (bE (eC (.int 7))) (aNil))))) aNil)))) (aCons (bE (eC (.int 2))) aNil)))) (aNil))))) (aNil)))) (gN 6))
    (sSeq (sAsg (eLst (aCons (bE (eTup (aCons (bE (eC (.str "set"))) (aCons (bE (eVar 8)) (aCons (bE (eCall (some 0) (some 0) f__law_take (aCons (bIo 0) (aCons (bE (eC (.int 100))) (aNil))))) (aNil)))))) (aCons (bE (eTup (aCons (bE (eC (.str "sum"))) (aCons (bE (eVar 8)) (aCons (bE (eVar 9)) (aNil)))))) (aCons (bE (eTup (aCons (bE (eC (.str "less"))) (aCons (bE (eVar 8)) (aCons (bE (eVar 9)) (aNil)))))) (aCons (bE (eTup (aCons (bE (eC (.str "tell"))) (aCons (bE (eVar 8)) (aNil))))) (aCons (bE (eTup (aCons (bE (eC (.str "go"))) (aCons (bE (eVar 6)) (aNil))))) (aNil))))))) (gN 7))
    (sSeq (sAsg (eOp oAdd (aCons (bV 7) (aCons (bE (eLst (aCons (bE (eTup (aCons (bE (eC (.str "nil"))) (aCons (bE (eVar 8)) (aCons (bE (eVar 6)) (aNil)))))) (aCons (bE (eTup (aCons (bE (eC (.str "nil"))) (aCons (bE (eVar 8)) (aCons (bE (eVar 10)) (aNil)))))) (aCons (bE (eTup (aCons (bE (eC (.str "tell"))) (aCons (bE (eVar 8)) (aNil))))) (aCons (bE (eOp oIx (aCons (bE (eLst (aCons (bE (eTup (aCons (bE (eC (.str "go"))) (aCons (bE (eVar 10)) (aNil))))) (aCons (bE (eTup (aCons (bE (eC (.str "stop"))) (aNil)))) (aNil))))) (aCons (bE (eCall (some 0) (some 0) f__law_take (aCons (bIo 0) (aCons (bE (eC (.int 2))) (aNil))))) aNil)))) (aNil))))))) aNil))) (gN 7))
    (sDrop (eMut 3 T.isLst mAppend (aCons (bE (eOp oIx (aCons (bV 7) (aCons (bV 5) aNil)))) (aNil))))))))))))
    (sRet (eMv 3)))))
def f__law_rows : Fn := fnN 1 11 (some 0) b__law_rows
def b_is_great : SM :=
  sRet (eAnd (eOp oEq (aCons (bE (eOp oIx (aCons (bV 0) (aCons (bE (eC (.int 0))) aNil)))) (aCons (bE (eC (.str "set"))) aNil))) (eOp oGt (aCons (bE (eOp oIx (aCons (bV 0) (aCons (bE (eC (.int 2))) aNil)))) (aCons (bE (eC (.int 99))) aNil))))
def f_is_great : Fn := fnN 1 1 none b_is_great
def b_greats_of : SM :=
  sRet (eLc (iRng enm (aCons (bV 0) (aNil))) (gT 2 (gsC (gN 1) (gsC (gN 2) (gsN)))) (tV (eCall none none f_is_great (aCons (bV 2) (aNil)))) (eVar 1) [1, 2])
def f_greats_of : Fn := fnN 1 3 none b_greats_of
def b_jumps_of : SM :=
  sRet (eLc (iRng enm (aCons (bV 0) (aNil))) (gT 2 (gsC (gN 1) (gsC (gN 2) (gsN)))) (tV (eOp oIn (aCons (bE (eOp oIx (aCons (bV 2) (aCons (bE (eC (.int 0))) aNil)))) (aCons (bE (eC (.tup [(.str "go"), (.str "nil")]))) aNil)))) (eVar 1) [1, 2])
def f_jumps_of : Fn := fnN 1 3 none b_jumps_of
def b_falls : SM :=
  sRet (eOp oNin (aCons (bE (eOp oIx (aCons (bV 0) (aCons (bE (eC (.int 0))) aNil)))) (aCons (bE (eTup (aCons (bE (eC (.str "go"))) (aCons (bE (eC (.str "stop"))) (aNil))))) aNil)))
def f_falls : Fn := fnN 1 1 none b_falls
inductive Row where
  | set (r n : Int) | sum (r s : Int) | less (r s : Int) | tell (r : Int) | go (t : Int) | nil (r t : Int) | stop
  deriving DecidableEq
def Row.t : Row → T
  | .set r n => .tup [.str "set", .int r, .int n]
  | .sum r s => .tup [.str "sum", .int r, .int s]
  | .less r s => .tup [.str "less", .int r, .int s]
  | .tell r => .tup [.str "tell", .int r]
  | .go t => .tup [.str "go", .int t]
  | .nil r t => .tup [.str "nil", .int r, .int t]
  | .stop => .tup [.str "stop"]
def Row.ok (many : Int) : Row → Prop
  | .set r n => (0 ≤ r ∧ r < 5) ∧ 0 ≤ n ∧ n ≤ 99999999
  | .sum r s => (0 ≤ r ∧ r < 5) ∧ 0 ≤ s ∧ s < 5
  | .less r s => (0 ≤ r ∧ r < 5) ∧ 0 ≤ s ∧ s < 5
  | .tell r => 0 ≤ r ∧ r < 5
  | .go t => 0 ≤ t ∧ t ≤ many
  | .nil r t => (0 ≤ r ∧ r < 5) ∧ 0 ≤ t ∧ t ≤ many
  | .stop => True
theorem Row.ow {r : Row} : r.t.ow = false := by cases r <;> rfl
theorem Row.nob {r : Row} : r.t.nob = true := by cases r <;> rfl
theorem Row.nfz {r : Row} : r.t.nfz = true := by cases r <;> rfl
theorem Row.fz {r : Row} : r.t.fz = r.t := by cases r <;> rfl
def Row.great : Row → Bool
  | .set _ n => decide (99 < n)
  | _ => false
def Row.jump : Row → Bool
  | .go _ => true
  | .nil _ _ => true
  | _ => false
def Row.falls : Row → Bool
  | .go _ => false
  | .stop => false
  | _ => true
theorem great_ok {n : Int} {t : T} {Q : T × Option T → Prop} (h : Tp n t) (hn : n < 999990000) (q : ∀ g u, 100 ≤ g → g ≤ 99999999 → Tp (n + 4) u → Q (.int g, some u)) : wp (f__law_great [t]) Q := by
  unfold f__law_great b__law_great
  simp only [↓sA, sB, sC, if_true, if_false, forall_const, implies_true, forall_eq', false_imp_iff, oEq, oNe, eqT, oAdd, oNeg, oAbs, oMax2, oMin2, oInt, oLen, oIsN, oNotN, oIn, oNin, inT, eqF, oIsi, oIsi2, oList, oTuple, seqT, zp, enm, two, three, ioFind, ioCount, brOk, Bop.still, Bop.isI, T.ow, T.owl, T.nob, T.nobl, T.nfz, T.nfzl, T.fz, T.fzl, Bop.fit, Bop.res, Bop.bo, List.replicate, big, wipeE, reduceCtorEq, Nat.reduceAdd, Nat.reduceSub, Nat.reduceLT, Nat.reduceLeDiff, Int.reduceLT, Int.reduceLE, Int.reduceMul, Int.reducePow, Int.reduceToNat, Int.reduceAdd, Int.reduceSub, Int.reduceNeg, Int.reduceEq, Nat.reducePow, String.reduceEq]
  (repeat (refine take_ok (by assumption) (by omega) (by omega) ?_; intro _ _ _ _ _; simp only [↓sA, sB, sC, if_true, if_false, forall_const, implies_true, forall_eq', false_imp_iff, oEq, oNe, eqT, oAdd, oNeg, oAbs, oMax2, oMin2, oInt, oLen, oIsN, oNotN, oIn, oNin, inT, eqF, oIsi, oIsi2, oList, oTuple, seqT, zp, enm, two, three, ioFind, ioCount, brOk, Bop.still, Bop.isI, T.ow, T.owl, T.nob, T.nobl, T.nfz, T.nfzl, T.fz, T.fzl, Bop.fit, Bop.res, Bop.bo, List.replicate, big, wipeE, reduceCtorEq, Nat.reduceAdd, Nat.reduceSub, Nat.reduceLT, Nat.reduceLeDiff, Int.reduceLT, Int.reduceLE, Int.reduceMul, Int.reducePow, Int.reduceToNat, Int.reduceAdd, Int.reduceSub, Int.reduceNeg, Int.reduceEq, Nat.reducePow, String.reduceEq]))
  refine pickI (lo := 100) (hi := 12345) (by repeat (first | exact al_nil | refine al_cons ⟨_, rfl, by omega, by omega⟩ ?_)) (by omega) (by simp; omega) fun g1 _ _ => ?_
  simp only [↓sA, sB, sC, if_true, if_false, forall_const, implies_true, forall_eq', false_imp_iff, oEq, oNe, eqT, oAdd, oNeg, oAbs, oMax2, oMin2, oInt, oLen, oIsN, oNotN, oIn, oNin, inT, eqF, oIsi, oIsi2, oList, oTuple, seqT, zp, enm, two, three, ioFind, ioCount, brOk, Bop.still, Bop.isI, T.ow, T.owl, T.nob, T.nobl, T.nfz, T.nfzl, T.fz, T.fzl, Bop.fit, Bop.res, Bop.bo, List.replicate, big, wipeE, reduceCtorEq, Nat.reduceAdd, Nat.reduceSub, Nat.reduceLT, Nat.reduceLeDiff, Int.reduceLT, Int.reduceLE, Int.reduceMul, Int.reducePow, Int.reduceToNat, Int.reduceAdd, Int.reduceSub, Int.reduceNeg, Int.reduceEq, Nat.reducePow, String.reduceEq]
  (repeat (refine take_ok (by assumption) (by omega) (by omega) ?_; intro _ _ _ _ _; simp only [↓sA, sB, sC, if_true, if_false, forall_const, implies_true, forall_eq', false_imp_iff, oEq, oNe, eqT, oAdd, oNeg, oAbs, oMax2, oMin2, oInt, oLen, oIsN, oNotN, oIn, oNin, inT, eqF, oIsi, oIsi2, oList, oTuple, seqT, zp, enm, two, three, ioFind, ioCount, brOk, Bop.still, Bop.isI, T.ow, T.owl, T.nob, T.nobl, T.nfz, T.nfzl, T.fz, T.fzl, Bop.fit, Bop.res, Bop.bo, List.replicate, big, wipeE, reduceCtorEq, Nat.reduceAdd, Nat.reduceSub, Nat.reduceLT, Nat.reduceLeDiff, Int.reduceLT, Int.reduceLE, Int.reduceMul, Int.reducePow, Int.reduceToNat, Int.reduceAdd, Int.reduceSub, Int.reduceNeg, Int.reduceEq, Nat.reducePow, String.reduceEq]))
  refine pickI (lo := 100) (hi := 99999999) (by repeat (first | exact al_nil | refine al_cons ⟨_, rfl, by omega, by omega⟩ ?_)) (by omega) (by simp; omega) fun g _ _ => ?_
  simp only [↓sA, sB, sC, if_true, if_false, forall_const, implies_true, forall_eq', false_imp_iff, oEq, oNe, eqT, oAdd, oNeg, oAbs, oMax2, oMin2, oInt, oLen, oIsN, oNotN, oIn, oNin, inT, eqF, oIsi, oIsi2, oList, oTuple, seqT, zp, enm, two, three, ioFind, ioCount, brOk, Bop.still, Bop.isI, T.ow, T.owl, T.nob, T.nobl, T.nfz, T.nfzl, T.fz, T.fzl, Bop.fit, Bop.res, Bop.bo, List.replicate, big, wipeE, reduceCtorEq, Nat.reduceAdd, Nat.reduceSub, Nat.reduceLT, Nat.reduceLeDiff, Int.reduceLT, Int.reduceLE, Int.reduceMul, Int.reducePow, Int.reduceToNat, Int.reduceAdd, Int.reduceSub, Int.reduceNeg, Int.reduceEq, Nat.reducePow, String.reduceEq]
  exact q _ _ (by omega) (by omega) (Tp.mono (by assumption) (by omega))
/-- the rows that the laws draw -/
theorem rows_ok {n : Int} {t : T} {Q : T × Option T → Prop} (h : Tp n t) (hn : n < 999900000) (q : ∀ (rows : List Row) u, (∀ r, r ∈ rows → r.ok rows.length) → rows.length ≤ 60 → Tp (n + 2000) u → Q (.lst true (rows.map Row.t), some u)) : wp (f__law_rows [t]) Q := by
  unfold f__law_rows b__law_rows
  simp only [↓sA, sB, sC, if_true, if_false, forall_const, implies_true, forall_eq', false_imp_iff, oEq, oNe, eqT, oAdd, oNeg, oAbs, oMax2, oMin2, oInt, oLen, oIsN, oNotN, oIn, oNin, inT, eqF, oIsi, oIsi2, oList, oTuple, seqT, zp, enm, two, three, ioFind, ioCount, brOk, Bop.still, Bop.isI, T.ow, T.owl, T.nob, T.nobl, T.nfz, T.nfzl, T.fz, T.fzl, Bop.fit, Bop.res, Bop.bo, List.replicate, big, wipeE, reduceCtorEq, Nat.reduceAdd, Nat.reduceSub, Nat.reduceLT, Nat.reduceLeDiff, Int.reduceLT, Int.reduceLE, Int.reduceMul, Int.reducePow, Int.reduceToNat, Int.reduceAdd, Int.reduceSub, Int.reduceNeg, Int.reduceEq, Nat.reducePow, String.reduceEq]
  (refine take_ok (by assumption) (by omega) (by omega) ?_; intro _ _ _ _ _; simp only [↓sA, sB, sC, if_true, if_false, forall_const, implies_true, forall_eq', false_imp_iff, oEq, oNe, eqT, oAdd, oNeg, oAbs, oMax2, oMin2, oInt, oLen, oIsN, oNotN, oIn, oNin, inT, eqF, oIsi, oIsi2, oList, oTuple, seqT, zp, enm, two, three, ioFind, ioCount, brOk, Bop.still, Bop.isI, T.ow, T.owl, T.nob, T.nobl, T.nfz, T.nfzl, T.fz, T.fzl, Bop.fit, Bop.res, Bop.bo, List.replicate, big, wipeE, reduceCtorEq, Nat.reduceAdd, Nat.reduceSub, Nat.reduceLT, Nat.reduceLeDiff, Int.reduceLT, Int.reduceLE, Int.reduceMul, Int.reducePow, Int.reduceToNat, Int.reduceAdd, Int.reduceSub, Int.reduceNeg, Int.reduceEq, Nat.reducePow, String.reduceEq])
  generalize hK : kSeq _ (kF1 0 Q) = K
  have rest : ∀ (m : Int) (u : T), 0 ≤ m → m ≤ 60 → Tp (n + 2) u → K (.nx, [some u, some (.int m), none, none, none, none, none, none, none, none, none]) := by
    intro m u h0 h1 hu
    subst hK
    simp only [↓sA, sB, sC, if_true, if_false, forall_const, implies_true, forall_eq', false_imp_iff, oEq, oNe, eqT, oAdd, oNeg, oAbs, oMax2, oMin2, oInt, oLen, oIsN, oNotN, oIn, oNin, inT, eqF, oIsi, oIsi2, oList, oTuple, seqT, zp, enm, two, three, ioFind, ioCount, brOk, Bop.still, Bop.isI, T.ow, T.owl, T.nob, T.nobl, T.nfz, T.nfzl, T.fz, T.fzl, Bop.fit, Bop.res, Bop.bo, List.replicate, big, wipeE, reduceCtorEq, Nat.reduceAdd, Nat.reduceSub, Nat.reduceLT, Nat.reduceLeDiff, Int.reduceLT, Int.reduceLE, Int.reduceMul, Int.reducePow, Int.reduceToNat, Int.reduceAdd, Int.reduceSub, Int.reduceNeg, Int.reduceEq, Nat.reducePow, String.reduceEq]
    (refine take_ok (by assumption) (by omega) (by omega) ?_; intro _ _ _ _ _; simp only [↓sA, sB, sC, if_true, if_false, forall_const, implies_true, forall_eq', false_imp_iff, oEq, oNe, eqT, oAdd, oNeg, oAbs, oMax2, oMin2, oInt, oLen, oIsN, oNotN, oIn, oNin, inT, eqF, oIsi, oIsi2, oList, oTuple, seqT, zp, enm, two, three, ioFind, ioCount, brOk, Bop.still, Bop.isI, T.ow, T.owl, T.nob, T.nobl, T.nfz, T.nfzl, T.fz, T.fzl, Bop.fit, Bop.res, Bop.bo, List.replicate, big, wipeE, reduceCtorEq, Nat.reduceAdd, Nat.reduceSub, Nat.reduceLT, Nat.reduceLeDiff, Int.reduceLT, Int.reduceLE, Int.reduceMul, Int.reducePow, Int.reduceToNat, Int.reduceAdd, Int.reduceSub, Int.reduceNeg, Int.reduceEq, Nat.reducePow, String.reduceEq])
    refine pickI (lo := 2) (hi := 9) (by repeat (first | exact al_nil | refine al_cons ⟨_, rfl, by omega, by omega⟩ ?_)) (by omega) (by simp; omega) fun sh _ _ => ?_
    simp only [↓sA, sB, sC, if_true, if_false, forall_const, implies_true, forall_eq', false_imp_iff, oEq, oNe, eqT, oAdd, oNeg, oAbs, oMax2, oMin2, oInt, oLen, oIsN, oNotN, oIn, oNin, inT, eqF, oIsi, oIsi2, oList, oTuple, seqT, zp, enm, two, three, ioFind, ioCount, brOk, Bop.still, Bop.isI, T.ow, T.owl, T.nob, T.nobl, T.nfz, T.nfzl, T.fz, T.fzl, Bop.fit, Bop.res, Bop.bo, List.replicate, big, wipeE, reduceCtorEq, Nat.reduceAdd, Nat.reduceSub, Nat.reduceLT, Nat.reduceLeDiff, Int.reduceLT, Int.reduceLE, Int.reduceMul, Int.reducePow, Int.reduceToNat, Int.reduceAdd, Int.reduceSub, Int.reduceNeg, Int.reduceEq, Nat.reducePow, String.reduceEq]
    refine ⟨by omega, ?_⟩
    refine for_inv (fun d r e => ∃ u x4 x5 x6 x7 x8 x9 x10, ∃ made : List Row, made.length = d.length ∧ (∀ r, r ∈ made → r.ok m) ∧ Tp (n + 10 + 20 * d.length) u ∧
      e = [some u, some (.int m), some (.int sh), some (.lst true (made.map Row.t)), x4, x5, x6, x7, x8, x9, x10]) ⟨_, _, _, _, _, _, _, _, [], rfl, (fun _ z => nomatch z), Tp.mono (by assumption) (by simp; omega), rfl⟩ ?_ ?_
    · rintro d k r _ hd ⟨u, x4, x5, x6, x7, x8, x9, x10, made, hl, hok, hu, rfl⟩
      have hdl : d.length < 60 ∧ (k : Int) < m := by
        have h1' := congrArg List.length hd
        simp at h1'
        have h2 : k ∈ List.range m.toNat := by rw [hd]; simp
        have := List.mem_range.mp h2
        omega
      simp only [↓sA, sB, sC, if_true, if_false, forall_const, implies_true, forall_eq', false_imp_iff, oEq, oNe, eqT, oAdd, oNeg, oAbs, oMax2, oMin2, oInt, oLen, oIsN, oNotN, oIn, oNin, inT, eqF, oIsi, oIsi2, oList, oTuple, seqT, zp, enm, two, three, ioFind, ioCount, brOk, Bop.still, Bop.isI, T.ow, T.owl, T.nob, T.nobl, T.nfz, T.nfzl, T.fz, T.fzl, Bop.fit, Bop.res, Bop.bo, List.replicate, big, wipeE, reduceCtorEq, Nat.reduceAdd, Nat.reduceSub, Nat.reduceLT, Nat.reduceLeDiff, Int.reduceLT, Int.reduceLE, Int.reduceMul, Int.reducePow, Int.reduceToNat, Int.reduceAdd, Int.reduceSub, Int.reduceNeg, Int.reduceEq, Nat.reducePow, String.reduceEq]
      refine take_ok (by assumption) (by omega) (by omega) ?_; intro way _ _ _ _; simp only [↓sA, sB, sC, if_true, if_false, forall_const, implies_true, forall_eq', false_imp_iff, oEq, oNe, eqT, oAdd, oNeg, oAbs, oMax2, oMin2, oInt, oLen, oIsN, oNotN, oIn, oNin, inT, eqF, oIsi, oIsi2, oList, oTuple, seqT, zp, enm, two, three, ioFind, ioCount, brOk, Bop.still, Bop.isI, T.ow, T.owl, T.nob, T.nobl, T.nfz, T.nfzl, T.fz, T.fzl, Bop.fit, Bop.res, Bop.bo, List.replicate, big, wipeE, reduceCtorEq, Nat.reduceAdd, Nat.reduceSub, Nat.reduceLT, Nat.reduceLeDiff, Int.reduceLT, Int.reduceLE, Int.reduceMul, Int.reducePow, Int.reduceToNat, Int.reduceAdd, Int.reduceSub, Int.reduceNeg, Int.reduceEq, Nat.reducePow, String.reduceEq]
      refine take_ok (by assumption) (by omega) (by omega) ?_; intro rr _ hr1 hr2 _; simp only [↓sA, sB, sC, if_true, if_false, forall_const, implies_true, forall_eq', false_imp_iff, oEq, oNe, eqT, oAdd, oNeg, oAbs, oMax2, oMin2, oInt, oLen, oIsN, oNotN, oIn, oNin, inT, eqF, oIsi, oIsi2, oList, oTuple, seqT, zp, enm, two, three, ioFind, ioCount, brOk, Bop.still, Bop.isI, T.ow, T.owl, T.nob, T.nobl, T.nfz, T.nfzl, T.fz, T.fzl, Bop.fit, Bop.res, Bop.bo, List.replicate, big, wipeE, reduceCtorEq, Nat.reduceAdd, Nat.reduceSub, Nat.reduceLT, Nat.reduceLeDiff, Int.reduceLT, Int.reduceLE, Int.reduceMul, Int.reducePow, Int.reduceToNat, Int.reduceAdd, Int.reduceSub, Int.reduceNeg, Int.reduceEq, Nat.reducePow, String.reduceEq]
      have fin : ∀ (row : Row) (u : T) (x4 x5 x6 x7 x8 x9 x10 : Option T), row.ok m → Tp (n + 10 + 20 * d.length + 20) u → ∃ u' y4 y5 y6 y7 y8 y9 y10, ∃ made' : List Row, made'.length = d.length + 1 ∧ (∀ r, r ∈ made' → r.ok m) ∧ Tp (n + 10 + 20 * ((d.length + 1 : Nat) : Int)) u' ∧
          [some u, some (.int m), some (.int sh), some (.lst true (made.map Row.t ++ [row.t])), x4, x5, x6, x7, x8, x9, x10] = [some u', some (.int m), some (.int sh), some (.lst true (made'.map Row.t)), y4, y5, y6, y7, y8, y9, y10] := by
        intro row u x4 x5 x6 x7 x8 x9 x10 h1 h2
        refine ⟨u, x4, x5, x6, x7, x8, x9, x10, made ++ [row], by simp [hl], fun r hr => ?_, h2.mono (by omega), by simp⟩
        rcases List.mem_append.mp hr with z | z
        · exact hok r z
        · rw [List.mem_singleton.mp z]; exact h1
      split
      · refine great_ok (by assumption) (by omega) fun g u _ _ _ => ?_
        simp only [↓sA, sB, sC, if_true, if_false, forall_const, implies_true, forall_eq', false_imp_iff, oEq, oNe, eqT, oAdd, oNeg, oAbs, oMax2, oMin2, oInt, oLen, oIsN, oNotN, oIn, oNin, inT, eqF, oIsi, oIsi2, oList, oTuple, seqT, zp, enm, two, three, ioFind, ioCount, brOk, Bop.still, Bop.isI, T.ow, T.owl, T.nob, T.nobl, T.nfz, T.nfzl, T.fz, T.fzl, Bop.fit, Bop.res, Bop.bo, List.replicate, big, wipeE, reduceCtorEq, Nat.reduceAdd, Nat.reduceSub, Nat.reduceLT, Nat.reduceLeDiff, Int.reduceLT, Int.reduceLE, Int.reduceMul, Int.reducePow, Int.reduceToNat, Int.reduceAdd, Int.reduceSub, Int.reduceNeg, Int.reduceEq, Nat.reducePow, String.reduceEq]
        refine ⟨by omega, ?_⟩
        exact fin (.set rr g) _ _ _ _ _ _ _ _ ⟨⟨hr1, hr2⟩, by omega, by omega⟩ (Tp.mono (by assumption) (by omega))
      · refine take_ok (by assumption) (by omega) (by omega) ?_; intro w9 _ hw1 hw2 _; simp only [↓sA, sB, sC, if_true, if_false, forall_const, implies_true, forall_eq', false_imp_iff, oEq, oNe, eqT, oAdd, oNeg, oAbs, oMax2, oMin2, oInt, oLen, oIsN, oNotN, oIn, oNin, inT, eqF, oIsi, oIsi2, oList, oTuple, seqT, zp, enm, two, three, ioFind, ioCount, brOk, Bop.still, Bop.isI, T.ow, T.owl, T.nob, T.nobl, T.nfz, T.nfzl, T.fz, T.fzl, Bop.fit, Bop.res, Bop.bo, List.replicate, big, wipeE, reduceCtorEq, Nat.reduceAdd, Nat.reduceSub, Nat.reduceLT, Nat.reduceLeDiff, Int.reduceLT, Int.reduceLE, Int.reduceMul, Int.reducePow, Int.reduceToNat, Int.reduceAdd, Int.reduceSub, Int.reduceNeg, Int.reduceEq, Nat.reducePow, String.reduceEq]
        refine take_ok (by assumption) (by omega) (by omega) ?_; intro s5 _ hs1 hs2 _; simp only [↓sA, sB, sC, if_true, if_false, forall_const, implies_true, forall_eq', false_imp_iff, oEq, oNe, eqT, oAdd, oNeg, oAbs, oMax2, oMin2, oInt, oLen, oIsN, oNotN, oIn, oNin, inT, eqF, oIsi, oIsi2, oList, oTuple, seqT, zp, enm, two, three, ioFind, ioCount, brOk, Bop.still, Bop.isI, T.ow, T.owl, T.nob, T.nobl, T.nfz, T.nfzl, T.fz, T.fzl, Bop.fit, Bop.res, Bop.bo, List.replicate, big, wipeE, reduceCtorEq, Nat.reduceAdd, Nat.reduceSub, Nat.reduceLT, Nat.reduceLeDiff, Int.reduceLT, Int.reduceLE, Int.reduceMul, Int.reducePow, Int.reduceToNat, Int.reduceAdd, Int.reduceSub, Int.reduceNeg, Int.reduceEq, Nat.reducePow, String.reduceEq]
        refine take_ok (by assumption) (by omega) (by omega) ?_; intro tt _ ht1 ht2 _; simp only [↓sA, sB, sC, if_true, if_false, forall_const, implies_true, forall_eq', false_imp_iff, oEq, oNe, eqT, oAdd, oNeg, oAbs, oMax2, oMin2, oInt, oLen, oIsN, oNotN, oIn, oNin, inT, eqF, oIsi, oIsi2, oList, oTuple, seqT, zp, enm, two, three, ioFind, ioCount, brOk, Bop.still, Bop.isI, T.ow, T.owl, T.nob, T.nobl, T.nfz, T.nfzl, T.fz, T.fzl, Bop.fit, Bop.res, Bop.bo, List.replicate, big, wipeE, reduceCtorEq, Nat.reduceAdd, Nat.reduceSub, Nat.reduceLT, Nat.reduceLeDiff, Int.reduceLT, Int.reduceLE, Int.reduceMul, Int.reducePow, Int.reduceToNat, Int.reduceAdd, Int.reduceSub, Int.reduceNeg, Int.reduceEq, Nat.reducePow, String.reduceEq]
        refine take_ok (by assumption) (by omega) (by omega) ?_; intro n7 _ hn1 hn2 _; simp only [↓sA, sB, sC, if_true, if_false, forall_const, implies_true, forall_eq', false_imp_iff, oEq, oNe, eqT, oAdd, oNeg, oAbs, oMax2, oMin2, oInt, oLen, oIsN, oNotN, oIn, oNin, inT, eqF, oIsi, oIsi2, oList, oTuple, seqT, zp, enm, two, three, ioFind, ioCount, brOk, Bop.still, Bop.isI, T.ow, T.owl, T.nob, T.nobl, T.nfz, T.nfzl, T.fz, T.fzl, Bop.fit, Bop.res, Bop.bo, List.replicate, big, wipeE, reduceCtorEq, Nat.reduceAdd, Nat.reduceSub, Nat.reduceLT, Nat.reduceLeDiff, Int.reduceLT, Int.reduceLE, Int.reduceMul, Int.reducePow, Int.reduceToNat, Int.reduceAdd, Int.reduceSub, Int.reduceNeg, Int.reduceEq, Nat.reducePow, String.reduceEq]
        generalize hnr : (if (if (k : Int) + n7 - 2 < m then (k : Int) + n7 - 2 else m) > 0 then _ else (0 : Int)) = near
        have hnear : 0 ≤ near ∧ near ≤ m := by subst hnr; split <;> split <;> omega
        refine take_ok (by assumption) (by omega) (by omega) ?_; intro x100 _ hx1 hx2 _; simp only [↓sA, sB, sC, if_true, if_false, forall_const, implies_true, forall_eq', false_imp_iff, oEq, oNe, eqT, oAdd, oNeg, oAbs, oMax2, oMin2, oInt, oLen, oIsN, oNotN, oIn, oNin, inT, eqF, oIsi, oIsi2, oList, oTuple, seqT, zp, enm, two, three, ioFind, ioCount, brOk, Bop.still, Bop.isI, T.ow, T.owl, T.nob, T.nobl, T.nfz, T.nfzl, T.fz, T.fzl, Bop.fit, Bop.res, Bop.bo, List.replicate, big, wipeE, reduceCtorEq, Nat.reduceAdd, Nat.reduceSub, Nat.reduceLT, Nat.reduceLeDiff, Int.reduceLT, Int.reduceLE, Int.reduceMul, Int.reducePow, Int.reduceToNat, Int.reduceAdd, Int.reduceSub, Int.reduceNeg, Int.reduceEq, Nat.reducePow, String.reduceEq]
        refine take_ok (by assumption) (by omega) (by omega) ?_; intro b2 _ hb1 hb2 _; simp only [↓sA, sB, sC, if_true, if_false, forall_const, implies_true, forall_eq', false_imp_iff, oEq, oNe, eqT, oAdd, oNeg, oAbs, oMax2, oMin2, oInt, oLen, oIsN, oNotN, oIn, oNin, inT, eqF, oIsi, oIsi2, oList, oTuple, seqT, zp, enm, two, three, ioFind, ioCount, brOk, Bop.still, Bop.isI, T.ow, T.owl, T.nob, T.nobl, T.nfz, T.nfzl, T.fz, T.fzl, Bop.fit, Bop.res, Bop.bo, List.replicate, big, wipeE, reduceCtorEq, Nat.reduceAdd, Nat.reduceSub, Nat.reduceLT, Nat.reduceLeDiff, Int.reduceLT, Int.reduceLE, Int.reduceMul, Int.reducePow, Int.reduceToNat, Int.reduceAdd, Int.reduceSub, Int.reduceNeg, Int.reduceEq, Nat.reducePow, String.reduceEq]
        refine pick (fun t => ∃ row : Row, t = row.t ∧ row.ok m) (al_cons ⟨.go tt, rfl, by omega, by omega⟩ (al_cons ⟨.stop, rfl, trivial⟩ al_nil)) (by omega) (by simp; omega) ?_
        rintro _ ⟨rw1, rfl, hrw⟩
        simp only [↓sA, sB, sC, if_true, if_false, forall_const, implies_true, forall_eq', false_imp_iff, oEq, oNe, eqT, oAdd, oNeg, oAbs, oMax2, oMin2, oInt, oLen, oIsN, oNotN, oIn, oNin, inT, eqF, oIsi, oIsi2, oList, oTuple, seqT, zp, enm, two, three, ioFind, ioCount, brOk, Bop.still, Bop.isI, T.ow, T.owl, T.nob, T.nobl, T.nfz, T.nfzl, T.fz, T.fzl, Bop.fit, Bop.res, Bop.bo, List.replicate, big, wipeE, reduceCtorEq, Nat.reduceAdd, Nat.reduceSub, Nat.reduceLT, Nat.reduceLeDiff, Int.reduceLT, Int.reduceLE, Int.reduceMul, Int.reducePow, Int.reduceToNat, Int.reduceAdd, Int.reduceSub, Int.reduceNeg, Int.reduceEq, Nat.reducePow, String.reduceEq, Row.ow, Row.nob, Row.nfz, Row.fz]
        refine pick (fun t => ∃ row : Row, t = row.t ∧ row.ok m) (al_cons ⟨.set rr x100, rfl, ⟨hr1, hr2⟩, by omega, by omega⟩ (al_cons ⟨.sum rr s5, rfl, ⟨hr1, hr2⟩, hs1, hs2⟩ (al_cons ⟨.less rr s5, rfl, ⟨hr1, hr2⟩, hs1, hs2⟩ (al_cons ⟨.tell rr, rfl, hr1, hr2⟩
          (al_cons ⟨.go near, rfl, hnear⟩ (al_cons ⟨.nil rr near, rfl, ⟨hr1, hr2⟩, hnear⟩ (al_cons ⟨.nil rr tt, rfl, ⟨hr1, hr2⟩, by omega, by omega⟩ (al_cons ⟨.tell rr, rfl, hr1, hr2⟩ (al_cons ⟨rw1, rfl, hrw⟩ al_nil))))))))) (by omega) (by simp; omega) ?_
        rintro _ ⟨rw2, rfl, hrw2⟩
        simp only [↓sA, sB, sC, if_true, if_false, forall_const, implies_true, forall_eq', false_imp_iff, oEq, oNe, eqT, oAdd, oNeg, oAbs, oMax2, oMin2, oInt, oLen, oIsN, oNotN, oIn, oNin, inT, eqF, oIsi, oIsi2, oList, oTuple, seqT, zp, enm, two, three, ioFind, ioCount, brOk, Bop.still, Bop.isI, T.ow, T.owl, T.nob, T.nobl, T.nfz, T.nfzl, T.fz, T.fzl, Bop.fit, Bop.res, Bop.bo, List.replicate, big, wipeE, reduceCtorEq, Nat.reduceAdd, Nat.reduceSub, Nat.reduceLT, Nat.reduceLeDiff, Int.reduceLT, Int.reduceLE, Int.reduceMul, Int.reducePow, Int.reduceToNat, Int.reduceAdd, Int.reduceSub, Int.reduceNeg, Int.reduceEq, Nat.reducePow, String.reduceEq, Row.ow, Row.nob, Row.nfz, Row.fz]
        refine ⟨by omega, ?_⟩
        exact fin rw2 _ _ _ _ _ _ _ _ hrw2 (Tp.mono (by assumption) (by omega))
    · rintro _ ⟨u, x4, x5, x6, x7, x8, x9, x10, made, hl, hok, hu, rfl⟩
      simp only [↓sA, sB, sC, if_true, if_false, forall_const, implies_true, forall_eq', false_imp_iff, oEq, oNe, eqT, oAdd, oNeg, oAbs, oMax2, oMin2, oInt, oLen, oIsN, oNotN, oIn, oNin, inT, eqF, oIsi, oIsi2, oList, oTuple, seqT, zp, enm, two, three, ioFind, ioCount, brOk, Bop.still, Bop.isI, T.ow, T.owl, T.nob, T.nobl, T.nfz, T.nfzl, T.fz, T.fzl, Bop.fit, Bop.res, Bop.bo, List.replicate, big, wipeE, reduceCtorEq, Nat.reduceAdd, Nat.reduceSub, Nat.reduceLT, Nat.reduceLeDiff, Int.reduceLT, Int.reduceLE, Int.reduceMul, Int.reducePow, Int.reduceToNat, Int.reduceAdd, Int.reduceSub, Int.reduceNeg, Int.reduceEq, Nat.reducePow, String.reduceEq]
      have hlm : made.length = m.toNat := by simpa using hl
      refine q made u (fun r hr => by have := hok r hr; rw [hlm]; rwa [Int.toNat_of_nonneg h0]) (by omega) (hu.mono (by simp; omega))
  split
  · (refine take_ok (by assumption) (by omega) (by omega) ?_; intro _ _ _ _ _; simp only [↓sA, sB, sC, if_true, if_false, forall_const, implies_true, forall_eq', false_imp_iff, oEq, oNe, eqT, oAdd, oNeg, oAbs, oMax2, oMin2, oInt, oLen, oIsN, oNotN, oIn, oNin, inT, eqF, oIsi, oIsi2, oList, oTuple, seqT, zp, enm, two, three, ioFind, ioCount, brOk, Bop.still, Bop.isI, T.ow, T.owl, T.nob, T.nobl, T.nfz, T.nfzl, T.fz, T.fzl, Bop.fit, Bop.res, Bop.bo, List.replicate, big, wipeE, reduceCtorEq, Nat.reduceAdd, Nat.reduceSub, Nat.reduceLT, Nat.reduceLeDiff, Int.reduceLT, Int.reduceLE, Int.reduceMul, Int.reducePow, Int.reduceToNat, Int.reduceAdd, Int.reduceSub, Int.reduceNeg, Int.reduceEq, Nat.reducePow, String.reduceEq])
    exact rest _ _ (by omega) (by omega) (Tp.mono (by assumption) (by omega))
  · (refine take_ok (by assumption) (by omega) (by omega) ?_; intro _ _ _ _ _; simp only [↓sA, sB, sC, if_true, if_false, forall_const, implies_true, forall_eq', false_imp_iff, oEq, oNe, eqT, oAdd, oNeg, oAbs, oMax2, oMin2, oInt, oLen, oIsN, oNotN, oIn, oNin, inT, eqF, oIsi, oIsi2, oList, oTuple, seqT, zp, enm, two, three, ioFind, ioCount, brOk, Bop.still, Bop.isI, T.ow, T.owl, T.nob, T.nobl, T.nfz, T.nfzl, T.fz, T.fzl, Bop.fit, Bop.res, Bop.bo, List.replicate, big, wipeE, reduceCtorEq, Nat.reduceAdd, Nat.reduceSub, Nat.reduceLT, Nat.reduceLeDiff, Int.reduceLT, Int.reduceLE, Int.reduceMul, Int.reducePow, Int.reduceToNat, Int.reduceAdd, Int.reduceSub, Int.reduceNeg, Int.reduceEq, Nat.reducePow, String.reduceEq])
    exact rest _ _ (by omega) (by omega) (Tp.mono (by assumption) (by omega))
def greats (rows : List Row) : List Int := (rows.zipIdx.filter fun p => p.1.great).map fun p => (p.2 : Int)
def jumps (rows : List Row) : List Int := (rows.zipIdx.filter fun p => p.1.jump).map fun p => (p.2 : Int)
theorem rt_set {r n : Int} : (Row.set r n).t = .tup [.str "set", .int r, .int n] := rfl
theorem rt_sum {r n : Int} : (Row.sum r n).t = .tup [.str "sum", .int r, .int n] := rfl
theorem rt_less {r n : Int} : (Row.less r n).t = .tup [.str "less", .int r, .int n] := rfl
theorem rt_tell {r : Int} : (Row.tell r).t = .tup [.str "tell", .int r] := rfl
theorem rt_go {n : Int} : (Row.go n).t = .tup [.str "go", .int n] := rfl
theorem rt_nil {r n : Int} : (Row.nil r n).t = .tup [.str "nil", .int r, .int n] := rfl
theorem rt_stop : Row.stop.t = .tup [.str "stop"] := rfl
theorem iteP {c : Prop} [Decidable c] {α : Type} {x y : α} {env : En} {Q : α × En → Prop} (h : Q (if decide c = true then x else y, env)) : if c then Q (x, env) else Q (y, env) := by by_cases w : c <;> simp_all
end NP
end
section
namespace NP
open PySem L2 QL
def tx (l : List Nat) : Str := ⟨l.toArray⟩
theorem tx_inj {a b : List Nat} : (tx a = tx b) = (a = b) := propext ⟨fun h => SX.S_inj h, fun h => by rw [h]⟩
theorem tx_len {a : List Nat} : (tx a).length = a.length := SX.S_len a
theorem tx_app {a b : List Nat} : tx a ++ tx b = tx (a ++ b) := SX.S_cat a b
theorem tx_cps {a : List Nat} : (tx a).cps.toList = a := by simp [tx]
theorem tx_chars {a : List Nat} : chars (tx a) = a.map fun c => .str (tx [c]) := by
  unfold chars
  rw [tx_cps]
  rfl
theorem tx_cut {a : List Nat} {lo hi : Option Int} : cutS (tx a) lo hi = tx (cutL a lo hi) := by
  unfold cutS cutL
  rw [tx_cps, tx_len]
  rfl
theorem tx_split {a b : List Nat} (hb : b ≠ []) (hk : b.all (· < 256) = true) : Txt.split (tx a) (tx b) = (TL.spl b 0 [] a).map tx := SX.split_S hb hk
theorem tx_join {a : List Nat} {ys : List (List Nat)} : Txt.join (tx a) (ys.map tx) = tx (TL.joinL a ys) := SX.join_S a ys
theorem tx_of (s : Str) : s = tx s.cps.toList := (TL.mk_tl s).symm
theorem tx_str (s : String) : Str.ofString s = tx (s.toList.map Char.toNat) := (tx_of _).trans (congrArg tx (TL.tl_ofString s))
def kIxS (P : T → Prop) : Nat → Prop := fun c => P (.str (tx [c]))
theorem kIxS_ap {P : T → Prop} {c : Nat} : kIxS P c = P (.str (tx [c])) := rfl
theorem w_ixS {l : List Nat} {i : Int} {P : T → Prop} : wp (oIx [.str (tx l), .int i]) P = (l.length ≤ big ∧ opt (atI l i) (kIxS P)) := by
  show wp (ck (decide ((tx l).length ≤ big)) >>= fun _ => match atI (tx l).cps.toList i with
      | some c => Except.ok (T.str ⟨#[c]⟩)
      | none => stk) P = _
  rw [we_bind, we_ck, tx_cps, tx_len, decide_eq_true_eq]
  cases atI l i with
  | none => rw [we_stk]; rfl
  | some c => rw [we_ok]; rfl
theorem int_tx {a : List Nat} {P : T → Prop} (h : a.all (fun c => decide (c ∈ [48,49,50,51,52,53,54,55,56,57])) = true) (hne : a ≠ []) (hl : a.length ≤ 640) : wp (oIntS [.str (tx a)]) P = P (.int (NumText.digitsVal a : Nat)) := by
  have e := SX.int_S (a := a) (List.all_eq_true.mpr fun c hc => by
    have z := of_decide_eq_true (List.all_eq_true.mp h c hc)
    simp only [List.mem_cons, List.not_mem_nil, or_false] at z
    simp only [Bool.and_eq_true, decide_eq_true_eq]
    omega) hne (by omega)
  have e2 : PySem.intText? (tx a) = some ((NumText.digitsVal a : Nat) : Int) := e
  rw [w_intS e2, tx_len]
  exact propext ⟨fun z => z.2, fun z => ⟨hl, z⟩⟩
theorem cut_butlast {a : List Nat} : cutL a none (some (-1)) = a.dropLast := by
  unfold cutL
  rw [List.dropLast_eq_take]
  cases a with
  | nil => rfl
  | cons x xs =>
    have e1 : HT.sIx (x :: xs).length 0 none = 0 := rfl
    have e2 : HT.sIx (x :: xs).length (x :: xs).length (some (-1)) = (x :: xs).length - 1 := by
      unfold HT.sIx
      simp
      omega
    rw [e1, e2]
    rfl
theorem cut_last {a : List Nat} : cutL a (some (-1)) none = a.getLast?.toList := by
  unfold cutL
  rcases List.eq_nil_or_concat a with rfl | ⟨xs, x, rfl⟩
  · rfl
  · rw [List.concat_eq_append]
    have e1 : HT.sIx (xs ++ [x]).length 0 (some (-1)) = xs.length := by
      unfold HT.sIx
      simp
      omega
    have e2 : HT.sIx (xs ++ [x]).length (xs ++ [x]).length none = (xs ++ [x]).length := rfl
    rw [e1, e2]
    simp
abbrev letters : List Nat := [97,98,99,100,101,102,103,104,105,106,107,108,109,110,111,112,113,114,115,116,117,118,119,120,121,122]
theorem s_letters : Str.ofString "abcdefghijklmnopqrstuvwxyz" = tx letters := by rw [tx_str]; rfl
theorem s_names : Str.ofString "abcde" = tx [97,98,99,100,101] := by rw [tx_str]; rfl
theorem s_figures : Str.ofString "0123456789" = tx [48,49,50,51,52,53,54,55,56,57] := by rw [tx_str]; rfl
theorem s_blank : Str.ofString " " = tx [32] := by rw [tx_str]; rfl
theorem s_lf : Str.ofString "\n" = tx [10] := by rw [tx_str]; rfl
theorem s_colon : Str.ofString ":" = tx [58] := by rw [tx_str]; rfl
theorem s_empty : Str.ofString "" = tx [] := by rw [tx_str]; rfl
theorem s_zero : Str.ofString "0" = tx [48] := by rw [tx_str]; rfl
theorem s_set : Str.ofString "set" = tx [115, 101, 116] := by rw [tx_str]; rfl
theorem s_sum : Str.ofString "sum" = tx [115, 117, 109] := by rw [tx_str]; rfl
theorem s_less : Str.ofString "less" = tx [108, 101, 115, 115] := by rw [tx_str]; rfl
theorem s_tell : Str.ofString "tell" = tx [116, 101, 108, 108] := by rw [tx_str]; rfl
theorem s_go : Str.ofString "go" = tx [103, 111] := by rw [tx_str]; rfl
theorem s_nil : Str.ofString "nil" = tx [110, 105, 108] := by rw [tx_str]; rfl
theorem s_stop : Str.ofString "stop" = tx [115, 116, 111, 112] := by rw [tx_str]; rfl
def isLab (l : List Nat) : Bool := (decide (1 ≤ l.length) && decide (l.length ≤ 8)) && l.all fun c => decide (c ∈ letters)
def regF : List Nat → Option Nat
  | [c] => if c ∈ [97,98,99,100,101] then some (c - 97) else none
  | _ => none
def numF (l : List Nat) : Option Nat := if (1 ≤ l.length ∧ l.length ≤ 8) ∧ l.all (fun c => decide (c ∈ [48,49,50,51,52,53,54,55,56,57])) = true ∧ ¬ (l.head? = some 48 ∧ l ≠ [48]) then some (NumText.digitsVal l) else none
inductive Raw where
  | set (r n : Nat) | sum (r s : Nat) | less (r s : Nat) | tell (r : Nat) | go (l : List Nat) | nil (r : Nat) (l : List Nat) | stop
  deriving DecidableEq
def Raw.t : Raw → T
  | .set r n => .tup [.str "set", .int r, .int n]
  | .sum r s => .tup [.str "sum", .int r, .int s]
  | .less r s => .tup [.str "less", .int r, .int s]
  | .tell r => .tup [.str "tell", .int r]
  | .go l => .tup [.str "go", .str (tx l)]
  | .nil r l => .tup [.str "nil", .int r, .str (tx l)]
  | .stop => .tup [.str "stop"]
def labF (l : List Nat) : Option (List Nat) := if isLab l = true then some l else none
def wordsF : List (List Nat) → Option Raw
  | w :: as =>
    if w = [115, 101, 116] then (match as with | [a, b] => (regF a).bind fun r => (numF b).map fun n => .set r n | _ => none)
    else if w = [115, 117, 109] then (match as with | [a, b] => (regF a).bind fun r => (regF b).map fun n => .sum r n | _ => none)
    else if w = [108, 101, 115, 115] then (match as with | [a, b] => (regF a).bind fun r => (regF b).map fun n => .less r n | _ => none)
    else if w = [116, 101, 108, 108] then (match as with | [a] => (regF a).map fun r => .tell r | _ => none)
    else if w = [103, 111] then (match as with | [a] => (labF a).map fun r => .go r | _ => none)
    else if w = [110, 105, 108] then (match as with | [a, b] => (regF a).bind fun r => (labF b).map fun n => .nil r n | _ => none)
    else if w = [115, 116, 111, 112] then (match as with | [] => some .stop | _ => none)
    else none
  | [] => none
def rowF (l : List Nat) : Option Raw := wordsF (TL.spl [32] 0 [] l)
end NP
end
section
namespace NP
open PySem L2 QL
def b_sorts_of : SM :=
  sSeq (sAsg (eDisp [.inr "set", .inr "sum", .inr "less"] (aCons (bE (eTup (aCons (bE (eC (.str "register"))) (aCons (bE (eC (.str "number"))) (aNil))))) (aCons (bE (eTup (aCons (bE (eC (.str "register"))) (aCons (bE (eC (.str "register"))) (aNil))))) (aCons (bE (eTup (aCons (bE (eC (.str "register"))) (aCons (bE (eC (.str "register"))) (aNil))))) (aNil))))) (gN 1))
    (sSeq (sDrop (eMut 1 T.isDct mUpd (aCons (bE (eDisp [.inr "tell", .inr "go", .inr "nil", .inr "stop"] (aCons (bE (eTup (aCons (bE (eC (.str "register"))) (aNil)))) (aCons (bE (eTup (aCons (bE (eC (.str "label"))) (aNil)))) (aCons (bE (eTup (aCons (bE (eC (.str "register"))) (aCons (bE (eC (.str "label"))) (aNil))))) (aCons (bE (eTup (aNil))) (aNil))))))) (aNil))))
    (sRet (eOp oDGet (aCons (bD 1) (aCons (bV 0) (aCons (bE (eC .non)) aNil))))))
def f_sorts_of : Fn := fnN 1 2 none b_sorts_of
def b_register_word : SM :=
  sSeq (sIf (tOrS (tV (eOp oNe (aCons (bE (eOp oLen (aCons (bV 0) (aNil)))) (aCons (bE (eC (.int 1))) aNil)))) (tV (eOp oNin (aCons (bV 0) (aCons (bE (eC (.str "abcde"))) aNil))))) (sRet (eC .non)) (sNil))
    (sRet (eOp oSIdx (aCons (bS (bE (eC (.str "abcde")))) (aCons (bV 0) aNil))))
def f_register_word : Fn := fnN 1 1 none b_register_word
def b_number_word : SM :=
  sSeq (sIf (tOrS (tNotS (tV (eChain (fun i j => decide (i ≤ j)) (fun i j => decide (i ≤ j)) (eC (.int 1)) (eOp oLen (aCons (bV 0) (aNil))) (eC (.int 8))))) (tNotS (tV (eOp oAll (aCons (bE (eLc (iSeq (bV 0)) (gN 1) (cYes) (eOp oIn (aCons (bV 1) (aCons (bE (eC (.str "0123456789"))) aNil))) [1])) (aNil)))))) (sRet (eC .non)) (sNil))
    (sSeq (sIf (tAndS (tV (eOp oEq (aCons (bE (eOp oIx (aCons (bV 0) (aCons (bE (eC (.int 0))) aNil)))) (aCons (bE (eC (.str "0"))) aNil)))) (tV (eOp oNe (aCons (bV 0) (aCons (bE (eC (.str "0"))) aNil))))) (sRet (eC .non)) (sNil))
    (sRet (eOp oIntS (aCons (bV 0) (aNil)))))
def f_number_word : Fn := fnN 1 2 none b_number_word
def b_is_label : SM :=
  sRet (eAnd (eChain (fun i j => decide (i ≤ j)) (fun i j => decide (i ≤ j)) (eC (.int 1)) (eOp oLen (aCons (bV 0) (aNil))) (eC (.int 8))) (eOp oAll (aCons (bE (eLc (iSeq (bV 0)) (gN 1) (cYes) (eOp oIn (aCons (bV 1) (aCons (bE (eC (.str "abcdefghijklmnopqrstuvwxyz"))) aNil))) [1])) (aNil))))
def f_is_label : Fn := fnN 1 2 none b_is_label
def b_part_word : SM :=
  sSeq (sIf (tV (eOp oEq (aCons (bV 0) (aCons (bE (eC (.str "register"))) aNil)))) (sRet (eCall none none f_register_word (aCons (bV 1) (aNil)))) (sNil))
    (sSeq (sIf (tV (eOp oEq (aCons (bV 0) (aCons (bE (eC (.str "number"))) aNil)))) (sRet (eCall none none f_number_word (aCons (bV 1) (aNil)))) (sNil))
    (sRet (eIf (tV (eCall none none f_is_label (aCons (bV 1) (aNil)))) (eVar 1) (eC .non))))
def f_part_word : Fn := fnN 2 2 none b_part_word
def b_row_read : SM :=
  sSeq (sAsg (eOp oSplit (aCons (bS (bV 0)) (aCons (bE (eC (.str " "))) aNil))) (gN 1))
    (sSeq (sAsg (eCall none none f_sorts_of (aCons (bE (eOp oIx (aCons (bV 1) (aCons (bE (eC (.int 0))) aNil)))) (aNil))) (gN 2))
    (sSeq (sIf (tOrS (tV (eOp oIsN (aCons (bV 2) (aCons (bE (eC .non)) aNil)))) (tV (eOp oNe (aCons (bE (eOp oLen (aCons (bV 2) (aNil)))) (aCons (bE (eOp oSub (aCons (bE (eOp oLen (aCons (bV 1) (aNil)))) (aCons (bE (eC (.int 1))) aNil)))) aNil))))) (sRet (eC .non)) (sNil))
    (sSeq (sAsg (eLc (iRng zp (aCons (bE (eAl 2)) (aCons (bE (eOp (oSl true false) (aCons (bV 1) (aCons (bE (eC (.int 1))) aNil)))) (aNil)))) (gT 2 (gsC (gN 4) (gsC (gN 5) (gsN)))) (cYes) (eCall none none f_part_word (aCons (bV 4) (aCons (bV 5) (aNil)))) [4, 5]) (gN 3))
    (sRet (eIf (tV (eOp oIn (aCons (bE (eC .non)) (aCons (bV 3) aNil)))) (eC .non) (eOp oAdd (aCons (bE (eTup (aCons (bE (eOp oIx (aCons (bV 1) (aCons (bE (eC (.int 0))) aNil)))) (aNil)))) (aCons (bE (eOp oTuple (aCons (bV 3) (aNil)))) aNil))))))))
def f_row_read : Fn := fnN 1 6 none b_row_read
theorem islab_ok {l : List Nat} {Q : T × Option T → Prop} (hl : l.length ≤ 100000) (q : Q (.bl (isLab l), none)) : wp (f_is_label [.str (tx l)]) Q := by
  unfold f_is_label b_is_label
  simp only [↓sA, sB, sC, if_true, if_false, forall_const, implies_true, forall_eq', false_imp_iff, oEq, oNe, eqT, oAdd, oNeg, oAbs, oMax2, oMin2, oInt, oLen, oIsN, oNotN, oIn, oNin, inT, eqF, oIsi, oIsi2, oList, oTuple, seqT, zp, enm, two, three, ioFind, ioCount, brOk, Bop.still, Bop.isI, T.ow, T.owl, T.nob, T.nobl, T.nfz, T.nfzl, T.fz, T.fzl, Bop.fit, Bop.res, Bop.bo, List.replicate, big, wipeE, reduceCtorEq, Nat.reduceAdd, Nat.reduceSub, Nat.reduceLT, Nat.reduceLeDiff, Int.reduceLT, Int.reduceLE, Int.reduceMul, Int.reducePow, Int.reduceToNat, Int.reduceAdd, Int.reduceSub, Int.reduceNeg, Int.reduceEq, Nat.reducePow, String.reduceEq, tx_len, tx_chars, s_letters]
  refine ⟨by omega, ?_⟩
  unfold isLab at q
  split
  · split
    · refine ⟨by omega, lc_map (h := fun c => T.bl (decide (c ∈ letters))) (fun c hc Q' q' => ?_) ?_⟩
      · simp only [↓sA, sB, sC, if_true, if_false, forall_const, implies_true, forall_eq', false_imp_iff, oEq, oNe, eqT, oAdd, oNeg, oAbs, oMax2, oMin2, oInt, oLen, oIsN, oNotN, oIn, oNin, inT, eqF, oIsi, oIsi2, oList, oTuple, seqT, zp, enm, two, three, ioFind, ioCount, brOk, Bop.still, Bop.isI, T.ow, T.owl, T.nob, T.nobl, T.nfz, T.nfzl, T.fz, T.fzl, Bop.fit, Bop.res, Bop.bo, List.replicate, big, wipeE, reduceCtorEq, Nat.reduceAdd, Nat.reduceSub, Nat.reduceLT, Nat.reduceLeDiff, Int.reduceLT, Int.reduceLE, Int.reduceMul, Int.reducePow, Int.reduceToNat, Int.reduceAdd, Int.reduceSub, Int.reduceNeg, Int.reduceEq, Nat.reducePow, String.reduceEq, tx_cps]
        exact q'
      · simp only [↓sA, sB, sC, if_true, if_false, forall_const, implies_true, forall_eq', false_imp_iff, oEq, oNe, eqT, oAdd, oNeg, oAbs, oMax2, oMin2, oInt, oLen, oIsN, oNotN, oIn, oNin, inT, eqF, oIsi, oIsi2, oList, oTuple, seqT, zp, enm, two, three, ioFind, ioCount, brOk, Bop.still, Bop.isI, T.ow, T.owl, T.nob, T.nobl, T.nfz, T.nfzl, T.fz, T.fzl, Bop.fit, Bop.res, Bop.bo, List.replicate, big, wipeE, reduceCtorEq, Nat.reduceAdd, Nat.reduceSub, Nat.reduceLT, Nat.reduceLeDiff, Int.reduceLT, Int.reduceLE, Int.reduceMul, Int.reducePow, Int.reduceToNat, Int.reduceAdd, Int.reduceSub, Int.reduceNeg, Int.reduceEq, Nat.reducePow, String.reduceEq]
        have e : (decide (1 ≤ l.length) && decide (l.length ≤ 8)) = true := by simp; omega
        rw [e, Bool.true_and] at q
        exact q
    · have e : (decide (1 ≤ l.length) && decide (l.length ≤ 8)) = false := by simp; omega
      rw [e] at q
      exact q
  · have e : (decide (1 ≤ l.length) && decide (l.length ≤ 8)) = false := by simp; omega
    rw [e] at q
    exact q
theorem regF_one {c : Nat} : regF [c] = if c ∈ [97, 98, 99, 100, 101] then some (c - 97) else none := rfl
theorem reg_idx : ∀ c ∈ [97, 98, 99, 100, 101], ∃ rest, Builtin.Str.occurrences (tx [97, 98, 99, 100, 101]) (tx [c]) 0 (tx [97, 98, 99, 100, 101]).length 1 = (c - 97) :: rest := by
  intro c hc
  simp only [List.mem_cons, List.not_mem_nil, or_false] at hc
  rcases hc with rfl | rfl | rfl | rfl | rfl <;> exact ⟨[], by decide +kernel⟩
theorem reg_ok {l : List Nat} {Q : T × Option T → Prop} (hl : l.length ≤ 100000) (q : Q (match regF l with | some r => .int r | none => .non, none)) : wp (f_register_word [.str (tx l)]) Q := by
  unfold f_register_word b_register_word
  simp only [↓sA, sB, sC, if_true, if_false, forall_const, implies_true, forall_eq', false_imp_iff, oEq, oNe, eqT, oAdd, oNeg, oAbs, oMax2, oMin2, oInt, oLen, oIsN, oNotN, oIn, oNin, inT, eqF, oIsi, oIsi2, oList, oTuple, seqT, zp, enm, two, three, ioFind, ioCount, brOk, Bop.still, Bop.isI, T.ow, T.owl, T.nob, T.nobl, T.nfz, T.nfzl, T.fz, T.fzl, Bop.fit, Bop.res, Bop.bo, List.replicate, big, wipeE, reduceCtorEq, Nat.reduceAdd, Nat.reduceSub, Nat.reduceLT, Nat.reduceLeDiff, Int.reduceLT, Int.reduceLE, Int.reduceMul, Int.reducePow, Int.reduceToNat, Int.reduceAdd, Int.reduceSub, Int.reduceNeg, Int.reduceEq, Nat.reducePow, String.reduceEq, tx_len, tx_chars, tx_cps, tx_cut, w_bS, kBs_ap, isS_str, isS_br, w_ixS, kIxS_ap, s_names]
  refine ⟨by omega, ?_⟩
  split
  · rename_i h
    match l, h with
    | [], _ => exact q
    | [c], h => exact absurd rfl h
    | _ :: _ :: _, _ => exact q
  · rename_i h
    match l, h with
    | [], h => simp at h
    | _ :: _ :: _, h => simp at h; omega
    | [c], _ =>
      simp only [↓sA, sB, sC, if_true, if_false, forall_const, implies_true, forall_eq', false_imp_iff, oEq, oNe, eqT, oAdd, oNeg, oAbs, oMax2, oMin2, oInt, oLen, oIsN, oNotN, oIn, oNin, inT, eqF, oIsi, oIsi2, oList, oTuple, seqT, zp, enm, two, three, ioFind, ioCount, brOk, Bop.still, Bop.isI, T.ow, T.owl, T.nob, T.nobl, T.nfz, T.nfzl, T.fz, T.fzl, Bop.fit, Bop.res, Bop.bo, List.replicate, big, wipeE, reduceCtorEq, Nat.reduceAdd, Nat.reduceSub, Nat.reduceLT, Nat.reduceLeDiff, Int.reduceLT, Int.reduceLE, Int.reduceMul, Int.reducePow, Int.reduceToNat, Int.reduceAdd, Int.reduceSub, Int.reduceNeg, Int.reduceEq, Nat.reducePow, String.reduceEq, tx_len, tx_chars, tx_cps, tx_cut, w_bS, kBs_ap, isS_str, isS_br, w_ixS, kIxS_ap]
      rw [regF_one] at q
      split
      · rename_i h
        rw [if_neg h] at q
        exact q
      · rename_i h
        have h := Decidable.not_not.mp h
        rw [if_pos h] at q
        obtain ⟨rest, hr⟩ := reg_idx c h
        rw [w_sidx hr]
        simp only [↓sA, sB, sC, if_true, if_false, forall_const, implies_true, forall_eq', false_imp_iff, oEq, oNe, eqT, oAdd, oNeg, oAbs, oMax2, oMin2, oInt, oLen, oIsN, oNotN, oIn, oNin, inT, eqF, oIsi, oIsi2, oList, oTuple, seqT, zp, enm, two, three, ioFind, ioCount, brOk, Bop.still, Bop.isI, T.ow, T.owl, T.nob, T.nobl, T.nfz, T.nfzl, T.fz, T.fzl, Bop.fit, Bop.res, Bop.bo, List.replicate, big, wipeE, reduceCtorEq, Nat.reduceAdd, Nat.reduceSub, Nat.reduceLT, Nat.reduceLeDiff, Int.reduceLT, Int.reduceLE, Int.reduceMul, Int.reducePow, Int.reduceToNat, Int.reduceAdd, Int.reduceSub, Int.reduceNeg, Int.reduceEq, Nat.reducePow, String.reduceEq]
        exact q
theorem num_ok {l : List Nat} {Q : T × Option T → Prop} (hl : l.length ≤ 100000) (q : Q (match numF l with | some r => .int r | none => .non, none)) : wp (f_number_word [.str (tx l)]) Q := by
  unfold f_number_word b_number_word
  simp only [↓sA, sB, sC, if_true, if_false, forall_const, implies_true, forall_eq', false_imp_iff, oEq, oNe, eqT, oAdd, oNeg, oAbs, oMax2, oMin2, oInt, oLen, oIsN, oNotN, oIn, oNin, inT, eqF, oIsi, oIsi2, oList, oTuple, seqT, zp, enm, two, three, ioFind, ioCount, brOk, Bop.still, Bop.isI, T.ow, T.owl, T.nob, T.nobl, T.nfz, T.nfzl, T.fz, T.fzl, Bop.fit, Bop.res, Bop.bo, List.replicate, big, wipeE, reduceCtorEq, Nat.reduceAdd, Nat.reduceSub, Nat.reduceLT, Nat.reduceLeDiff, Int.reduceLT, Int.reduceLE, Int.reduceMul, Int.reducePow, Int.reduceToNat, Int.reduceAdd, Int.reduceSub, Int.reduceNeg, Int.reduceEq, Nat.reducePow, String.reduceEq, tx_len, tx_chars, tx_cps, tx_cut, w_bS, kBs_ap, isS_str, isS_br, w_ixS, kIxS_ap, s_figures]
  refine ⟨by omega, ?_⟩
  unfold numF at q
  split
  · split
    · rw [if_neg (by omega)] at q
      exact q
    · refine ⟨by omega, lc_map (h := fun c => T.bl (decide (c ∈ [48, 49, 50, 51, 52, 53, 54, 55, 56, 57]))) (fun c hc Q' q' => ?_) ?_⟩
      · simp only [↓sA, sB, sC, if_true, if_false, forall_const, implies_true, forall_eq', false_imp_iff, oEq, oNe, eqT, oAdd, oNeg, oAbs, oMax2, oMin2, oInt, oLen, oIsN, oNotN, oIn, oNin, inT, eqF, oIsi, oIsi2, oList, oTuple, seqT, zp, enm, two, three, ioFind, ioCount, brOk, Bop.still, Bop.isI, T.ow, T.owl, T.nob, T.nobl, T.nfz, T.nfzl, T.fz, T.fzl, Bop.fit, Bop.res, Bop.bo, List.replicate, big, wipeE, reduceCtorEq, Nat.reduceAdd, Nat.reduceSub, Nat.reduceLT, Nat.reduceLeDiff, Int.reduceLT, Int.reduceLE, Int.reduceMul, Int.reducePow, Int.reduceToNat, Int.reduceAdd, Int.reduceSub, Int.reduceNeg, Int.reduceEq, Nat.reducePow, String.reduceEq, tx_len, tx_chars, tx_cps, tx_cut, w_bS, kBs_ap, isS_str, isS_br, w_ixS, kIxS_ap]
        exact q'
      · simp only [↓sA, sB, sC, if_true, if_false, forall_const, implies_true, forall_eq', false_imp_iff, oEq, oNe, eqT, oAdd, oNeg, oAbs, oMax2, oMin2, oInt, oLen, oIsN, oNotN, oIn, oNin, inT, eqF, oIsi, oIsi2, oList, oTuple, seqT, zp, enm, two, three, ioFind, ioCount, brOk, Bop.still, Bop.isI, T.ow, T.owl, T.nob, T.nobl, T.nfz, T.nfzl, T.fz, T.fzl, Bop.fit, Bop.res, Bop.bo, List.replicate, big, wipeE, reduceCtorEq, Nat.reduceAdd, Nat.reduceSub, Nat.reduceLT, Nat.reduceLeDiff, Int.reduceLT, Int.reduceLE, Int.reduceMul, Int.reducePow, Int.reduceToNat, Int.reduceAdd, Int.reduceSub, Int.reduceNeg, Int.reduceEq, Nat.reducePow, String.reduceEq, tx_len, tx_chars, tx_cps, tx_cut, w_bS, kBs_ap, isS_str, isS_br, w_ixS, kIxS_ap, s_zero]
        split
        · rename_i h
          rw [if_neg (fun z => by rw [z.2.1] at h; cases h)] at q
          exact q
        · rename_i h
          have h := Bool.not_eq_false _ ▸ h
          have h : (l.all fun x => decide (x ∈ [48, 49, 50, 51, 52, 53, 54, 55, 56, 57])) = true := by simpa using h
          match l, h with
          | [], _ => rename_i h1 _ _; simp at h1
          | c :: r, h =>
            have hln : (c :: r).length ≤ 8 := by omega
            simp only [↓sA, sB, sC, if_true, if_false, forall_const, implies_true, forall_eq', false_imp_iff, oEq, oNe, eqT, oAdd, oNeg, oAbs, oMax2, oMin2, oInt, oLen, oIsN, oNotN, oIn, oNin, inT, eqF, oIsi, oIsi2, oList, oTuple, seqT, zp, enm, two, three, ioFind, ioCount, brOk, Bop.still, Bop.isI, T.ow, T.owl, T.nob, T.nobl, T.nfz, T.nfzl, T.fz, T.fzl, Bop.fit, Bop.res, Bop.bo, List.replicate, big, wipeE, reduceCtorEq, Nat.reduceAdd, Nat.reduceSub, Nat.reduceLT, Nat.reduceLeDiff, Int.reduceLT, Int.reduceLE, Int.reduceMul, Int.reducePow, Int.reduceToNat, Int.reduceAdd, Int.reduceSub, Int.reduceNeg, Int.reduceEq, Nat.reducePow, String.reduceEq, tx_len, tx_chars, tx_cps, tx_cut, w_bS, kBs_ap, isS_str, isS_br, w_ixS, kIxS_ap, tx_inj, int_tx h (List.cons_ne_nil _ _) (by omega)]
            refine ⟨by simp at hln; omega, ?_⟩
            have e1 : 1 ≤ (c :: r).length ∧ (c :: r).length ≤ 8 := ⟨by simp, hln⟩
            split
            · rename_i hc
              split
              · rename_i hr
                rw [if_neg (fun z => z.2.2 ⟨by simpa using hc, hr⟩)] at q
                exact q
              · rename_i hr
                have hr := Decidable.not_not.mp hr
                rw [if_pos ⟨e1, h, fun z => z.2 hr⟩] at q
                exact q
            · rename_i hc
              rw [if_pos ⟨e1, h, fun z => hc (by simpa using z.1)⟩] at q
              exact q
  · rw [if_neg (by omega)] at q
    exact q
def sortsD : List (Key × T) := [(Sum.inr (Str.ofString "set"), T.tup [T.str (Str.ofString "register"), T.str (Str.ofString "number")]),
  (Sum.inr (Str.ofString "sum"), T.tup [T.str (Str.ofString "register"), T.str (Str.ofString "register")]),
  (Sum.inr (Str.ofString "less"), T.tup [T.str (Str.ofString "register"), T.str (Str.ofString "register")]),
  (Sum.inr (Str.ofString "tell"), T.tup [T.str (Str.ofString "register")]),
  (Sum.inr (Str.ofString "go"), T.tup [T.str (Str.ofString "label")]),
  (Sum.inr (Str.ofString "nil"), T.tup [T.str (Str.ofString "register"), T.str (Str.ofString "label")]),
  (Sum.inr (Str.ofString "stop"), T.tup [])]
def srtT (z : Str) : T := if Str.ofString "set" = z then .tup [.str "register", .str "number"] else if Str.ofString "sum" = z then .tup [.str "register", .str "register"] else if Str.ofString "less" = z then .tup [.str "register", .str "register"]
  else if Str.ofString "tell" = z then .tup [.str "register"] else if Str.ofString "go" = z then .tup [.str "label"] else if Str.ofString "nil" = z then .tup [.str "register", .str "label"] else if Str.ofString "stop" = z then .tup [] else .non
theorem find_if {α : Type} {p : α → Bool} {x : α} {xs : List α} {d : α → T} {e : T} : (((x :: xs).find? p).map d).getD e = if p x = true then d x else ((xs.find? p).map d).getD e := by
  rw [List.find?_cons]
  cases p x <;> rfl
theorem key_eq {a z : Str} : decide ((Sum.inr a : Key) = Sum.inr z) = decide (a = z) := decide_eq_decide.mpr ⟨fun h => Sum.inr.inj h, fun h => congrArg _ h⟩
theorem srt_eq {z : Str} : (getT sortsD (.inr z)).getD .non = srtT z := by
  unfold getT sortsD srtT
  simp only [find_if, key_eq, decide_eq_true_eq]
  rfl
theorem srt_nfz {z : Str} : (srtT z).nfz = true := by
  unfold srtT
  repeat' split
  all_goals rfl
theorem sorts_ok {z : Str} {Q : T × Option T → Prop} (q : Q (srtT z, none)) : wp (f_sorts_of [.str z]) Q := by
  unfold f_sorts_of b_sorts_of
  simp only [↓sA, sB, sC, if_true, if_false, forall_const, implies_true, forall_eq', false_imp_iff, oEq, oNe, eqT, oAdd, oNeg, oAbs, oMax2, oMin2, oInt, oLen, oIsN, oNotN, oIn, oNin, inT, eqF, oIsi, oIsi2, oList, oTuple, seqT, zp, enm, two, three, ioFind, ioCount, brOk, Bop.still, Bop.isI, T.ow, T.owl, T.nob, T.nobl, T.nfz, T.nfzl, T.fz, T.fzl, Bop.fit, Bop.res, Bop.bo, List.replicate, big, wipeE, reduceCtorEq, Nat.reduceAdd, Nat.reduceSub, Nat.reduceLT, Nat.reduceLeDiff, Int.reduceLT, Int.reduceLE, Int.reduceMul, Int.reducePow, Int.reduceToNat, Int.reduceAdd, Int.reduceSub, Int.reduceNeg, Int.reduceEq, Nat.reducePow, String.reduceEq, tx_len, tx_chars, tx_cps, tx_cut, w_bS, kBs_ap, isS_str, isS_br, w_ixS, kIxS_ap, w_eDisp, kDi_ap, isTmp_tmp, List.zip_cons_cons, List.zip_nil_left, w_mUpd]
  have n1 : ([Sum.inr (Str.ofString "set"), Sum.inr (Str.ofString "sum"), Sum.inr (Str.ofString "less")] : List Key).Nodup := by simp [ofString_inj]
  have n2 : ([Sum.inr (Str.ofString "tell"), Sum.inr (Str.ofString "go"), Sum.inr (Str.ofString "nil"), Sum.inr (Str.ofString "stop")] : List Key).Nodup := by simp [ofString_inj]
  refine ⟨n1, rfl, n2, ⟨rfl, rfl⟩, ?_⟩
  have e : mergeT [(Sum.inr (Str.ofString "set"), T.tup [T.str (Str.ofString "register"), T.str (Str.ofString "number")]),
  (Sum.inr (Str.ofString "sum"), T.tup [T.str (Str.ofString "register"), T.str (Str.ofString "register")]),
  (Sum.inr (Str.ofString "less"), T.tup [T.str (Str.ofString "register"), T.str (Str.ofString "register")])] [(Sum.inr (Str.ofString "tell"), T.tup [T.str (Str.ofString "register")]),
  (Sum.inr (Str.ofString "go"), T.tup [T.str (Str.ofString "label")]),
  (Sum.inr (Str.ofString "nil"), T.tup [T.str (Str.ofString "register"), T.str (Str.ofString "label")]),
  (Sum.inr (Str.ofString "stop"), T.tup [])] = sortsD := by simp [mergeT, putT, ofString_inj, sortsD]
  rw [e]
  simp only [↓sA, sB, sC, if_true, if_false, forall_const, implies_true, forall_eq', false_imp_iff, oEq, oNe, eqT, oAdd, oNeg, oAbs, oMax2, oMin2, oInt, oLen, oIsN, oNotN, oIn, oNin, inT, eqF, oIsi, oIsi2, oList, oTuple, seqT, zp, enm, two, three, ioFind, ioCount, brOk, Bop.still, Bop.isI, T.ow, T.owl, T.nob, T.nobl, T.nfz, T.nfzl, T.fz, T.fzl, Bop.fit, Bop.res, Bop.bo, List.replicate, big, wipeE, reduceCtorEq, Nat.reduceAdd, Nat.reduceSub, Nat.reduceLT, Nat.reduceLeDiff, Int.reduceLT, Int.reduceLE, Int.reduceMul, Int.reducePow, Int.reduceToNat, Int.reduceAdd, Int.reduceSub, Int.reduceNeg, Int.reduceEq, Nat.reducePow, String.reduceEq, tx_len, tx_chars, tx_cps, tx_cut, w_bS, kBs_ap, isS_str, isS_br, w_ixS, kIxS_ap, sO]
  rw [show T.fzk sortsD = sortsD from rfl, srt_eq]
  exact ⟨rfl, srt_nfz, q⟩
theorem spl_word {S : List Nat} : ∀ (l : List Nat) (k : Nat) (acc w : List Nat), w ∈ TL.spl S k acc l → w.length ≤ acc.length + l.length
  | [], k, acc, w, h => by
    rw [TL.spl_nil] at h
    rw [List.mem_singleton.mp h]
    simp
  | c :: r, 0, acc, w, h => by
    cases hp : TL.pre S (c :: r) with
    | true =>
      rw [TL.spl_hit hp] at h
      rcases List.mem_cons.mp h with rfl | h
      · simp
      · have := spl_word r _ _ _ h
        simp at this ⊢
        omega
    | false =>
      rw [TL.spl_miss hp] at h
      have := spl_word r _ _ _ h
      simp at this ⊢
      omega
  | c :: r, k + 1, acc, w, h => by
    have := spl_word r k acc w h
    simp
    omega
theorem spl_many {S : List Nat} : ∀ (l : List Nat) (k : Nat) (acc : List Nat), 1 ≤ (TL.spl S k acc l).length ∧ (TL.spl S k acc l).length ≤ l.length + 1
  | [], k, acc => by rw [TL.spl_nil]; simp
  | c :: r, 0, acc => by
    cases hp : TL.pre S (c :: r) with
    | true =>
      rw [TL.spl_hit hp]
      have := spl_many (S := S) r (S.length - 1) []
      simp
      omega
    | false =>
      rw [TL.spl_miss hp]
      have := spl_many (S := S) r 0 (acc ++ [c])
      simp
      omega
  | c :: r, k + 1, acc => by
    have := spl_many (S := S) r k acc
    show 1 ≤ (TL.spl S k acc r).length ∧ (TL.spl S k acc r).length ≤ _
    simp
    omega
theorem part_reg {l : List Nat} {Q : T × Option T → Prop} (hl : l.length ≤ 100000) (q : Q (match regF l with | some r => .int r | none => .non, none)) : wp (f_part_word [.str (Str.ofString "register"), .str (tx l)]) Q := by
  unfold f_part_word b_part_word
  simp only [↓sA, sB, sC, if_true, if_false, forall_const, implies_true, forall_eq', false_imp_iff, oEq, oNe, eqT, oAdd, oNeg, oAbs, oMax2, oMin2, oInt, oLen, oIsN, oNotN, oIn, oNin, inT, eqF, oIsi, oIsi2, oList, oTuple, seqT, zp, enm, two, three, ioFind, ioCount, brOk, Bop.still, Bop.isI, T.ow, T.owl, T.nob, T.nobl, T.nfz, T.nfzl, T.fz, T.fzl, Bop.fit, Bop.res, Bop.bo, List.replicate, big, wipeE, reduceCtorEq, Nat.reduceAdd, Nat.reduceSub, Nat.reduceLT, Nat.reduceLeDiff, Int.reduceLT, Int.reduceLE, Int.reduceMul, Int.reducePow, Int.reduceToNat, Int.reduceAdd, Int.reduceSub, Int.reduceNeg, Int.reduceEq, Nat.reducePow, String.reduceEq]
  refine reg_ok hl ?_
  revert q
  cases regF l <;> intro q <;> simp only [↓sA, sB, sC, if_true, if_false, forall_const, implies_true, forall_eq', false_imp_iff, oEq, oNe, eqT, oAdd, oNeg, oAbs, oMax2, oMin2, oInt, oLen, oIsN, oNotN, oIn, oNin, inT, eqF, oIsi, oIsi2, oList, oTuple, seqT, zp, enm, two, three, ioFind, ioCount, brOk, Bop.still, Bop.isI, T.ow, T.owl, T.nob, T.nobl, T.nfz, T.nfzl, T.fz, T.fzl, Bop.fit, Bop.res, Bop.bo, List.replicate, big, wipeE, reduceCtorEq, Nat.reduceAdd, Nat.reduceSub, Nat.reduceLT, Nat.reduceLeDiff, Int.reduceLT, Int.reduceLE, Int.reduceMul, Int.reducePow, Int.reduceToNat, Int.reduceAdd, Int.reduceSub, Int.reduceNeg, Int.reduceEq, Nat.reducePow, String.reduceEq] <;> exact q
theorem part_num {l : List Nat} {Q : T × Option T → Prop} (hl : l.length ≤ 100000) (q : Q (match numF l with | some r => .int r | none => .non, none)) : wp (f_part_word [.str (Str.ofString "number"), .str (tx l)]) Q := by
  unfold f_part_word b_part_word
  simp only [↓sA, sB, sC, if_true, if_false, forall_const, implies_true, forall_eq', false_imp_iff, oEq, oNe, eqT, oAdd, oNeg, oAbs, oMax2, oMin2, oInt, oLen, oIsN, oNotN, oIn, oNin, inT, eqF, oIsi, oIsi2, oList, oTuple, seqT, zp, enm, two, three, ioFind, ioCount, brOk, Bop.still, Bop.isI, T.ow, T.owl, T.nob, T.nobl, T.nfz, T.nfzl, T.fz, T.fzl, Bop.fit, Bop.res, Bop.bo, List.replicate, big, wipeE, reduceCtorEq, Nat.reduceAdd, Nat.reduceSub, Nat.reduceLT, Nat.reduceLeDiff, Int.reduceLT, Int.reduceLE, Int.reduceMul, Int.reducePow, Int.reduceToNat, Int.reduceAdd, Int.reduceSub, Int.reduceNeg, Int.reduceEq, Nat.reducePow, String.reduceEq]
  refine num_ok hl ?_
  revert q
  cases numF l <;> intro q <;> simp only [↓sA, sB, sC, if_true, if_false, forall_const, implies_true, forall_eq', false_imp_iff, oEq, oNe, eqT, oAdd, oNeg, oAbs, oMax2, oMin2, oInt, oLen, oIsN, oNotN, oIn, oNin, inT, eqF, oIsi, oIsi2, oList, oTuple, seqT, zp, enm, two, three, ioFind, ioCount, brOk, Bop.still, Bop.isI, T.ow, T.owl, T.nob, T.nobl, T.nfz, T.nfzl, T.fz, T.fzl, Bop.fit, Bop.res, Bop.bo, List.replicate, big, wipeE, reduceCtorEq, Nat.reduceAdd, Nat.reduceSub, Nat.reduceLT, Nat.reduceLeDiff, Int.reduceLT, Int.reduceLE, Int.reduceMul, Int.reducePow, Int.reduceToNat, Int.reduceAdd, Int.reduceSub, Int.reduceNeg, Int.reduceEq, Nat.reducePow, String.reduceEq] <;> exact q
theorem part_lab {l : List Nat} {Q : T × Option T → Prop} (hl : l.length ≤ 100000) (q : Q (match labF l with | some r => .str (tx r) | none => .non, none)) : wp (f_part_word [.str (Str.ofString "label"), .str (tx l)]) Q := by
  unfold f_part_word b_part_word
  simp only [↓sA, sB, sC, if_true, if_false, forall_const, implies_true, forall_eq', false_imp_iff, oEq, oNe, eqT, oAdd, oNeg, oAbs, oMax2, oMin2, oInt, oLen, oIsN, oNotN, oIn, oNin, inT, eqF, oIsi, oIsi2, oList, oTuple, seqT, zp, enm, two, three, ioFind, ioCount, brOk, Bop.still, Bop.isI, T.ow, T.owl, T.nob, T.nobl, T.nfz, T.nfzl, T.fz, T.fzl, Bop.fit, Bop.res, Bop.bo, List.replicate, big, wipeE, reduceCtorEq, Nat.reduceAdd, Nat.reduceSub, Nat.reduceLT, Nat.reduceLeDiff, Int.reduceLT, Int.reduceLE, Int.reduceMul, Int.reducePow, Int.reduceToNat, Int.reduceAdd, Int.reduceSub, Int.reduceNeg, Int.reduceEq, Nat.reducePow, String.reduceEq]
  refine islab_ok hl ?_
  simp only [↓sA, sB, sC, if_true, if_false, forall_const, implies_true, forall_eq', false_imp_iff, oEq, oNe, eqT, oAdd, oNeg, oAbs, oMax2, oMin2, oInt, oLen, oIsN, oNotN, oIn, oNin, inT, eqF, oIsi, oIsi2, oList, oTuple, seqT, zp, enm, two, three, ioFind, ioCount, brOk, Bop.still, Bop.isI, T.ow, T.owl, T.nob, T.nobl, T.nfz, T.nfzl, T.fz, T.fzl, Bop.fit, Bop.res, Bop.bo, List.replicate, big, wipeE, reduceCtorEq, Nat.reduceAdd, Nat.reduceSub, Nat.reduceLT, Nat.reduceLeDiff, Int.reduceLT, Int.reduceLE, Int.reduceMul, Int.reducePow, Int.reduceToNat, Int.reduceAdd, Int.reduceSub, Int.reduceNeg, Int.reduceEq, Nat.reducePow, String.reduceEq]
  unfold labF at q
  split
  · rename_i h
    rw [if_pos h] at q
    exact q
  · rename_i h
    rw [if_neg h] at q
    exact q
theorem row_ok2 {l : List Nat} {Q : T × Option T → Prop} (hl : l.length ≤ 90000) (q : Q (match rowF l with | some r => r.t | none => .non, none)) : wp (f_row_read [.str (tx l)]) Q := by
  unfold f_row_read b_row_read
  unfold rowF at q
  have h1 := spl_word (S := [32]) l 0 []
  have h2 := spl_many (S := [32]) l 0 []
  simp only [↓sA, sB, sC, if_true, if_false, forall_const, implies_true, forall_eq', false_imp_iff, oEq, oNe, eqT, oAdd, oNeg, oAbs, oMax2, oMin2, oInt, oLen, oIsN, oNotN, oIn, oNin, inT, eqF, oIsi, oIsi2, oList, oTuple, seqT, zp, enm, two, three, ioFind, ioCount, brOk, Bop.still, Bop.isI, T.ow, T.owl, T.nob, T.nobl, T.nfz, T.nfzl, T.fz, T.fzl, Bop.fit, Bop.res, Bop.bo, List.replicate, big, wipeE, reduceCtorEq, Nat.reduceAdd, Nat.reduceSub, Nat.reduceLT, Nat.reduceLeDiff, Int.reduceLT, Int.reduceLE, Int.reduceMul, Int.reducePow, Int.reduceToNat, Int.reduceAdd, Int.reduceSub, Int.reduceNeg, Int.reduceEq, Nat.reducePow, String.reduceEq, tx_len, tx_chars, tx_cps, tx_cut, w_bS, kBs_ap, isS_str, isS_br, w_ixS, kIxS_ap, s_blank, w_split, tx_split (a := l) (b := [32]) (by decide) (by decide)]
  generalize TL.spl [32] 0 [] l = ws at *
  match ws, h2 with
  | [], h2 => exact absurd h2.1 (by decide)
  | w :: as, h2 =>
    simp only [↓sA, sB, sC, if_true, if_false, forall_const, implies_true, forall_eq', false_imp_iff, oEq, oNe, eqT, oAdd, oNeg, oAbs, oMax2, oMin2, oInt, oLen, oIsN, oNotN, oIn, oNin, inT, eqF, oIsi, oIsi2, oList, oTuple, seqT, zp, enm, two, three, ioFind, ioCount, brOk, Bop.still, Bop.isI, T.ow, T.owl, T.nob, T.nobl, T.nfz, T.nfzl, T.fz, T.fzl, Bop.fit, Bop.res, Bop.bo, List.replicate, big, wipeE, reduceCtorEq, Nat.reduceAdd, Nat.reduceSub, Nat.reduceLT, Nat.reduceLeDiff, Int.reduceLT, Int.reduceLE, Int.reduceMul, Int.reducePow, Int.reduceToNat, Int.reduceAdd, Int.reduceSub, Int.reduceNeg, Int.reduceEq, Nat.reducePow, String.reduceEq, List.map_cons]
    refine ⟨⟨rfl, by omega⟩, sorts_ok ?_⟩
    by_cases w0 : w = [115, 101, 116]
    · subst w0
      rw [← s_set, show srtT (Str.ofString "set") = .tup [.str "register", .str "number"] from rfl]
      unfold wordsF at q
      simp only [if_true, reduceIte, List.cons.injEq, Nat.reduceEqDiff, false_and, and_false, if_false, reduceCtorEq] at q
      match as with
      | [] => simp only [↓sA, sB, sC, if_true, if_false, forall_const, implies_true, forall_eq', false_imp_iff, oEq, oNe, eqT, oAdd, oNeg, oAbs, oMax2, oMin2, oInt, oLen, oIsN, oNotN, oIn, oNin, inT, eqF, oIsi, oIsi2, oList, oTuple, seqT, zp, enm, two, three, ioFind, ioCount, brOk, Bop.still, Bop.isI, T.ow, T.owl, T.nob, T.nobl, T.nfz, T.nfzl, T.fz, T.fzl, Bop.fit, Bop.res, Bop.bo, List.replicate, big, wipeE, reduceCtorEq, Nat.reduceAdd, Nat.reduceSub, Nat.reduceLT, Nat.reduceLeDiff, Int.reduceLT, Int.reduceLE, Int.reduceMul, Int.reducePow, Int.reduceToNat, Int.reduceAdd, Int.reduceSub, Int.reduceNeg, Int.reduceEq, Nat.reducePow, String.reduceEq, List.map_cons, List.map_nil]; exact q
      | [a] => simp only [↓sA, sB, sC, if_true, if_false, forall_const, implies_true, forall_eq', false_imp_iff, oEq, oNe, eqT, oAdd, oNeg, oAbs, oMax2, oMin2, oInt, oLen, oIsN, oNotN, oIn, oNin, inT, eqF, oIsi, oIsi2, oList, oTuple, seqT, zp, enm, two, three, ioFind, ioCount, brOk, Bop.still, Bop.isI, T.ow, T.owl, T.nob, T.nobl, T.nfz, T.nfzl, T.fz, T.fzl, Bop.fit, Bop.res, Bop.bo, List.replicate, big, wipeE, reduceCtorEq, Nat.reduceAdd, Nat.reduceSub, Nat.reduceLT, Nat.reduceLeDiff, Int.reduceLT, Int.reduceLE, Int.reduceMul, Int.reducePow, Int.reduceToNat, Int.reduceAdd, Int.reduceSub, Int.reduceNeg, Int.reduceEq, Nat.reducePow, String.reduceEq, List.map_cons, List.map_nil]; exact q
      | [a, b] =>
        dsimp only at q
        simp only [↓sA, sB, sC, if_true, if_false, forall_const, implies_true, forall_eq', false_imp_iff, oEq, oNe, eqT, oAdd, oNeg, oAbs, oMax2, oMin2, oInt, oLen, oIsN, oNotN, oIn, oNin, inT, eqF, oIsi, oIsi2, oList, oTuple, seqT, zp, enm, two, three, ioFind, ioCount, brOk, Bop.still, Bop.isI, T.ow, T.owl, T.nob, T.nobl, T.nfz, T.nfzl, T.fz, T.fzl, Bop.fit, Bop.res, Bop.bo, List.replicate, big, wipeE, reduceCtorEq, Nat.reduceAdd, Nat.reduceSub, Nat.reduceLT, Nat.reduceLeDiff, Int.reduceLT, Int.reduceLE, Int.reduceMul, Int.reducePow, Int.reduceToNat, Int.reduceAdd, Int.reduceSub, Int.reduceNeg, Int.reduceEq, Nat.reducePow, String.reduceEq, List.map_cons, List.map_nil, cut_from (show (0:Int) ≤ 1 by omega), List.drop_succ_cons, List.drop_zero, zipT, kLc0, Int.toNat_one]
        all_goals
          rw [w_lcCons]
          simp only [↓sA, sB, sC, if_true, if_false, forall_const, implies_true, forall_eq', false_imp_iff, oEq, oNe, eqT, oAdd, oNeg, oAbs, oMax2, oMin2, oInt, oLen, oIsN, oNotN, oIn, oNin, inT, eqF, oIsi, oIsi2, oList, oTuple, seqT, zp, enm, two, three, ioFind, ioCount, brOk, Bop.still, Bop.isI, T.ow, T.owl, T.nob, T.nobl, T.nfz, T.nfzl, T.fz, T.fzl, Bop.fit, Bop.res, Bop.bo, List.replicate, big, wipeE, reduceCtorEq, Nat.reduceAdd, Nat.reduceSub, Nat.reduceLT, Nat.reduceLeDiff, Int.reduceLT, Int.reduceLE, Int.reduceMul, Int.reducePow, Int.reduceToNat, Int.reduceAdd, Int.reduceSub, Int.reduceNeg, Int.reduceEq, Nat.reducePow, String.reduceEq]
          refine part_reg (by have := h1 a (by simp); simp at this; omega) ?_
          revert q
          cases regF a <;> intro q <;> simp only [↓sA, sB, sC, if_true, if_false, forall_const, implies_true, forall_eq', false_imp_iff, oEq, oNe, eqT, oAdd, oNeg, oAbs, oMax2, oMin2, oInt, oLen, oIsN, oNotN, oIn, oNin, inT, eqF, oIsi, oIsi2, oList, oTuple, seqT, zp, enm, two, three, ioFind, ioCount, brOk, Bop.still, Bop.isI, T.ow, T.owl, T.nob, T.nobl, T.nfz, T.nfzl, T.fz, T.fzl, Bop.fit, Bop.res, Bop.bo, List.replicate, big, wipeE, reduceCtorEq, Nat.reduceAdd, Nat.reduceSub, Nat.reduceLT, Nat.reduceLeDiff, Int.reduceLT, Int.reduceLE, Int.reduceMul, Int.reducePow, Int.reduceToNat, Int.reduceAdd, Int.reduceSub, Int.reduceNeg, Int.reduceEq, Nat.reducePow, String.reduceEq, Option.toList_some]
        all_goals
          rw [w_lcCons]
          simp only [↓sA, sB, sC, if_true, if_false, forall_const, implies_true, forall_eq', false_imp_iff, oEq, oNe, eqT, oAdd, oNeg, oAbs, oMax2, oMin2, oInt, oLen, oIsN, oNotN, oIn, oNin, inT, eqF, oIsi, oIsi2, oList, oTuple, seqT, zp, enm, two, three, ioFind, ioCount, brOk, Bop.still, Bop.isI, T.ow, T.owl, T.nob, T.nobl, T.nfz, T.nfzl, T.fz, T.fzl, Bop.fit, Bop.res, Bop.bo, List.replicate, big, wipeE, reduceCtorEq, Nat.reduceAdd, Nat.reduceSub, Nat.reduceLT, Nat.reduceLeDiff, Int.reduceLT, Int.reduceLE, Int.reduceMul, Int.reducePow, Int.reduceToNat, Int.reduceAdd, Int.reduceSub, Int.reduceNeg, Int.reduceEq, Nat.reducePow, String.reduceEq]
          refine part_num (by have := h1 b (by simp); simp at this; omega) ?_
          revert q
          cases numF b <;> intro q <;> simp only [↓sA, sB, sC, if_true, if_false, forall_const, implies_true, forall_eq', false_imp_iff, oEq, oNe, eqT, oAdd, oNeg, oAbs, oMax2, oMin2, oInt, oLen, oIsN, oNotN, oIn, oNin, inT, eqF, oIsi, oIsi2, oList, oTuple, seqT, zp, enm, two, three, ioFind, ioCount, brOk, Bop.still, Bop.isI, T.ow, T.owl, T.nob, T.nobl, T.nfz, T.nfzl, T.fz, T.fzl, Bop.fit, Bop.res, Bop.bo, List.replicate, big, wipeE, reduceCtorEq, Nat.reduceAdd, Nat.reduceSub, Nat.reduceLT, Nat.reduceLeDiff, Int.reduceLT, Int.reduceLE, Int.reduceMul, Int.reducePow, Int.reduceToNat, Int.reduceAdd, Int.reduceSub, Int.reduceNeg, Int.reduceEq, Nat.reducePow, String.reduceEq, Option.toList_some]
        all_goals exact q
      | a :: b :: c :: r =>
        simp only [↓sA, sB, sC, if_true, if_false, forall_const, implies_true, forall_eq', false_imp_iff, oEq, oNe, eqT, oAdd, oNeg, oAbs, oMax2, oMin2, oInt, oLen, oIsN, oNotN, oIn, oNin, inT, eqF, oIsi, oIsi2, oList, oTuple, seqT, zp, enm, two, three, ioFind, ioCount, brOk, Bop.still, Bop.isI, T.ow, T.owl, T.nob, T.nobl, T.nfz, T.nfzl, T.fz, T.fzl, Bop.fit, Bop.res, Bop.bo, List.replicate, big, wipeE, reduceCtorEq, Nat.reduceAdd, Nat.reduceSub, Nat.reduceLT, Nat.reduceLeDiff, Int.reduceLT, Int.reduceLE, Int.reduceMul, Int.reducePow, Int.reduceToNat, Int.reduceAdd, Int.reduceSub, Int.reduceNeg, Int.reduceEq, Nat.reducePow, String.reduceEq, List.map_cons, List.map_nil]
        rw [if_pos (by omega)]
        exact q
    by_cases w1 : w = [115, 117, 109]
    · subst w1
      rw [← s_sum, show srtT (Str.ofString "sum") = .tup [.str "register", .str "register"] from rfl]
      unfold wordsF at q
      simp only [if_true, reduceIte, List.cons.injEq, Nat.reduceEqDiff, false_and, and_false, if_false, reduceCtorEq] at q
      match as with
      | [] => simp only [↓sA, sB, sC, if_true, if_false, forall_const, implies_true, forall_eq', false_imp_iff, oEq, oNe, eqT, oAdd, oNeg, oAbs, oMax2, oMin2, oInt, oLen, oIsN, oNotN, oIn, oNin, inT, eqF, oIsi, oIsi2, oList, oTuple, seqT, zp, enm, two, three, ioFind, ioCount, brOk, Bop.still, Bop.isI, T.ow, T.owl, T.nob, T.nobl, T.nfz, T.nfzl, T.fz, T.fzl, Bop.fit, Bop.res, Bop.bo, List.replicate, big, wipeE, reduceCtorEq, Nat.reduceAdd, Nat.reduceSub, Nat.reduceLT, Nat.reduceLeDiff, Int.reduceLT, Int.reduceLE, Int.reduceMul, Int.reducePow, Int.reduceToNat, Int.reduceAdd, Int.reduceSub, Int.reduceNeg, Int.reduceEq, Nat.reducePow, String.reduceEq, List.map_cons, List.map_nil]; exact q
      | [a] => simp only [↓sA, sB, sC, if_true, if_false, forall_const, implies_true, forall_eq', false_imp_iff, oEq, oNe, eqT, oAdd, oNeg, oAbs, oMax2, oMin2, oInt, oLen, oIsN, oNotN, oIn, oNin, inT, eqF, oIsi, oIsi2, oList, oTuple, seqT, zp, enm, two, three, ioFind, ioCount, brOk, Bop.still, Bop.isI, T.ow, T.owl, T.nob, T.nobl, T.nfz, T.nfzl, T.fz, T.fzl, Bop.fit, Bop.res, Bop.bo, List.replicate, big, wipeE, reduceCtorEq, Nat.reduceAdd, Nat.reduceSub, Nat.reduceLT, Nat.reduceLeDiff, Int.reduceLT, Int.reduceLE, Int.reduceMul, Int.reducePow, Int.reduceToNat, Int.reduceAdd, Int.reduceSub, Int.reduceNeg, Int.reduceEq, Nat.reducePow, String.reduceEq, List.map_cons, List.map_nil]; exact q
      | [a, b] =>
        dsimp only at q
        simp only [↓sA, sB, sC, if_true, if_false, forall_const, implies_true, forall_eq', false_imp_iff, oEq, oNe, eqT, oAdd, oNeg, oAbs, oMax2, oMin2, oInt, oLen, oIsN, oNotN, oIn, oNin, inT, eqF, oIsi, oIsi2, oList, oTuple, seqT, zp, enm, two, three, ioFind, ioCount, brOk, Bop.still, Bop.isI, T.ow, T.owl, T.nob, T.nobl, T.nfz, T.nfzl, T.fz, T.fzl, Bop.fit, Bop.res, Bop.bo, List.replicate, big, wipeE, reduceCtorEq, Nat.reduceAdd, Nat.reduceSub, Nat.reduceLT, Nat.reduceLeDiff, Int.reduceLT, Int.reduceLE, Int.reduceMul, Int.reducePow, Int.reduceToNat, Int.reduceAdd, Int.reduceSub, Int.reduceNeg, Int.reduceEq, Nat.reducePow, String.reduceEq, List.map_cons, List.map_nil, cut_from (show (0:Int) ≤ 1 by omega), List.drop_succ_cons, List.drop_zero, zipT, kLc0, Int.toNat_one]
        all_goals
          rw [w_lcCons]
          simp only [↓sA, sB, sC, if_true, if_false, forall_const, implies_true, forall_eq', false_imp_iff, oEq, oNe, eqT, oAdd, oNeg, oAbs, oMax2, oMin2, oInt, oLen, oIsN, oNotN, oIn, oNin, inT, eqF, oIsi, oIsi2, oList, oTuple, seqT, zp, enm, two, three, ioFind, ioCount, brOk, Bop.still, Bop.isI, T.ow, T.owl, T.nob, T.nobl, T.nfz, T.nfzl, T.fz, T.fzl, Bop.fit, Bop.res, Bop.bo, List.replicate, big, wipeE, reduceCtorEq, Nat.reduceAdd, Nat.reduceSub, Nat.reduceLT, Nat.reduceLeDiff, Int.reduceLT, Int.reduceLE, Int.reduceMul, Int.reducePow, Int.reduceToNat, Int.reduceAdd, Int.reduceSub, Int.reduceNeg, Int.reduceEq, Nat.reducePow, String.reduceEq]
          refine part_reg (by have := h1 a (by simp); simp at this; omega) ?_
          revert q
          cases regF a <;> intro q <;> simp only [↓sA, sB, sC, if_true, if_false, forall_const, implies_true, forall_eq', false_imp_iff, oEq, oNe, eqT, oAdd, oNeg, oAbs, oMax2, oMin2, oInt, oLen, oIsN, oNotN, oIn, oNin, inT, eqF, oIsi, oIsi2, oList, oTuple, seqT, zp, enm, two, three, ioFind, ioCount, brOk, Bop.still, Bop.isI, T.ow, T.owl, T.nob, T.nobl, T.nfz, T.nfzl, T.fz, T.fzl, Bop.fit, Bop.res, Bop.bo, List.replicate, big, wipeE, reduceCtorEq, Nat.reduceAdd, Nat.reduceSub, Nat.reduceLT, Nat.reduceLeDiff, Int.reduceLT, Int.reduceLE, Int.reduceMul, Int.reducePow, Int.reduceToNat, Int.reduceAdd, Int.reduceSub, Int.reduceNeg, Int.reduceEq, Nat.reducePow, String.reduceEq, Option.toList_some]
        all_goals
          rw [w_lcCons]
          simp only [↓sA, sB, sC, if_true, if_false, forall_const, implies_true, forall_eq', false_imp_iff, oEq, oNe, eqT, oAdd, oNeg, oAbs, oMax2, oMin2, oInt, oLen, oIsN, oNotN, oIn, oNin, inT, eqF, oIsi, oIsi2, oList, oTuple, seqT, zp, enm, two, three, ioFind, ioCount, brOk, Bop.still, Bop.isI, T.ow, T.owl, T.nob, T.nobl, T.nfz, T.nfzl, T.fz, T.fzl, Bop.fit, Bop.res, Bop.bo, List.replicate, big, wipeE, reduceCtorEq, Nat.reduceAdd, Nat.reduceSub, Nat.reduceLT, Nat.reduceLeDiff, Int.reduceLT, Int.reduceLE, Int.reduceMul, Int.reducePow, Int.reduceToNat, Int.reduceAdd, Int.reduceSub, Int.reduceNeg, Int.reduceEq, Nat.reducePow, String.reduceEq]
          refine part_reg (by have := h1 b (by simp); simp at this; omega) ?_
          revert q
          cases regF b <;> intro q <;> simp only [↓sA, sB, sC, if_true, if_false, forall_const, implies_true, forall_eq', false_imp_iff, oEq, oNe, eqT, oAdd, oNeg, oAbs, oMax2, oMin2, oInt, oLen, oIsN, oNotN, oIn, oNin, inT, eqF, oIsi, oIsi2, oList, oTuple, seqT, zp, enm, two, three, ioFind, ioCount, brOk, Bop.still, Bop.isI, T.ow, T.owl, T.nob, T.nobl, T.nfz, T.nfzl, T.fz, T.fzl, Bop.fit, Bop.res, Bop.bo, List.replicate, big, wipeE, reduceCtorEq, Nat.reduceAdd, Nat.reduceSub, Nat.reduceLT, Nat.reduceLeDiff, Int.reduceLT, Int.reduceLE, Int.reduceMul, Int.reducePow, Int.reduceToNat, Int.reduceAdd, Int.reduceSub, Int.reduceNeg, Int.reduceEq, Nat.reducePow, String.reduceEq, Option.toList_some]
        all_goals exact q
      | a :: b :: c :: r =>
        simp only [↓sA, sB, sC, if_true, if_false, forall_const, implies_true, forall_eq', false_imp_iff, oEq, oNe, eqT, oAdd, oNeg, oAbs, oMax2, oMin2, oInt, oLen, oIsN, oNotN, oIn, oNin, inT, eqF, oIsi, oIsi2, oList, oTuple, seqT, zp, enm, two, three, ioFind, ioCount, brOk, Bop.still, Bop.isI, T.ow, T.owl, T.nob, T.nobl, T.nfz, T.nfzl, T.fz, T.fzl, Bop.fit, Bop.res, Bop.bo, List.replicate, big, wipeE, reduceCtorEq, Nat.reduceAdd, Nat.reduceSub, Nat.reduceLT, Nat.reduceLeDiff, Int.reduceLT, Int.reduceLE, Int.reduceMul, Int.reducePow, Int.reduceToNat, Int.reduceAdd, Int.reduceSub, Int.reduceNeg, Int.reduceEq, Nat.reducePow, String.reduceEq, List.map_cons, List.map_nil]
        rw [if_pos (by omega)]
        exact q
    by_cases w2 : w = [108, 101, 115, 115]
    · subst w2
      rw [← s_less, show srtT (Str.ofString "less") = .tup [.str "register", .str "register"] from rfl]
      unfold wordsF at q
      simp only [if_true, reduceIte, List.cons.injEq, Nat.reduceEqDiff, false_and, and_false, if_false, reduceCtorEq] at q
      match as with
      | [] => simp only [↓sA, sB, sC, if_true, if_false, forall_const, implies_true, forall_eq', false_imp_iff, oEq, oNe, eqT, oAdd, oNeg, oAbs, oMax2, oMin2, oInt, oLen, oIsN, oNotN, oIn, oNin, inT, eqF, oIsi, oIsi2, oList, oTuple, seqT, zp, enm, two, three, ioFind, ioCount, brOk, Bop.still, Bop.isI, T.ow, T.owl, T.nob, T.nobl, T.nfz, T.nfzl, T.fz, T.fzl, Bop.fit, Bop.res, Bop.bo, List.replicate, big, wipeE, reduceCtorEq, Nat.reduceAdd, Nat.reduceSub, Nat.reduceLT, Nat.reduceLeDiff, Int.reduceLT, Int.reduceLE, Int.reduceMul, Int.reducePow, Int.reduceToNat, Int.reduceAdd, Int.reduceSub, Int.reduceNeg, Int.reduceEq, Nat.reducePow, String.reduceEq, List.map_cons, List.map_nil]; exact q
      | [a] => simp only [↓sA, sB, sC, if_true, if_false, forall_const, implies_true, forall_eq', false_imp_iff, oEq, oNe, eqT, oAdd, oNeg, oAbs, oMax2, oMin2, oInt, oLen, oIsN, oNotN, oIn, oNin, inT, eqF, oIsi, oIsi2, oList, oTuple, seqT, zp, enm, two, three, ioFind, ioCount, brOk, Bop.still, Bop.isI, T.ow, T.owl, T.nob, T.nobl, T.nfz, T.nfzl, T.fz, T.fzl, Bop.fit, Bop.res, Bop.bo, List.replicate, big, wipeE, reduceCtorEq, Nat.reduceAdd, Nat.reduceSub, Nat.reduceLT, Nat.reduceLeDiff, Int.reduceLT, Int.reduceLE, Int.reduceMul, Int.reducePow, Int.reduceToNat, Int.reduceAdd, Int.reduceSub, Int.reduceNeg, Int.reduceEq, Nat.reducePow, String.reduceEq, List.map_cons, List.map_nil]; exact q
      | [a, b] =>
        dsimp only at q
        simp only [↓sA, sB, sC, if_true, if_false, forall_const, implies_true, forall_eq', false_imp_iff, oEq, oNe, eqT, oAdd, oNeg, oAbs, oMax2, oMin2, oInt, oLen, oIsN, oNotN, oIn, oNin, inT, eqF, oIsi, oIsi2, oList, oTuple, seqT, zp, enm, two, three, ioFind, ioCount, brOk, Bop.still, Bop.isI, T.ow, T.owl, T.nob, T.nobl, T.nfz, T.nfzl, T.fz, T.fzl, Bop.fit, Bop.res, Bop.bo, List.replicate, big, wipeE, reduceCtorEq, Nat.reduceAdd, Nat.reduceSub, Nat.reduceLT, Nat.reduceLeDiff, Int.reduceLT, Int.reduceLE, Int.reduceMul, Int.reducePow, Int.reduceToNat, Int.reduceAdd, Int.reduceSub, Int.reduceNeg, Int.reduceEq, Nat.reducePow, String.reduceEq, List.map_cons, List.map_nil, cut_from (show (0:Int) ≤ 1 by omega), List.drop_succ_cons, List.drop_zero, zipT, kLc0, Int.toNat_one]
        all_goals
          rw [w_lcCons]
          simp only [↓sA, sB, sC, if_true, if_false, forall_const, implies_true, forall_eq', false_imp_iff, oEq, oNe, eqT, oAdd, oNeg, oAbs, oMax2, oMin2, oInt, oLen, oIsN, oNotN, oIn, oNin, inT, eqF, oIsi, oIsi2, oList, oTuple, seqT, zp, enm, two, three, ioFind, ioCount, brOk, Bop.still, Bop.isI, T.ow, T.owl, T.nob, T.nobl, T.nfz, T.nfzl, T.fz, T.fzl, Bop.fit, Bop.res, Bop.bo, List.replicate, big, wipeE, reduceCtorEq, Nat.reduceAdd, Nat.reduceSub, Nat.reduceLT, Nat.reduceLeDiff, Int.reduceLT, Int.reduceLE, Int.reduceMul, Int.reducePow, Int.reduceToNat, Int.reduceAdd, Int.reduceSub, Int.reduceNeg, Int.reduceEq, Nat.reducePow, String.reduceEq]
          refine part_reg (by have := h1 a (by simp); simp at this; omega) ?_
          revert q
          cases regF a <;> intro q <;> simp only [↓sA, sB, sC, if_true, if_false, forall_const, implies_true, forall_eq', false_imp_iff, oEq, oNe, eqT, oAdd, oNeg, oAbs, oMax2, oMin2, oInt, oLen, oIsN, oNotN, oIn, oNin, inT, eqF, oIsi, oIsi2, oList, oTuple, seqT, zp, enm, two, three, ioFind, ioCount, brOk, Bop.still, Bop.isI, T.ow, T.owl, T.nob, T.nobl, T.nfz, T.nfzl, T.fz, T.fzl, Bop.fit, Bop.res, Bop.bo, List.replicate, big, wipeE, reduceCtorEq, Nat.reduceAdd, Nat.reduceSub, Nat.reduceLT, Nat.reduceLeDiff, Int.reduceLT, Int.reduceLE, Int.reduceMul, Int.reducePow, Int.reduceToNat, Int.reduceAdd, Int.reduceSub, Int.reduceNeg, Int.reduceEq, Nat.reducePow, String.reduceEq, Option.toList_some]
        all_goals
          rw [w_lcCons]
          simp only [↓sA, sB, sC, if_true, if_false, forall_const, implies_true, forall_eq', false_imp_iff, oEq, oNe, eqT, oAdd, oNeg, oAbs, oMax2, oMin2, oInt, oLen, oIsN, oNotN, oIn, oNin, inT, eqF, oIsi, oIsi2, oList, oTuple, seqT, zp, enm, two, three, ioFind, ioCount, brOk, Bop.still, Bop.isI, T.ow, T.owl, T.nob, T.nobl, T.nfz, T.nfzl, T.fz, T.fzl, Bop.fit, Bop.res, Bop.bo, List.replicate, big, wipeE, reduceCtorEq, Nat.reduceAdd, Nat.reduceSub, Nat.reduceLT, Nat.reduceLeDiff, Int.reduceLT, Int.reduceLE, Int.reduceMul, Int.reducePow, Int.reduceToNat, Int.reduceAdd, Int.reduceSub, Int.reduceNeg, Int.reduceEq, Nat.reducePow, String.reduceEq]
          refine part_reg (by have := h1 b (by simp); simp at this; omega) ?_
          revert q
          cases regF b <;> intro q <;> simp only [↓sA, sB, sC, if_true, if_false, forall_const, implies_true, forall_eq', false_imp_iff, oEq, oNe, eqT, oAdd, oNeg, oAbs, oMax2, oMin2, oInt, oLen, oIsN, oNotN, oIn, oNin, inT, eqF, oIsi, oIsi2, oList, oTuple, seqT, zp, enm, two, three, ioFind, ioCount, brOk, Bop.still, Bop.isI, T.ow, T.owl, T.nob, T.nobl, T.nfz, T.nfzl, T.fz, T.fzl, Bop.fit, Bop.res, Bop.bo, List.replicate, big, wipeE, reduceCtorEq, Nat.reduceAdd, Nat.reduceSub, Nat.reduceLT, Nat.reduceLeDiff, Int.reduceLT, Int.reduceLE, Int.reduceMul, Int.reducePow, Int.reduceToNat, Int.reduceAdd, Int.reduceSub, Int.reduceNeg, Int.reduceEq, Nat.reducePow, String.reduceEq, Option.toList_some]
        all_goals exact q
      | a :: b :: c :: r =>
        simp only [↓sA, sB, sC, if_true, if_false, forall_const, implies_true, forall_eq', false_imp_iff, oEq, oNe, eqT, oAdd, oNeg, oAbs, oMax2, oMin2, oInt, oLen, oIsN, oNotN, oIn, oNin, inT, eqF, oIsi, oIsi2, oList, oTuple, seqT, zp, enm, two, three, ioFind, ioCount, brOk, Bop.still, Bop.isI, T.ow, T.owl, T.nob, T.nobl, T.nfz, T.nfzl, T.fz, T.fzl, Bop.fit, Bop.res, Bop.bo, List.replicate, big, wipeE, reduceCtorEq, Nat.reduceAdd, Nat.reduceSub, Nat.reduceLT, Nat.reduceLeDiff, Int.reduceLT, Int.reduceLE, Int.reduceMul, Int.reducePow, Int.reduceToNat, Int.reduceAdd, Int.reduceSub, Int.reduceNeg, Int.reduceEq, Nat.reducePow, String.reduceEq, List.map_cons, List.map_nil]
        rw [if_pos (by omega)]
        exact q
    by_cases w3 : w = [116, 101, 108, 108]
    · subst w3
      rw [← s_tell, show srtT (Str.ofString "tell") = .tup [.str "register"] from rfl]
      unfold wordsF at q
      simp only [if_true, reduceIte, List.cons.injEq, Nat.reduceEqDiff, false_and, and_false, if_false, reduceCtorEq] at q
      match as with
      | [] => simp only [↓sA, sB, sC, if_true, if_false, forall_const, implies_true, forall_eq', false_imp_iff, oEq, oNe, eqT, oAdd, oNeg, oAbs, oMax2, oMin2, oInt, oLen, oIsN, oNotN, oIn, oNin, inT, eqF, oIsi, oIsi2, oList, oTuple, seqT, zp, enm, two, three, ioFind, ioCount, brOk, Bop.still, Bop.isI, T.ow, T.owl, T.nob, T.nobl, T.nfz, T.nfzl, T.fz, T.fzl, Bop.fit, Bop.res, Bop.bo, List.replicate, big, wipeE, reduceCtorEq, Nat.reduceAdd, Nat.reduceSub, Nat.reduceLT, Nat.reduceLeDiff, Int.reduceLT, Int.reduceLE, Int.reduceMul, Int.reducePow, Int.reduceToNat, Int.reduceAdd, Int.reduceSub, Int.reduceNeg, Int.reduceEq, Nat.reducePow, String.reduceEq, List.map_cons, List.map_nil]; exact q
      | [a] =>
        dsimp only at q
        simp only [↓sA, sB, sC, if_true, if_false, forall_const, implies_true, forall_eq', false_imp_iff, oEq, oNe, eqT, oAdd, oNeg, oAbs, oMax2, oMin2, oInt, oLen, oIsN, oNotN, oIn, oNin, inT, eqF, oIsi, oIsi2, oList, oTuple, seqT, zp, enm, two, three, ioFind, ioCount, brOk, Bop.still, Bop.isI, T.ow, T.owl, T.nob, T.nobl, T.nfz, T.nfzl, T.fz, T.fzl, Bop.fit, Bop.res, Bop.bo, List.replicate, big, wipeE, reduceCtorEq, Nat.reduceAdd, Nat.reduceSub, Nat.reduceLT, Nat.reduceLeDiff, Int.reduceLT, Int.reduceLE, Int.reduceMul, Int.reducePow, Int.reduceToNat, Int.reduceAdd, Int.reduceSub, Int.reduceNeg, Int.reduceEq, Nat.reducePow, String.reduceEq, List.map_cons, List.map_nil, cut_from (show (0:Int) ≤ 1 by omega), List.drop_succ_cons, List.drop_zero, zipT, kLc0, Int.toNat_one]
        all_goals
          rw [w_lcCons]
          simp only [↓sA, sB, sC, if_true, if_false, forall_const, implies_true, forall_eq', false_imp_iff, oEq, oNe, eqT, oAdd, oNeg, oAbs, oMax2, oMin2, oInt, oLen, oIsN, oNotN, oIn, oNin, inT, eqF, oIsi, oIsi2, oList, oTuple, seqT, zp, enm, two, three, ioFind, ioCount, brOk, Bop.still, Bop.isI, T.ow, T.owl, T.nob, T.nobl, T.nfz, T.nfzl, T.fz, T.fzl, Bop.fit, Bop.res, Bop.bo, List.replicate, big, wipeE, reduceCtorEq, Nat.reduceAdd, Nat.reduceSub, Nat.reduceLT, Nat.reduceLeDiff, Int.reduceLT, Int.reduceLE, Int.reduceMul, Int.reducePow, Int.reduceToNat, Int.reduceAdd, Int.reduceSub, Int.reduceNeg, Int.reduceEq, Nat.reducePow, String.reduceEq]
          refine part_reg (by have := h1 a (by simp); simp at this; omega) ?_
          revert q
          cases regF a <;> intro q <;> simp only [↓sA, sB, sC, if_true, if_false, forall_const, implies_true, forall_eq', false_imp_iff, oEq, oNe, eqT, oAdd, oNeg, oAbs, oMax2, oMin2, oInt, oLen, oIsN, oNotN, oIn, oNin, inT, eqF, oIsi, oIsi2, oList, oTuple, seqT, zp, enm, two, three, ioFind, ioCount, brOk, Bop.still, Bop.isI, T.ow, T.owl, T.nob, T.nobl, T.nfz, T.nfzl, T.fz, T.fzl, Bop.fit, Bop.res, Bop.bo, List.replicate, big, wipeE, reduceCtorEq, Nat.reduceAdd, Nat.reduceSub, Nat.reduceLT, Nat.reduceLeDiff, Int.reduceLT, Int.reduceLE, Int.reduceMul, Int.reducePow, Int.reduceToNat, Int.reduceAdd, Int.reduceSub, Int.reduceNeg, Int.reduceEq, Nat.reducePow, String.reduceEq, Option.toList_some]
        all_goals exact q
      | [a, b] => simp only [↓sA, sB, sC, if_true, if_false, forall_const, implies_true, forall_eq', false_imp_iff, oEq, oNe, eqT, oAdd, oNeg, oAbs, oMax2, oMin2, oInt, oLen, oIsN, oNotN, oIn, oNin, inT, eqF, oIsi, oIsi2, oList, oTuple, seqT, zp, enm, two, three, ioFind, ioCount, brOk, Bop.still, Bop.isI, T.ow, T.owl, T.nob, T.nobl, T.nfz, T.nfzl, T.fz, T.fzl, Bop.fit, Bop.res, Bop.bo, List.replicate, big, wipeE, reduceCtorEq, Nat.reduceAdd, Nat.reduceSub, Nat.reduceLT, Nat.reduceLeDiff, Int.reduceLT, Int.reduceLE, Int.reduceMul, Int.reducePow, Int.reduceToNat, Int.reduceAdd, Int.reduceSub, Int.reduceNeg, Int.reduceEq, Nat.reducePow, String.reduceEq, List.map_cons, List.map_nil]; exact q
      | a :: b :: c :: r =>
        simp only [↓sA, sB, sC, if_true, if_false, forall_const, implies_true, forall_eq', false_imp_iff, oEq, oNe, eqT, oAdd, oNeg, oAbs, oMax2, oMin2, oInt, oLen, oIsN, oNotN, oIn, oNin, inT, eqF, oIsi, oIsi2, oList, oTuple, seqT, zp, enm, two, three, ioFind, ioCount, brOk, Bop.still, Bop.isI, T.ow, T.owl, T.nob, T.nobl, T.nfz, T.nfzl, T.fz, T.fzl, Bop.fit, Bop.res, Bop.bo, List.replicate, big, wipeE, reduceCtorEq, Nat.reduceAdd, Nat.reduceSub, Nat.reduceLT, Nat.reduceLeDiff, Int.reduceLT, Int.reduceLE, Int.reduceMul, Int.reducePow, Int.reduceToNat, Int.reduceAdd, Int.reduceSub, Int.reduceNeg, Int.reduceEq, Nat.reducePow, String.reduceEq, List.map_cons, List.map_nil]
        rw [if_pos (by omega)]
        exact q
    by_cases w4 : w = [103, 111]
    · subst w4
      rw [← s_go, show srtT (Str.ofString "go") = .tup [.str "label"] from rfl]
      unfold wordsF at q
      simp only [if_true, reduceIte, List.cons.injEq, Nat.reduceEqDiff, false_and, and_false, if_false, reduceCtorEq] at q
      match as with
      | [] => simp only [↓sA, sB, sC, if_true, if_false, forall_const, implies_true, forall_eq', false_imp_iff, oEq, oNe, eqT, oAdd, oNeg, oAbs, oMax2, oMin2, oInt, oLen, oIsN, oNotN, oIn, oNin, inT, eqF, oIsi, oIsi2, oList, oTuple, seqT, zp, enm, two, three, ioFind, ioCount, brOk, Bop.still, Bop.isI, T.ow, T.owl, T.nob, T.nobl, T.nfz, T.nfzl, T.fz, T.fzl, Bop.fit, Bop.res, Bop.bo, List.replicate, big, wipeE, reduceCtorEq, Nat.reduceAdd, Nat.reduceSub, Nat.reduceLT, Nat.reduceLeDiff, Int.reduceLT, Int.reduceLE, Int.reduceMul, Int.reducePow, Int.reduceToNat, Int.reduceAdd, Int.reduceSub, Int.reduceNeg, Int.reduceEq, Nat.reducePow, String.reduceEq, List.map_cons, List.map_nil]; exact q
      | [a] =>
        dsimp only at q
        simp only [↓sA, sB, sC, if_true, if_false, forall_const, implies_true, forall_eq', false_imp_iff, oEq, oNe, eqT, oAdd, oNeg, oAbs, oMax2, oMin2, oInt, oLen, oIsN, oNotN, oIn, oNin, inT, eqF, oIsi, oIsi2, oList, oTuple, seqT, zp, enm, two, three, ioFind, ioCount, brOk, Bop.still, Bop.isI, T.ow, T.owl, T.nob, T.nobl, T.nfz, T.nfzl, T.fz, T.fzl, Bop.fit, Bop.res, Bop.bo, List.replicate, big, wipeE, reduceCtorEq, Nat.reduceAdd, Nat.reduceSub, Nat.reduceLT, Nat.reduceLeDiff, Int.reduceLT, Int.reduceLE, Int.reduceMul, Int.reducePow, Int.reduceToNat, Int.reduceAdd, Int.reduceSub, Int.reduceNeg, Int.reduceEq, Nat.reducePow, String.reduceEq, List.map_cons, List.map_nil, cut_from (show (0:Int) ≤ 1 by omega), List.drop_succ_cons, List.drop_zero, zipT, kLc0, Int.toNat_one]
        all_goals
          rw [w_lcCons]
          simp only [↓sA, sB, sC, if_true, if_false, forall_const, implies_true, forall_eq', false_imp_iff, oEq, oNe, eqT, oAdd, oNeg, oAbs, oMax2, oMin2, oInt, oLen, oIsN, oNotN, oIn, oNin, inT, eqF, oIsi, oIsi2, oList, oTuple, seqT, zp, enm, two, three, ioFind, ioCount, brOk, Bop.still, Bop.isI, T.ow, T.owl, T.nob, T.nobl, T.nfz, T.nfzl, T.fz, T.fzl, Bop.fit, Bop.res, Bop.bo, List.replicate, big, wipeE, reduceCtorEq, Nat.reduceAdd, Nat.reduceSub, Nat.reduceLT, Nat.reduceLeDiff, Int.reduceLT, Int.reduceLE, Int.reduceMul, Int.reducePow, Int.reduceToNat, Int.reduceAdd, Int.reduceSub, Int.reduceNeg, Int.reduceEq, Nat.reducePow, String.reduceEq]
          refine part_lab (by have := h1 a (by simp); simp at this; omega) ?_
          revert q
          cases labF a <;> intro q <;> simp only [↓sA, sB, sC, if_true, if_false, forall_const, implies_true, forall_eq', false_imp_iff, oEq, oNe, eqT, oAdd, oNeg, oAbs, oMax2, oMin2, oInt, oLen, oIsN, oNotN, oIn, oNin, inT, eqF, oIsi, oIsi2, oList, oTuple, seqT, zp, enm, two, three, ioFind, ioCount, brOk, Bop.still, Bop.isI, T.ow, T.owl, T.nob, T.nobl, T.nfz, T.nfzl, T.fz, T.fzl, Bop.fit, Bop.res, Bop.bo, List.replicate, big, wipeE, reduceCtorEq, Nat.reduceAdd, Nat.reduceSub, Nat.reduceLT, Nat.reduceLeDiff, Int.reduceLT, Int.reduceLE, Int.reduceMul, Int.reducePow, Int.reduceToNat, Int.reduceAdd, Int.reduceSub, Int.reduceNeg, Int.reduceEq, Nat.reducePow, String.reduceEq, Option.toList_some]
        all_goals exact q
      | [a, b] => simp only [↓sA, sB, sC, if_true, if_false, forall_const, implies_true, forall_eq', false_imp_iff, oEq, oNe, eqT, oAdd, oNeg, oAbs, oMax2, oMin2, oInt, oLen, oIsN, oNotN, oIn, oNin, inT, eqF, oIsi, oIsi2, oList, oTuple, seqT, zp, enm, two, three, ioFind, ioCount, brOk, Bop.still, Bop.isI, T.ow, T.owl, T.nob, T.nobl, T.nfz, T.nfzl, T.fz, T.fzl, Bop.fit, Bop.res, Bop.bo, List.replicate, big, wipeE, reduceCtorEq, Nat.reduceAdd, Nat.reduceSub, Nat.reduceLT, Nat.reduceLeDiff, Int.reduceLT, Int.reduceLE, Int.reduceMul, Int.reducePow, Int.reduceToNat, Int.reduceAdd, Int.reduceSub, Int.reduceNeg, Int.reduceEq, Nat.reducePow, String.reduceEq, List.map_cons, List.map_nil]; exact q
      | a :: b :: c :: r =>
        simp only [↓sA, sB, sC, if_true, if_false, forall_const, implies_true, forall_eq', false_imp_iff, oEq, oNe, eqT, oAdd, oNeg, oAbs, oMax2, oMin2, oInt, oLen, oIsN, oNotN, oIn, oNin, inT, eqF, oIsi, oIsi2, oList, oTuple, seqT, zp, enm, two, three, ioFind, ioCount, brOk, Bop.still, Bop.isI, T.ow, T.owl, T.nob, T.nobl, T.nfz, T.nfzl, T.fz, T.fzl, Bop.fit, Bop.res, Bop.bo, List.replicate, big, wipeE, reduceCtorEq, Nat.reduceAdd, Nat.reduceSub, Nat.reduceLT, Nat.reduceLeDiff, Int.reduceLT, Int.reduceLE, Int.reduceMul, Int.reducePow, Int.reduceToNat, Int.reduceAdd, Int.reduceSub, Int.reduceNeg, Int.reduceEq, Nat.reducePow, String.reduceEq, List.map_cons, List.map_nil]
        rw [if_pos (by omega)]
        exact q
    by_cases w5 : w = [110, 105, 108]
    · subst w5
      rw [← s_nil, show srtT (Str.ofString "nil") = .tup [.str "register", .str "label"] from rfl]
      unfold wordsF at q
      simp only [if_true, reduceIte, List.cons.injEq, Nat.reduceEqDiff, false_and, and_false, if_false, reduceCtorEq] at q
      match as with
      | [] => simp only [↓sA, sB, sC, if_true, if_false, forall_const, implies_true, forall_eq', false_imp_iff, oEq, oNe, eqT, oAdd, oNeg, oAbs, oMax2, oMin2, oInt, oLen, oIsN, oNotN, oIn, oNin, inT, eqF, oIsi, oIsi2, oList, oTuple, seqT, zp, enm, two, three, ioFind, ioCount, brOk, Bop.still, Bop.isI, T.ow, T.owl, T.nob, T.nobl, T.nfz, T.nfzl, T.fz, T.fzl, Bop.fit, Bop.res, Bop.bo, List.replicate, big, wipeE, reduceCtorEq, Nat.reduceAdd, Nat.reduceSub, Nat.reduceLT, Nat.reduceLeDiff, Int.reduceLT, Int.reduceLE, Int.reduceMul, Int.reducePow, Int.reduceToNat, Int.reduceAdd, Int.reduceSub, Int.reduceNeg, Int.reduceEq, Nat.reducePow, String.reduceEq, List.map_cons, List.map_nil]; exact q
      | [a] => simp only [↓sA, sB, sC, if_true, if_false, forall_const, implies_true, forall_eq', false_imp_iff, oEq, oNe, eqT, oAdd, oNeg, oAbs, oMax2, oMin2, oInt, oLen, oIsN, oNotN, oIn, oNin, inT, eqF, oIsi, oIsi2, oList, oTuple, seqT, zp, enm, two, three, ioFind, ioCount, brOk, Bop.still, Bop.isI, T.ow, T.owl, T.nob, T.nobl, T.nfz, T.nfzl, T.fz, T.fzl, Bop.fit, Bop.res, Bop.bo, List.replicate, big, wipeE, reduceCtorEq, Nat.reduceAdd, Nat.reduceSub, Nat.reduceLT, Nat.reduceLeDiff, Int.reduceLT, Int.reduceLE, Int.reduceMul, Int.reducePow, Int.reduceToNat, Int.reduceAdd, Int.reduceSub, Int.reduceNeg, Int.reduceEq, Nat.reducePow, String.reduceEq, List.map_cons, List.map_nil]; exact q
      | [a, b] =>
        dsimp only at q
        simp only [↓sA, sB, sC, if_true, if_false, forall_const, implies_true, forall_eq', false_imp_iff, oEq, oNe, eqT, oAdd, oNeg, oAbs, oMax2, oMin2, oInt, oLen, oIsN, oNotN, oIn, oNin, inT, eqF, oIsi, oIsi2, oList, oTuple, seqT, zp, enm, two, three, ioFind, ioCount, brOk, Bop.still, Bop.isI, T.ow, T.owl, T.nob, T.nobl, T.nfz, T.nfzl, T.fz, T.fzl, Bop.fit, Bop.res, Bop.bo, List.replicate, big, wipeE, reduceCtorEq, Nat.reduceAdd, Nat.reduceSub, Nat.reduceLT, Nat.reduceLeDiff, Int.reduceLT, Int.reduceLE, Int.reduceMul, Int.reducePow, Int.reduceToNat, Int.reduceAdd, Int.reduceSub, Int.reduceNeg, Int.reduceEq, Nat.reducePow, String.reduceEq, List.map_cons, List.map_nil, cut_from (show (0:Int) ≤ 1 by omega), List.drop_succ_cons, List.drop_zero, zipT, kLc0, Int.toNat_one]
        all_goals
          rw [w_lcCons]
          simp only [↓sA, sB, sC, if_true, if_false, forall_const, implies_true, forall_eq', false_imp_iff, oEq, oNe, eqT, oAdd, oNeg, oAbs, oMax2, oMin2, oInt, oLen, oIsN, oNotN, oIn, oNin, inT, eqF, oIsi, oIsi2, oList, oTuple, seqT, zp, enm, two, three, ioFind, ioCount, brOk, Bop.still, Bop.isI, T.ow, T.owl, T.nob, T.nobl, T.nfz, T.nfzl, T.fz, T.fzl, Bop.fit, Bop.res, Bop.bo, List.replicate, big, wipeE, reduceCtorEq, Nat.reduceAdd, Nat.reduceSub, Nat.reduceLT, Nat.reduceLeDiff, Int.reduceLT, Int.reduceLE, Int.reduceMul, Int.reducePow, Int.reduceToNat, Int.reduceAdd, Int.reduceSub, Int.reduceNeg, Int.reduceEq, Nat.reducePow, String.reduceEq]
          refine part_reg (by have := h1 a (by simp); simp at this; omega) ?_
          revert q
          cases regF a <;> intro q <;> simp only [↓sA, sB, sC, if_true, if_false, forall_const, implies_true, forall_eq', false_imp_iff, oEq, oNe, eqT, oAdd, oNeg, oAbs, oMax2, oMin2, oInt, oLen, oIsN, oNotN, oIn, oNin, inT, eqF, oIsi, oIsi2, oList, oTuple, seqT, zp, enm, two, three, ioFind, ioCount, brOk, Bop.still, Bop.isI, T.ow, T.owl, T.nob, T.nobl, T.nfz, T.nfzl, T.fz, T.fzl, Bop.fit, Bop.res, Bop.bo, List.replicate, big, wipeE, reduceCtorEq, Nat.reduceAdd, Nat.reduceSub, Nat.reduceLT, Nat.reduceLeDiff, Int.reduceLT, Int.reduceLE, Int.reduceMul, Int.reducePow, Int.reduceToNat, Int.reduceAdd, Int.reduceSub, Int.reduceNeg, Int.reduceEq, Nat.reducePow, String.reduceEq, Option.toList_some]
        all_goals
          rw [w_lcCons]
          simp only [↓sA, sB, sC, if_true, if_false, forall_const, implies_true, forall_eq', false_imp_iff, oEq, oNe, eqT, oAdd, oNeg, oAbs, oMax2, oMin2, oInt, oLen, oIsN, oNotN, oIn, oNin, inT, eqF, oIsi, oIsi2, oList, oTuple, seqT, zp, enm, two, three, ioFind, ioCount, brOk, Bop.still, Bop.isI, T.ow, T.owl, T.nob, T.nobl, T.nfz, T.nfzl, T.fz, T.fzl, Bop.fit, Bop.res, Bop.bo, List.replicate, big, wipeE, reduceCtorEq, Nat.reduceAdd, Nat.reduceSub, Nat.reduceLT, Nat.reduceLeDiff, Int.reduceLT, Int.reduceLE, Int.reduceMul, Int.reducePow, Int.reduceToNat, Int.reduceAdd, Int.reduceSub, Int.reduceNeg, Int.reduceEq, Nat.reducePow, String.reduceEq]
          refine part_lab (by have := h1 b (by simp); simp at this; omega) ?_
          revert q
          cases labF b <;> intro q <;> simp only [↓sA, sB, sC, if_true, if_false, forall_const, implies_true, forall_eq', false_imp_iff, oEq, oNe, eqT, oAdd, oNeg, oAbs, oMax2, oMin2, oInt, oLen, oIsN, oNotN, oIn, oNin, inT, eqF, oIsi, oIsi2, oList, oTuple, seqT, zp, enm, two, three, ioFind, ioCount, brOk, Bop.still, Bop.isI, T.ow, T.owl, T.nob, T.nobl, T.nfz, T.nfzl, T.fz, T.fzl, Bop.fit, Bop.res, Bop.bo, List.replicate, big, wipeE, reduceCtorEq, Nat.reduceAdd, Nat.reduceSub, Nat.reduceLT, Nat.reduceLeDiff, Int.reduceLT, Int.reduceLE, Int.reduceMul, Int.reducePow, Int.reduceToNat, Int.reduceAdd, Int.reduceSub, Int.reduceNeg, Int.reduceEq, Nat.reducePow, String.reduceEq, Option.toList_some]
        all_goals exact q
      | a :: b :: c :: r =>
        simp only [↓sA, sB, sC, if_true, if_false, forall_const, implies_true, forall_eq', false_imp_iff, oEq, oNe, eqT, oAdd, oNeg, oAbs, oMax2, oMin2, oInt, oLen, oIsN, oNotN, oIn, oNin, inT, eqF, oIsi, oIsi2, oList, oTuple, seqT, zp, enm, two, three, ioFind, ioCount, brOk, Bop.still, Bop.isI, T.ow, T.owl, T.nob, T.nobl, T.nfz, T.nfzl, T.fz, T.fzl, Bop.fit, Bop.res, Bop.bo, List.replicate, big, wipeE, reduceCtorEq, Nat.reduceAdd, Nat.reduceSub, Nat.reduceLT, Nat.reduceLeDiff, Int.reduceLT, Int.reduceLE, Int.reduceMul, Int.reducePow, Int.reduceToNat, Int.reduceAdd, Int.reduceSub, Int.reduceNeg, Int.reduceEq, Nat.reducePow, String.reduceEq, List.map_cons, List.map_nil]
        rw [if_pos (by omega)]
        exact q
    by_cases w6 : w = [115, 116, 111, 112]
    · subst w6
      rw [← s_stop, show srtT (Str.ofString "stop") = .tup [] from rfl]
      unfold wordsF at q
      simp only [if_true, reduceIte, List.cons.injEq, Nat.reduceEqDiff, false_and, and_false, if_false, reduceCtorEq] at q
      match as with
      | [] =>
        dsimp only at q
        simp only [↓sA, sB, sC, if_true, if_false, forall_const, implies_true, forall_eq', false_imp_iff, oEq, oNe, eqT, oAdd, oNeg, oAbs, oMax2, oMin2, oInt, oLen, oIsN, oNotN, oIn, oNin, inT, eqF, oIsi, oIsi2, oList, oTuple, seqT, zp, enm, two, three, ioFind, ioCount, brOk, Bop.still, Bop.isI, T.ow, T.owl, T.nob, T.nobl, T.nfz, T.nfzl, T.fz, T.fzl, Bop.fit, Bop.res, Bop.bo, List.replicate, big, wipeE, reduceCtorEq, Nat.reduceAdd, Nat.reduceSub, Nat.reduceLT, Nat.reduceLeDiff, Int.reduceLT, Int.reduceLE, Int.reduceMul, Int.reducePow, Int.reduceToNat, Int.reduceAdd, Int.reduceSub, Int.reduceNeg, Int.reduceEq, Nat.reducePow, String.reduceEq, List.map_cons, List.map_nil, cut_from (show (0:Int) ≤ 1 by omega), List.drop_succ_cons, List.drop_zero, zipT, kLc0, Int.toNat_one]
        all_goals exact q
      | [a] => simp only [↓sA, sB, sC, if_true, if_false, forall_const, implies_true, forall_eq', false_imp_iff, oEq, oNe, eqT, oAdd, oNeg, oAbs, oMax2, oMin2, oInt, oLen, oIsN, oNotN, oIn, oNin, inT, eqF, oIsi, oIsi2, oList, oTuple, seqT, zp, enm, two, three, ioFind, ioCount, brOk, Bop.still, Bop.isI, T.ow, T.owl, T.nob, T.nobl, T.nfz, T.nfzl, T.fz, T.fzl, Bop.fit, Bop.res, Bop.bo, List.replicate, big, wipeE, reduceCtorEq, Nat.reduceAdd, Nat.reduceSub, Nat.reduceLT, Nat.reduceLeDiff, Int.reduceLT, Int.reduceLE, Int.reduceMul, Int.reducePow, Int.reduceToNat, Int.reduceAdd, Int.reduceSub, Int.reduceNeg, Int.reduceEq, Nat.reducePow, String.reduceEq, List.map_cons, List.map_nil]; exact q
      | [a, b] => simp only [↓sA, sB, sC, if_true, if_false, forall_const, implies_true, forall_eq', false_imp_iff, oEq, oNe, eqT, oAdd, oNeg, oAbs, oMax2, oMin2, oInt, oLen, oIsN, oNotN, oIn, oNin, inT, eqF, oIsi, oIsi2, oList, oTuple, seqT, zp, enm, two, three, ioFind, ioCount, brOk, Bop.still, Bop.isI, T.ow, T.owl, T.nob, T.nobl, T.nfz, T.nfzl, T.fz, T.fzl, Bop.fit, Bop.res, Bop.bo, List.replicate, big, wipeE, reduceCtorEq, Nat.reduceAdd, Nat.reduceSub, Nat.reduceLT, Nat.reduceLeDiff, Int.reduceLT, Int.reduceLE, Int.reduceMul, Int.reducePow, Int.reduceToNat, Int.reduceAdd, Int.reduceSub, Int.reduceNeg, Int.reduceEq, Nat.reducePow, String.reduceEq, List.map_cons, List.map_nil]; exact q
      | a :: b :: c :: r =>
        simp only [↓sA, sB, sC, if_true, if_false, forall_const, implies_true, forall_eq', false_imp_iff, oEq, oNe, eqT, oAdd, oNeg, oAbs, oMax2, oMin2, oInt, oLen, oIsN, oNotN, oIn, oNin, inT, eqF, oIsi, oIsi2, oList, oTuple, seqT, zp, enm, two, three, ioFind, ioCount, brOk, Bop.still, Bop.isI, T.ow, T.owl, T.nob, T.nobl, T.nfz, T.nfzl, T.fz, T.fzl, Bop.fit, Bop.res, Bop.bo, List.replicate, big, wipeE, reduceCtorEq, Nat.reduceAdd, Nat.reduceSub, Nat.reduceLT, Nat.reduceLeDiff, Int.reduceLT, Int.reduceLE, Int.reduceMul, Int.reducePow, Int.reduceToNat, Int.reduceAdd, Int.reduceSub, Int.reduceNeg, Int.reduceEq, Nat.reducePow, String.reduceEq, List.map_cons, List.map_nil]
        rw [if_pos (by omega)]
        exact q
    have e : srtT (tx w) = .non := by
      unfold srtT
      rw [s_set, s_sum, s_less, s_tell, s_go, s_nil, s_stop]
      simp only [tx_inj]
      rw [if_neg (fun z => w0 z.symm), if_neg (fun z => w1 z.symm), if_neg (fun z => w2 z.symm), if_neg (fun z => w3 z.symm), if_neg (fun z => w4 z.symm), if_neg (fun z => w5 z.symm), if_neg (fun z => w6 z.symm)]
    rw [e]
    unfold wordsF at q
    dsimp only at q
    rw [if_neg w0, if_neg w1, if_neg w2, if_neg w3, if_neg w4, if_neg w5, if_neg w6] at q
    simp only [↓sA, sB, sC, if_true, if_false, forall_const, implies_true, forall_eq', false_imp_iff, oEq, oNe, eqT, oAdd, oNeg, oAbs, oMax2, oMin2, oInt, oLen, oIsN, oNotN, oIn, oNin, inT, eqF, oIsi, oIsi2, oList, oTuple, seqT, zp, enm, two, three, ioFind, ioCount, brOk, Bop.still, Bop.isI, T.ow, T.owl, T.nob, T.nobl, T.nfz, T.nfzl, T.fz, T.fzl, Bop.fit, Bop.res, Bop.bo, List.replicate, big, wipeE, reduceCtorEq, Nat.reduceAdd, Nat.reduceSub, Nat.reduceLT, Nat.reduceLeDiff, Int.reduceLT, Int.reduceLE, Int.reduceMul, Int.reducePow, Int.reduceToNat, Int.reduceAdd, Int.reduceSub, Int.reduceNeg, Int.reduceEq, Nat.reducePow, String.reduceEq]
    exact q
end NP
end
section
namespace NP
open PySem L2 QL
def b__law_same (rec : Fn) : SM :=
  sSeq (sIf (tV (eOp (oIsi2 .list .tuple) (aCons (bV 1) aNil))) (sSeq (sIf (tOrS (tV (eOp oNe (aCons (bE (eOp (oIsi .list) (aCons (bV 0) aNil))) (aCons (bE (eOp (oIsi .list) (aCons (bV 1) aNil))) aNil)))) (tV (eOp oNe (aCons (bE (eOp (oIsi .tuple) (aCons (bV 0) aNil))) (aCons (bE (eOp (oIsi .tuple) (aCons (bV 1) aNil))) aNil))))) (sRet (eC (.bl false))) (sNil))
    (sSeq (sIf (tV (eOp oNe (aCons (bE (eOp oLen (aCons (bV 0) (aNil)))) (aCons (bE (eOp oLen (aCons (bV 1) (aNil)))) aNil)))) (sRet (eC (.bl false))) (sNil))
    (sRet (eOp oAll (aCons (bE (eLc (iRng zp (aCons (bV 0) (aCons (bV 1) (aNil)))) (gT 2 (gsC (gN 2) (gsC (gN 3) (gsN)))) (cYes) (eCall none none rec (aCons (bV 2) (aCons (bV 3) (aNil)))) [2, 3])) (aNil)))))) (sNil))
    (sSeq (sIf (tOrS (tV (eOp oIsN (aCons (bV 1) (aCons (bE (eC .non)) aNil)))) (tV (eOp (oIsi .str) (aCons (bV 1) aNil)))) (sRet (eAnd (eOp oEq (aCons (bV 0) (aCons (bV 1) aNil))) (eOp oEq (aCons (bE (eOp (oIsi .str) (aCons (bV 0) aNil))) (aCons (bE (eOp (oIsi .str) (aCons (bV 1) aNil))) aNil))))) (sNil))
    (sSeq (sIf (tV (eOp (oIsi .bool) (aCons (bV 1) aNil))) (sRet (eAnd (eOp (oIsi .bool) (aCons (bV 0) aNil)) (eOp oEq (aCons (bV 0) (aCons (bV 1) aNil))))) (sNil))
    (sRet (eAnd (eOp (oIsi .int) (aCons (bV 0) aNil)) (eAnd (eNot (eOp (oIsi .bool) (aCons (bV 0) aNil))) (eOp oEq (aCons (bV 0) (aCons (bV 1) aNil))))))))
def f__law_same : Nat → Fn
  | 0 => fun _ => stk
  | k + 1 => fnN 2 4 none (b__law_same (f__law_same k))
/-- plain: ints, texts, truths, None, tuples and frozen lists of these, so deep at most -/
def Pl : Nat → T → Prop
  | _, .int _ => True
  | _, .str _ => True
  | _, .non => True
  | _, .bl _ => True
  | k + 1, .tup xs => xs.length ≤ big ∧ ∀ x ∈ xs, Pl k x
  | k + 1, .lst false xs => xs.length ≤ big ∧ ∀ x ∈ xs, Pl k x
  | _, _ => False
theorem owl_all : ∀ {xs : List T}, (∀ x ∈ xs, x.ow = false) → T.owl xs = false
  | [], _ => rfl
  | x :: xs, h => by
    simp only [T.owl, Bool.or_eq_false_iff]
    exact ⟨h x List.mem_cons_self, owl_all fun y hy => h y (List.mem_cons_of_mem _ hy)⟩
theorem Pl.ow : ∀ {k : Nat} {t : T}, Pl k t → t.ow = false := by
  intro k
  induction k with
  | zero => intro t h; cases t with
    | lst o xs => cases o <;> exact absurd h (by simp [Pl])
    | _ => first | rfl | exact absurd h (by simp [Pl])
  | succ k ih =>
    intro t h
    cases t with
    | tup xs => simp only [Pl] at h; exact owl_all fun x hx => ih (h.2 x hx)
    | lst o xs =>
      cases o with
      | false => simp only [Pl] at h; show (false || T.owl xs) = false; rw [owl_all fun x hx => ih (h.2 x hx)]; rfl
      | true => exact absurd h (by simp [Pl])
    | _ => first | rfl | exact absurd h (by simp [Pl])
theorem Pl.up : ∀ {k : Nat} {t : T}, Pl k t → Pl (k + 1) t := by
  intro k
  induction k with
  | zero => intro t h; cases t with
    | lst o xs => cases o <;> exact absurd h (by simp [Pl])
    | _ => first | trivial | exact absurd h (by simp [Pl])
  | succ k ih =>
    intro t h
    cases t with
    | tup xs => simp only [Pl] at h ⊢; exact ⟨h.1, fun x hx => ih (h.2 x hx)⟩
    | lst o xs =>
      cases o with
      | false => simp only [Pl] at h ⊢; exact ⟨h.1, fun x hx => ih (h.2 x hx)⟩
      | true => exact absurd h (by simp [Pl])
    | _ => first | trivial | exact absurd h (by simp [Pl])
theorem Pl.mono {k n : Nat} {t : T} (h : Pl k t) (hn : k ≤ n) : Pl n t := by
  induction hn with
  | refl => exact h
  | step _ ih => exact ih.up
theorem zip_self : ∀ {xs : List T}, zipT xs xs = xs.map fun x => .pr [x, x]
  | [] => rfl
  | x :: xs => by simp only [zipT, List.map_cons, zip_self]
theorem same_ok : ∀ (k : Nat) (t : T), Pl k t → ∀ Q : T × Option T → Prop, Q (.bl true, none) → wp (f__law_same (k + 1) [t, t]) Q := by
  intro k
  have flat : ∀ (k : Nat) (t : T), t.flat = true → ∀ Q : T × Option T → Prop, Q (.bl true, none) → wp (f__law_same (k + 1) [t, t]) Q := by
    intro k t h Q q
    unfold f__law_same b__law_same
    cases t with
    | int i => simp only [↓sA, sB, sC, if_true, if_false, forall_const, implies_true, forall_eq', false_imp_iff, oEq, oNe, eqT, oAdd, oNeg, oAbs, oMax2, oMin2, oInt, oLen, oIsN, oNotN, oIn, oNin, inT, eqF, oIsi, oIsi2, oList, oTuple, seqT, zp, enm, two, three, ioFind, ioCount, brOk, Bop.still, Bop.isI, T.ow, T.owl, T.nob, T.nobl, T.nfz, T.nfzl, T.fz, T.fzl, Bop.fit, Bop.res, Bop.bo, List.replicate, big, wipeE, reduceCtorEq, Nat.reduceAdd, Nat.reduceSub, Nat.reduceLT, Nat.reduceLeDiff, Int.reduceLT, Int.reduceLE, Int.reduceMul, Int.reducePow, Int.reduceToNat, Int.reduceAdd, Int.reduceSub, Int.reduceNeg, Int.reduceEq, Nat.reducePow, String.reduceEq]; exact q
    | str s => simp only [↓sA, sB, sC, if_true, if_false, forall_const, implies_true, forall_eq', false_imp_iff, oEq, oNe, eqT, oAdd, oNeg, oAbs, oMax2, oMin2, oInt, oLen, oIsN, oNotN, oIn, oNin, inT, eqF, oIsi, oIsi2, oList, oTuple, seqT, zp, enm, two, three, ioFind, ioCount, brOk, Bop.still, Bop.isI, T.ow, T.owl, T.nob, T.nobl, T.nfz, T.nfzl, T.fz, T.fzl, Bop.fit, Bop.res, Bop.bo, List.replicate, big, wipeE, reduceCtorEq, Nat.reduceAdd, Nat.reduceSub, Nat.reduceLT, Nat.reduceLeDiff, Int.reduceLT, Int.reduceLE, Int.reduceMul, Int.reducePow, Int.reduceToNat, Int.reduceAdd, Int.reduceSub, Int.reduceNeg, Int.reduceEq, Nat.reducePow, String.reduceEq]; exact q
    | non => simp only [↓sA, sB, sC, if_true, if_false, forall_const, implies_true, forall_eq', false_imp_iff, oEq, oNe, eqT, oAdd, oNeg, oAbs, oMax2, oMin2, oInt, oLen, oIsN, oNotN, oIn, oNin, inT, eqF, oIsi, oIsi2, oList, oTuple, seqT, zp, enm, two, three, ioFind, ioCount, brOk, Bop.still, Bop.isI, T.ow, T.owl, T.nob, T.nobl, T.nfz, T.nfzl, T.fz, T.fzl, Bop.fit, Bop.res, Bop.bo, List.replicate, big, wipeE, reduceCtorEq, Nat.reduceAdd, Nat.reduceSub, Nat.reduceLT, Nat.reduceLeDiff, Int.reduceLT, Int.reduceLE, Int.reduceMul, Int.reducePow, Int.reduceToNat, Int.reduceAdd, Int.reduceSub, Int.reduceNeg, Int.reduceEq, Nat.reducePow, String.reduceEq]; exact q
    | bl b => simp only [↓sA, sB, sC, if_true, if_false, forall_const, implies_true, forall_eq', false_imp_iff, oEq, oNe, eqT, oAdd, oNeg, oAbs, oMax2, oMin2, oInt, oLen, oIsN, oNotN, oIn, oNin, inT, eqF, oIsi, oIsi2, oList, oTuple, seqT, zp, enm, two, three, ioFind, ioCount, brOk, Bop.still, Bop.isI, T.ow, T.owl, T.nob, T.nobl, T.nfz, T.nfzl, T.fz, T.fzl, Bop.fit, Bop.res, Bop.bo, List.replicate, big, wipeE, reduceCtorEq, Nat.reduceAdd, Nat.reduceSub, Nat.reduceLT, Nat.reduceLeDiff, Int.reduceLT, Int.reduceLE, Int.reduceMul, Int.reducePow, Int.reduceToNat, Int.reduceAdd, Int.reduceSub, Int.reduceNeg, Int.reduceEq, Nat.reducePow, String.reduceEq]; exact q
    | _ => exact absurd h (by simp [T.flat])
  induction k with
  | zero =>
    intro t h Q q
    cases t with
    | lst o xs => cases o <;> exact absurd h (by simp [Pl])
    | _ => first | exact flat 0 _ rfl Q q | exact absurd h (by simp [Pl])
  | succ k ih =>
    intro t h Q q
    have seq : ∀ (xs : List T) (env : En), (∀ x ∈ xs, Pl k x) → (env.length = 4 ∧ (wipeE env [2, 3]) = env) → ∀ P : List T × En → Prop, P (xs.map fun _ => T.bl true, env) →
        wp (lcGo (gT 2 (gsC (gN 2) (gsC (gN 3) gsN))) cYes (eCall none none (f__law_same (k + 1)) (aCons (bV 2) (aCons (bV 3) aNil))) [2, 3] (xs.map fun x => T.pr [x, x]) env) P := by
      intro xs env hx he P hp
      refine lc_map (h := fun _ => T.bl true) (fun x hm Q' q' => ?_) hp
      have hp' := hx x hm
      have ho := hp'.ow
      obtain ⟨he1, he2⟩ := he
      match env, he1 with
      | [a, b, c, d], _ =>
        simp only [wipeE, List.set_cons_succ, List.set_cons_zero, List.cons.injEq, true_and, and_true] at he2
        obtain ⟨rfl, rfl⟩ := he2
        simp only [↓sA, sB, sC, if_true, if_false, forall_const, implies_true, forall_eq', false_imp_iff, oEq, oNe, eqT, oAdd, oNeg, oAbs, oMax2, oMin2, oInt, oLen, oIsN, oNotN, oIn, oNin, inT, eqF, oIsi, oIsi2, oList, oTuple, seqT, zp, enm, two, three, ioFind, ioCount, brOk, Bop.still, Bop.isI, T.ow, T.owl, T.nob, T.nobl, T.nfz, T.nfzl, T.fz, T.fzl, Bop.fit, Bop.res, Bop.bo, List.replicate, big, wipeE, reduceCtorEq, Nat.reduceAdd, Nat.reduceSub, Nat.reduceLT, Nat.reduceLeDiff, Int.reduceLT, Int.reduceLE, Int.reduceMul, Int.reducePow, Int.reduceToNat, Int.reduceAdd, Int.reduceSub, Int.reduceNeg, Int.reduceEq, Nat.reducePow, String.reduceEq, ho, zip_self]
        refine ih x hp' _ ?_
        simp only [↓sA, sB, sC, if_true, if_false, forall_const, implies_true, forall_eq', false_imp_iff, oEq, oNe, eqT, oAdd, oNeg, oAbs, oMax2, oMin2, oInt, oLen, oIsN, oNotN, oIn, oNin, inT, eqF, oIsi, oIsi2, oList, oTuple, seqT, zp, enm, two, three, ioFind, ioCount, brOk, Bop.still, Bop.isI, T.ow, T.owl, T.nob, T.nobl, T.nfz, T.nfzl, T.fz, T.fzl, Bop.fit, Bop.res, Bop.bo, List.replicate, big, wipeE, reduceCtorEq, Nat.reduceAdd, Nat.reduceSub, Nat.reduceLT, Nat.reduceLeDiff, Int.reduceLT, Int.reduceLE, Int.reduceMul, Int.reducePow, Int.reduceToNat, Int.reduceAdd, Int.reduceSub, Int.reduceNeg, Int.reduceEq, Nat.reducePow, String.reduceEq, ho, zip_self]
        exact q'
    cases t with
    | tup xs =>
      have ho : T.owl xs = false := h.ow
      have h1 := h.1
      simp only [big] at h1
      unfold f__law_same b__law_same
      simp only [↓sA, sB, sC, if_true, if_false, forall_const, implies_true, forall_eq', false_imp_iff, oEq, oNe, eqT, oAdd, oNeg, oAbs, oMax2, oMin2, oInt, oLen, oIsN, oNotN, oIn, oNin, inT, eqF, oIsi, oIsi2, oList, oTuple, seqT, zp, enm, two, three, ioFind, ioCount, brOk, Bop.still, Bop.isI, T.ow, T.owl, T.nob, T.nobl, T.nfz, T.nfzl, T.fz, T.fzl, Bop.fit, Bop.res, Bop.bo, List.replicate, big, wipeE, reduceCtorEq, Nat.reduceAdd, Nat.reduceSub, Nat.reduceLT, Nat.reduceLeDiff, Int.reduceLT, Int.reduceLE, Int.reduceMul, Int.reducePow, Int.reduceToNat, Int.reduceAdd, Int.reduceSub, Int.reduceNeg, Int.reduceEq, Nat.reducePow, String.reduceEq, ho, zip_self]
      refine ⟨h1, seq xs _ h.2 ⟨rfl, rfl⟩ _ ?_⟩
      simp only [↓sA, sB, sC, if_true, if_false, forall_const, implies_true, forall_eq', false_imp_iff, oEq, oNe, eqT, oAdd, oNeg, oAbs, oMax2, oMin2, oInt, oLen, oIsN, oNotN, oIn, oNin, inT, eqF, oIsi, oIsi2, oList, oTuple, seqT, zp, enm, two, three, ioFind, ioCount, brOk, Bop.still, Bop.isI, T.ow, T.owl, T.nob, T.nobl, T.nfz, T.nfzl, T.fz, T.fzl, Bop.fit, Bop.res, Bop.bo, List.replicate, big, wipeE, reduceCtorEq, Nat.reduceAdd, Nat.reduceSub, Nat.reduceLT, Nat.reduceLeDiff, Int.reduceLT, Int.reduceLE, Int.reduceMul, Int.reducePow, Int.reduceToNat, Int.reduceAdd, Int.reduceSub, Int.reduceNeg, Int.reduceEq, Nat.reducePow, String.reduceEq]
      exact q
    | lst o xs =>
      cases o with
      | true => exact absurd h (by simp [Pl])
      | false =>
        have ho : T.owl xs = false := by have := h.ow; simpa only [T.ow, Bool.false_or] using this
        have h1 := h.1
        simp only [big] at h1
        unfold f__law_same b__law_same
        simp only [↓sA, sB, sC, if_true, if_false, forall_const, implies_true, forall_eq', false_imp_iff, oEq, oNe, eqT, oAdd, oNeg, oAbs, oMax2, oMin2, oInt, oLen, oIsN, oNotN, oIn, oNin, inT, eqF, oIsi, oIsi2, oList, oTuple, seqT, zp, enm, two, three, ioFind, ioCount, brOk, Bop.still, Bop.isI, T.ow, T.owl, T.nob, T.nobl, T.nfz, T.nfzl, T.fz, T.fzl, Bop.fit, Bop.res, Bop.bo, List.replicate, big, wipeE, reduceCtorEq, Nat.reduceAdd, Nat.reduceSub, Nat.reduceLT, Nat.reduceLeDiff, Int.reduceLT, Int.reduceLE, Int.reduceMul, Int.reducePow, Int.reduceToNat, Int.reduceAdd, Int.reduceSub, Int.reduceNeg, Int.reduceEq, Nat.reducePow, String.reduceEq, ho, zip_self]
        refine ⟨h1, seq xs _ h.2 ⟨rfl, rfl⟩ _ ?_⟩
        simp only [↓sA, sB, sC, if_true, if_false, forall_const, implies_true, forall_eq', false_imp_iff, oEq, oNe, eqT, oAdd, oNeg, oAbs, oMax2, oMin2, oInt, oLen, oIsN, oNotN, oIn, oNin, inT, eqF, oIsi, oIsi2, oList, oTuple, seqT, zp, enm, two, three, ioFind, ioCount, brOk, Bop.still, Bop.isI, T.ow, T.owl, T.nob, T.nobl, T.nfz, T.nfzl, T.fz, T.fzl, Bop.fit, Bop.res, Bop.bo, List.replicate, big, wipeE, reduceCtorEq, Nat.reduceAdd, Nat.reduceSub, Nat.reduceLT, Nat.reduceLeDiff, Int.reduceLT, Int.reduceLE, Int.reduceMul, Int.reducePow, Int.reduceToNat, Int.reduceAdd, Int.reduceSub, Int.reduceNeg, Int.reduceEq, Nat.reducePow, String.reduceEq]
        exact q
    | _ => first | exact flat _ _ rfl Q q | exact absurd h (by simp [Pl])
theorem same12 {t : T} (h : Pl 11 t) {Q : T × Option T → Prop} (q : Q (.bl true, none)) : wp (f__law_same 12 [t, t]) Q := same_ok 11 t h Q q
theorem pl_tup {k : Nat} {ts : List T} (hl : ts.length ≤ big) (h : ∀ x, x ∈ ts → Pl k x) : Pl (k + 1) (.tup ts) := ⟨hl, h⟩
theorem pl_lst {k : Nat} {ts : List T} (hl : ts.length ≤ big) (h : ∀ x, x ∈ ts → Pl k x) : Pl (k + 1) (.lst false ts) := ⟨hl, h⟩
theorem pl_int {k : Nat} {i : Int} : Pl k (.int i) := by cases k <;> trivial
theorem pl_str {k : Nat} {i : Str} : Pl k (.str i) := by cases k <;> trivial
end NP
end
section
namespace NP
open PySem L2 QL
def b__law_is_great : SM :=
  sRet (eAnd (eOp oEq (aCons (bE (eOp oIx (aCons (bV 0) (aCons (bE (eC (.int 0))) aNil)))) (aCons (bE (eC (.str "set"))) aNil))) (eOp oGt (aCons (bE (eOp oIx (aCons (bV 0) (aCons (bE (eC (.int 2))) aNil)))) (aCons (bE (eC (.int 99))) aNil))))
def f__law_is_great : Fn := fnN 1 1 none b__law_is_great
def b__law_size : SM :=
  sRet (eIf (tOrS (tV (eCall none none f__law_is_great (aCons (bE (eOp oIx (aCons (bV 0) (aCons (bV 2) aNil)))) (aNil)))) (tV (eOp oIn (aCons (bV 2) (aCons (bV 1) aNil))))) (eC (.int 2)) (eC (.int 1)))
def f__law_size : Fn := fnN 3 3 none b__law_size
def b__law_placed : SM :=
  sSeq (sPar3 (aCons (bE (eLst (aNil))) (aCons (bE (eLst (aNil))) (aCons (bE (eC (.int 0))) (aNil)))) 4 5 6)
    (sSeq (sFor (iRng rng1 (aCons (bE (eOp oAdd (aCons (bE (eOp oLen (aCons (bV 0) (aNil)))) (aCons (bE (eC (.int 1))) aNil)))) (aNil))) (gN 3)
    (sSeq (sFor (iSeq (bV 2)) (gT 2 (gsC (gN 7) (gsC (gN 8) (gsN))))
    (sIf (tV (eOp oEq (aCons (bV 7) (aCons (bV 3) aNil)))) (sSeq (sAsg (eOp oAdd (aCons (bV 6) (aCons (bE (eOp oMul (aCons (bE (eC (.int 2))) (aCons (bE (eOp oInt (aCons (bE (eOr (eOp oEq (aCons (bV 3) (aCons (bE (eC (.int 0))) aNil))) (eOp oNin (aCons (bE (eOp oIx (aCons (bE (eOp oIx (aCons (bV 0) (aCons (bE (eOp oSub (aCons (bV 3) (aCons (bE (eC (.int 1))) aNil)))) aNil)))) (aCons (bE (eC (.int 0))) aNil)))) (aCons (bE (eTup (aCons (bE (eC (.str "go"))) (aCons (bE (eC (.str "stop"))) (aNil))))) aNil))))) (aNil)))) aNil)))) aNil))) (gN 6))
    (sSeq (sAsg (eOp oSub (aCons (bE (eOp oAdd (aCons (bV 6) (aCons (bE (eC (.int 2))) aNil)))) (aCons (bE (eOp oMod (aCons (bV 6) (aCons (bE (eC (.int 2))) aNil)))) aNil))) (gN 6))
    (sSeq (sDrop (eMut 5 T.isLst mAppend (aCons (bE (eVar 6)) (aNil))))
    (sAsg (eOp oAdd (aCons (bV 6) (aCons (bE (eOp oMul (aCons (bE (eC (.int 2))) (aCons (bE (eOp oLen (aCons (bV 8) (aNil)))) aNil)))) aNil))) (gN 6))))) (sNil)))
    (sIf (tV (eOp oLt (aCons (bV 3) (aCons (bE (eOp oLen (aCons (bV 0) (aNil)))) aNil)))) (sSeq (sDrop (eMut 4 T.isLst mAppend (aCons (bE (eVar 6)) (aNil))))
    (sAsg (eOp oAdd (aCons (bV 6) (aCons (bE (eCall none none f__law_size (aCons (bV 0) (aCons (bV 1) (aCons (bV 3) (aNil)))))) aNil))) (gN 6))) (sNil))))
    (sRet (eTup (aCons (bE (eMv 4)) (aCons (bE (eMv 5)) (aCons (bE (eVar 6)) (aNil)))))))
def f__law_placed : Fn := fnN 3 9 none b__law_placed
def b_row_size : SM :=
  sRet (eIf (tOrS (tV (eVar 1)) (tAndS (tV (eOp oEq (aCons (bE (eOp oIx (aCons (bV 0) (aCons (bE (eC (.int 0))) aNil)))) (aCons (bE (eC (.str "set"))) aNil)))) (tV (eOp oGt (aCons (bE (eOp oIx (aCons (bV 0) (aCons (bE (eC (.int 2))) aNil)))) (aCons (bE (eC (.int 99))) aNil)))))) (eC (.int 2)) (eC (.int 1)))
def f_row_size : Fn := fnN 2 2 none b_row_size
def b_first_word : SM :=
  sSeq (sAsg (eOp oAdd (aCons (bV 0) (aCons (bE (eOp oMul (aCons (bE (eC (.int 2))) (aCons (bE (eOp oInt (aCons (bV 1) (aNil)))) aNil)))) aNil))) (gN 2))
    (sRet (eOp oSub (aCons (bE (eOp oAdd (aCons (bV 2) (aCons (bE (eC (.int 2))) aNil)))) (aCons (bE (eOp oMod (aCons (bV 2) (aCons (bE (eC (.int 2))) aNil)))) aNil))))
def f_first_word : Fn := fnN 2 3 none b_first_word
def b_has_over : SM :=
  sRet (eOr (eOp oEq (aCons (bV 1) (aCons (bE (eC (.int 0))) aNil))) (eCall none none f_falls (aCons (bE (eOp oIx (aCons (bV 0) (aCons (bE (eOp oSub (aCons (bV 1) (aCons (bE (eC (.int 1))) aNil)))) aNil)))) (aNil))))
def f_has_over : Fn := fnN 2 2 none b_has_over
def b_placed : SM :=
  sSeq (sAsg (eOp oDict (aCons (bE (eLc (iSeq (bV 1)) (gN 9) (cYes) (eTup (aCons (bE (eVar 9)) (aCons (bE (eC (.bl true))) (aNil)))) [9])) (aNil))) (gN 3))
    (sSeq (sAsg (eOp oDict (aCons (bE (eLc (iSeq (bV 2)) (gT 2 (gsC (gN 8) (gsC (gN 10) (gsN)))) (cYes) (eTup (aCons (bE (eVar 8)) (aCons (bE (eOp oLen (aCons (bV 10) (aNil)))) (aNil)))) [8, 10])) (aNil))) (gN 4))
    (sSeq (sAsg (eLst (aNil)) (gN 5))
    (sSeq (sAsg (eLst (aNil)) (gN 6))
    (sSeq (sAsg (eC (.int 0)) (gN 7))
    (sSeq (sFor (iRng rng1 (aCons (bE (eOp oAdd (aCons (bE (eOp oLen (aCons (bV 0) (aNil)))) (aCons (bE (eC (.int 1))) aNil)))) (aNil))) (gN 8)
    (sSeq (sIf (tV (eOp oDIn (aCons (bV 8) (aCons (bV 4) aNil)))) (sSeq (sDrop (eMut 6 T.isLst mAppend (aCons (bE (eCall none none f_first_word (aCons (bE (eAl 7)) (aCons (bE (eCall none none f_has_over (aCons (bV 0) (aCons (bV 8) (aNil))))) (aNil))))) (aNil))))
    (sAsg (eOp oAdd (aCons (bE (eOp oIx (aCons (bV 6) (aCons (bE (eOp oNeg (aCons (bE (eC (.int 1))) aNil))) aNil)))) (aCons (bE (eOp oMul (aCons (bE (eC (.int 2))) (aCons (bE (eOp oDIx (aCons (bV 4) (aCons (bV 8) aNil)))) aNil)))) aNil))) (gN 7))) (sNil))
    (sIf (tV (eOp oLt (aCons (bV 8) (aCons (bE (eOp oLen (aCons (bV 0) (aNil)))) aNil)))) (sSeq (sDrop (eMut 5 T.isLst mAppend (aCons (bE (eAl 7)) (aNil))))
    (sAug 7 (eCall none none f_row_size (aCons (bE (eOp oIx (aCons (bV 0) (aCons (bV 8) aNil)))) (aCons (bE (eOp oDIn (aCons (bV 8) (aCons (bV 3) aNil)))) (aNil)))))) (sNil))))
    (sRet (eTup (aCons (bE (eMv 5)) (aCons (bE (eMv 6)) (aCons (bE (eMv 7)) (aNil)))))))))))
def f_placed : Fn := fnN 3 11 none b_placed
abbrev Pool := Int × List Int
def pt (p : Pool) : T := .tup [.int p.1, .tup (p.2.map T.int)]
structure St where
  pl : List Int
  bg : List Int
  here : Int
def over (rows : List Row) (k : Nat) : Bool := match k with
  | 0 => true
  | k + 1 => (rows[k]?.map Row.falls).getD true
def firstW (h : Int) (o : Bool) : Int := h + 2 * (if o = true then 1 else 0) + 2 - (h + 2 * (if o = true then 1 else 0)) % 2
def rsize (rows : List Row) (lg : List Int) (k : Nat) : Int := if (rows[k]?.map Row.great).getD false = true ∨ (k : Int) ∈ lg then 2 else 1
def stepA (rows : List Row) (pools : List Pool) (k : Nat) (s : St) : St := match pools.find? fun p => decide (p.1 = (k : Int)) with
  | some p => ⟨s.pl, s.bg ++ [firstW s.here (over rows k)], firstW s.here (over rows k) + 2 * p.2.length⟩
  | none => s
def stepB (rows : List Row) (lg : List Int) (k : Nat) (s : St) : St := if k < rows.length then ⟨s.pl ++ [s.here], s.bg, s.here + rsize rows lg k⟩ else s
def placeF (rows : List Row) (lg : List Int) (pools : List Pool) (ks : List Nat) : St := ks.foldl (fun s k => stepB rows lg k (stepA rows pools k s)) ⟨[], [], 0⟩
def stT (s : St) : T := .tup [.lst true (s.pl.map T.int), .lst true (s.bg.map T.int), .int s.here]
theorem any_ints {k : Int} {xs : List Int} : ((xs.map T.int).any fun y => eqF y (.int k)) = decide (k ∈ xs) := by
  rw [Bool.eq_iff_iff, List.any_eq_true]
  simp only [List.mem_map, decide_eq_true_eq]
  constructor
  · rintro ⟨_, ⟨i, hi, rfl⟩, e⟩
    have : i = k := by simpa [eqF] using e
    exact this ▸ hi
  · exact fun h => ⟨_, ⟨k, h, rfl⟩, by simp [eqF]⟩
theorem flat_ints {xs : List Int} : (xs.map T.int).all T.flat = true := by simp [T.flat]
theorem f1 {h : Int} : firstW h true = h + 2 + 2 - (h + 2) % 2 := rfl
end NP
end
section
namespace NP
open PySem L2 QL
def b__law_longs : SM :=
  sSeq (sAsg (eCall (some 0) (some 0) f__law_take (aCons (bIo 0) (aCons (bE (eC (.int 3))) (aNil)))) (gN 2))
    (sSeq (sAsg (eLc (iRng enm (aCons (bV 1) (aNil))) (gT 2 (gsC (gN 4) (gsC (gN 5) (gsN)))) (tV (eOp oIn (aCons (bE (eOp oIx (aCons (bV 5) (aCons (bE (eC (.int 0))) aNil)))) (aCons (bE (eTup (aCons (bE (eC (.str "go"))) (aCons (bE (eC (.str "nil"))) (aNil))))) aNil)))) (eVar 4) [4, 5]) (gN 3))
    (sRet (eLc (iSeq (bE (eAl 3))) (gN 4) (tV (eOp oIx (aCons (bE (eLst (aCons (bE (eC (.bl false))) (aCons (bE (eOp oEq (aCons (bE (eCall (some 0) (some 0) f__law_take (aCons (bIo 0) (aCons (bE (eC (.int 2))) (aNil))))) (aCons (bE (eC (.int 0))) aNil)))) (aCons (bE (eC (.bl true))) (aNil)))))) (aCons (bV 2) aNil)))) (eVar 4) [4])))
def f__law_longs : Fn := fnN 2 6 (some 0) b__law_longs
def b__law_any_plan : SM :=
  sSeq (sAsg (eLc (iRng enm (aCons (bV 1) (aNil))) (gT 2 (gsC (gN 4) (gsC (gN 12) (gsN)))) (tV (eCall none none f__law_is_great (aCons (bV 12) (aNil)))) (eVar 4) [4, 12]) (gN 2))
    (sSeq (sAsg (eLst (aNil)) (gN 3))
    (sSeq (sFor (iRng rng1 (aCons (bE (eOp oAdd (aCons (bE (eOp oInt (aCons (bE (eOp oNe (aCons (bV 2) (aCons (bE (eLst (aNil))) aNil)))) (aNil)))) (aCons (bE (eCall (some 0) (some 0) f__law_take (aCons (bIo 0) (aCons (bE (eC (.int 4))) (aNil))))) aNil)))) (aNil))) (gN 4)
    (sSeq (sAsg (eCall (some 0) (some 0) f__law_take (aCons (bIo 0) (aCons (bE (eOp oAdd (aCons (bE (eOp oLen (aCons (bV 1) (aNil)))) (aCons (bE (eC (.int 1))) aNil)))) (aNil)))) (gN 7))
    (sIf (tV (eOp oNin (aCons (bV 7) (aCons (bV 3) aNil)))) (sDrop (eMut 3 T.isLst mAppend (aCons (bE (eAl 7)) (aNil)))) (sNil))))
    (sSeq (sAsg (eOp oSorted (aCons (bV 3) (aNil))) (gN 3))
    (sSeq (sAsg (eLc (iSeq (bE (eAl 2))) (gN 4) (cYes) (eCall (some 0) (some 0) f__law_take (aCons (bIo 0) (aCons (bE (eOp oLen (aCons (bV 3) (aNil)))) (aNil)))) [4]) (gN 5))
    (sSeq (sAsg (eLst (aNil)) (gN 6))
    (sSeq (sFor (iRng enm (aCons (bE (eAl 3)) (aNil))) (gT 2 (gsC (gN 8) (gsC (gN 7) (gsN))))
    (sSeq (sAsg (eIf (tOrS (tV (eOp oNin (aCons (bV 8) (aCons (bV 5) aNil)))) (tV (eOp oEq (aCons (bE (eCall (some 0) (some 0) f__law_take (aCons (bIo 0) (aCons (bE (eC (.int 4))) (aNil))))) (aCons (bE (eC (.int 0))) aNil))))) (eLst (aCons (bE (eCall (some 0) (some 0) f__law_great (aCons (bIo 0) (aNil)))) (aNil))) (eLst (aNil))) (gN 9))
    (sSeq (sFor (iRng zp (aCons (bE (eAl 2)) (aCons (bE (eAl 5)) (aNil)))) (gT 2 (gsC (gN 4) (gsC (gN 10) (gsN))))
    (sIf (tAndS (tV (eOp oEq (aCons (bV 10) (aCons (bV 8) aNil)))) (tV (eOp oNin (aCons (bE (eOp oIx (aCons (bE (eOp oIx (aCons (bV 1) (aCons (bV 4) aNil)))) (aCons (bE (eC (.int 2))) aNil)))) (aCons (bV 9) aNil))))) (sDrop (eMut 9 T.isLst mInsert (aCons (bE (eCall (some 0) (some 0) f__law_take (aCons (bIo 0) (aCons (bE (eOp oAdd (aCons (bE (eOp oLen (aCons (bV 9) (aNil)))) (aCons (bE (eC (.int 1))) aNil)))) (aNil))))) (aCons (bE (eOp oIx (aCons (bE (eOp oIx (aCons (bV 1) (aCons (bV 4) aNil)))) (aCons (bE (eC (.int 2))) aNil)))) (aNil))))) (sNil)))
    (sSeq (sIf (tV (eOp oEq (aCons (bE (eCall (some 0) (some 0) f__law_take (aCons (bIo 0) (aCons (bE (eC (.int 24))) (aNil))))) (aCons (bE (eC (.int 0))) aNil)))) (sSeq (sAsg (eOp (oSl false true) (aCons (bE (eLc (iRng rng2 (aCons (bE (eC (.int 50000000))) (aCons (bE (eC (.int 50000100))) (aNil)))) (gN 13) (tV (eOp oNin (aCons (bV 13) (aCons (bV 9) aNil)))) (eVar 13) [13])) (aCons (bE (eOp oSub (aCons (bE (eC (.int 100))) (aCons (bE (eOp oLen (aCons (bV 9) (aNil)))) aNil)))) aNil))) (gN 11))
    (sAsg (eOp oIx (aCons (bE (eLst (aCons (bE (eOp oAdd (aCons (bV 9) (aCons (bV 11) aNil)))) (aCons (bE (eOp oAdd (aCons (bV 11) (aCons (bV 9) aNil)))) (aNil))))) (aCons (bE (eCall (some 0) (some 0) f__law_take (aCons (bIo 0) (aCons (bE (eC (.int 2))) (aNil))))) aNil))) (gN 9))) (sNil))
    (sDrop (eMut 6 T.isLst mAppend (aCons (bE (eTup (aCons (bE (eAl 7)) (aCons (bE (eOp oTuple (aCons (bV 9) (aNil)))) (aNil))))) (aNil))))))))
    (sRet (eTup (aCons (bE (eMv 6)) (aCons (bE (eMv 5)) (aNil)))))))))))
def f__law_any_plan : Fn := fnN 2 14 (some 0) b__law_any_plan
end NP
end
section
namespace NP
open PySem L2 QL
def b__law_jumpy : SM :=
  sSeq (sAsg (eOp oAdd (aCons (bE (eC (.int 20))) (aCons (bE (eCall (some 0) (some 0) f__law_take (aCons (bIo 0) (aCons (bE (eOp oIx (aCons (bE (eLst (aCons (bE (eC (.int 20))) (aCons (bE (eC (.int 81))) (aNil))))) (aCons (bE (eCall (some 0) (some 0) f__law_take (aCons (bIo 0) (aCons (bE (eC (.int 2))) (aNil))))) aNil)))) (aNil))))) aNil))) (gN 1))
    (sSeq (sIf (tV (eOp oEq (aCons (bE (eCall (some 0) (some 0) f__law_take (aCons (bIo 0) (aCons (bE (eC (.int 8))) (aNil))))) (aCons (bE (eC (.int 0))) aNil)))) (sAsg (eC (.int 120)) (gN 1)) (sNil))
    (sSeq (sAsg (eLst (aNil)) (gN 2))
    (sSeq (sFor (iRng rng1 (aCons (bV 1) (aNil))) (gN 3)
    (sSeq (sAsg (eLd 2 (eOp oLen (aCons (bE (eLc (iSeq (bV 2)) (gN 7) (tV (eCall none none f__law_is_great (aCons (bV 7) (aNil)))) (eVar 7) [7])) (aNil)))) (gN 5))
    (sIf (tAndS (tV (eOp oEq (aCons (bE (eCall (some 0) (some 0) f__law_take (aCons (bIo 0) (aCons (bE (eOp oIx (aCons (bE (eLst (aCons (bE (eC (.int 9))) (aCons (bE (eC (.int 4))) (aNil))))) (aCons (bE (eCall (some 0) (some 0) f__law_take (aCons (bIo 0) (aCons (bE (eC (.int 2))) (aNil))))) aNil)))) (aNil))))) (aCons (bE (eC (.int 0))) aNil)))) (tV (eOp oLt (aCons (bV 5) (aCons (bE (eOp oFdiv (aCons (bV 1) (aCons (bE (eC (.int 2))) aNil)))) aNil))))) (sDrop (eMut 2 T.isLst mAppend (aCons (bE (eTup (aCons (bE (eC (.str "set"))) (aCons (bE (eCall (some 0) (some 0) f__law_take (aCons (bIo 0) (aCons (bE (eC (.int 5))) (aNil))))) (aCons (bE (eCall (some 0) (some 0) f__law_great (aCons (bIo 0) (aNil)))) (aNil)))))) (aNil)))) (sDrop (eMut 2 T.isLst mAppend (aCons (bE (eOp oIx (aCons (bE (eLst (aCons (bE (eTup (aCons (bE (eC (.str "tell"))) (aCons (bE (eC (.int 1))) (aNil))))) (aCons (bE (eTup (aCons (bE (eC (.str "sum"))) (aCons (bE (eC (.int 1))) (aCons (bE (eC (.int 2))) (aNil)))))) (aCons (bE (eTup (aCons (bE (eC (.str "set"))) (aCons (bE (eC (.int 0))) (aCons (bE (eC (.int 99))) (aNil)))))) (aNil)))))) (aCons (bE (eCall (some 0) (some 0) f__law_take (aCons (bIo 0) (aCons (bE (eC (.int 3))) (aNil))))) aNil)))) (aNil)))))))
    (sSeq (sFor (iRng rng1 (aCons (bE (eOp oAdd (aCons (bE (eC (.int 1))) (aCons (bE (eCall (some 0) (some 0) f__law_take (aCons (bIo 0) (aCons (bE (eC (.int 8))) (aNil))))) aNil)))) (aNil))) (gN 4)
    (sSeq (sPar (aCons (bE (eCall (some 0) (some 0) f__law_take (aCons (bIo 0) (aCons (bV 1) (aNil))))) (aCons (bE (eCall (some 0) (some 0) f__law_take (aCons (bIo 0) (aCons (bE (eOp oAdd (aCons (bV 1) (aCons (bE (eC (.int 1))) aNil)))) (aNil))))) (aNil))) 3 6)
    (sSetIx 2 (eOp oIx (aCons (bE (eLst (aCons (bE (eTup (aCons (bE (eC (.str "go"))) (aCons (bE (eVar 6)) (aNil))))) (aCons (bE (eTup (aCons (bE (eC (.str "nil"))) (aCons (bE (eCall (some 0) (some 0) f__law_take (aCons (bIo 0) (aCons (bE (eC (.int 5))) (aNil))))) (aCons (bE (eVar 6)) (aNil)))))) (aNil))))) (aCons (bE (eCall (some 0) (some 0) f__law_take (aCons (bIo 0) (aCons (bE (eC (.int 2))) (aNil))))) aNil))) (eVar 3))))
    (sSeq (sIf (tV (eOp oEq (aCons (bV 1) (aCons (bE (eC (.int 120))) aNil)))) (sSetPair 2 1 118 (eTup (aCons (bE (eTup (aCons (bE (eC (.str "go"))) (aCons (bE (eC (.int 120))) (aNil))))) (aCons (bE (eTup (aCons (bE (eC (.str "nil"))) (aCons (bE (eC (.int 2))) (aCons (bE (eC (.int 0))) (aNil)))))) (aNil))))) (sNil))
    (sRet (eMv 2)))))))
def f__law_jumpy : Fn := fnN 1 8 (some 0) b__law_jumpy
end NP
end
section
namespace NP
open PySem L2 QL
def b_is_short_enough : SM :=
  sRet (eAnd (eOp oLe (aCons (bE (eOp oAbs (aCons (bV 1) (aNil)))) (aCons (bV 2) aNil))) (eOr (eOp oEq (aCons (bE (eOp oIx (aCons (bV 0) (aCons (bE (eC (.int 0))) aNil)))) (aCons (bE (eC (.str "go"))) aNil))) (eOp oLe (aCons (bE (eOp oAbs (aCons (bV 1) (aNil)))) (aCons (bE (eC (.int 99))) aNil)))))
def f_is_short_enough : Fn := fnN 3 3 none b_is_short_enough
def b_too_short : SM :=
  sSeq (sAsg (eCall none none f_placed (aCons (bV 0) (aCons (bV 1) (aCons (bV 2) (aNil))))) (gT 3 (gsC (gN 7) (gsC (gN 8) (gsC (gN 9) (gsN))))))
    (sSeq (sAsg (eOp oAdd (aCons (bV 7) (aCons (bE (eLst (aCons (bE (eAl 9)) (aNil)))) aNil))) (gN 4))
    (sSeq (sAsg (eLst (aNil)) (gN 5))
    (sSeq (sFor (iSeq (bE (eCall none none f_jumps_of (aCons (bV 0) (aNil))))) (gN 6)
    (sSeq (sAsg (eOp oIx (aCons (bV 0) (aCons (bV 6) aNil))) (gN 10))
    (sIf (tAndS (tV (eOp oNin (aCons (bV 6) (aCons (bV 1) aNil)))) (tNotS (tV (eCall none none f_is_short_enough (aCons (bE (eAl 10)) (aCons (bE (eOp oSub (aCons (bE (eOp oIx (aCons (bV 4) (aCons (bE (eOp oIx (aCons (bE (eAl 10)) (aCons (bE (eOp oNeg (aCons (bE (eC (.int 1))) aNil))) aNil)))) aNil)))) (aCons (bE (eOp oIx (aCons (bE (eAl 7)) (aCons (bV 6) aNil)))) aNil)))) (aCons (bV 3) (aNil)))))))) (sDrop (eMut 5 T.isLst mAppend (aCons (bE (eVar 6)) (aNil)))) (sNil))))
    (sRet (eMv 5)))))
def f_too_short : Fn := fnN 4 11 none b_too_short
def b__law_too_short : SM :=
  sSeq (sAsg (eCall none none f__law_placed (aCons (bV 0) (aCons (bV 1) (aCons (bV 2) (aNil))))) (gT 3 (gsC (gN 5) (gsC (gN 6) (gsC (gN 7) (gsN))))))
    (sSeq (sPar (aCons (bE (eOp oAdd (aCons (bV 5) (aCons (bE (eLst (aCons (bE (eAl 7)) (aNil)))) aNil)))) (aCons (bE (eLst (aNil))) (aNil))) 8 4)
    (sSeq (sFor (iRng enm (aCons (bV 0) (aNil))) (gT 2 (gsC (gN 9) (gsC (gN 10) (gsN))))
    (sIf (tAndS (tV (eOp oIn (aCons (bE (eOp oIx (aCons (bV 10) (aCons (bE (eC (.int 0))) aNil)))) (aCons (bE (eTup (aCons (bE (eC (.str "go"))) (aCons (bE (eC (.str "nil"))) (aNil))))) aNil)))) (tV (eOp oNin (aCons (bV 9) (aCons (bV 1) aNil))))) (sSeq (sAsg (eOp oMax2 (aCons (bE (eOp oSub (aCons (bE (eOp oIx (aCons (bE (eAl 8)) (aCons (bE (eOp oIx (aCons (bV 10) (aCons (bE (eOp oNeg (aCons (bE (eC (.int 1))) aNil))) aNil)))) aNil)))) (aCons (bE (eOp oIx (aCons (bE (eAl 5)) (aCons (bV 9) aNil)))) aNil)))) (aCons (bE (eOp oSub (aCons (bE (eOp oIx (aCons (bE (eAl 5)) (aCons (bV 9) aNil)))) (aCons (bE (eOp oIx (aCons (bE (eAl 8)) (aCons (bE (eOp oIx (aCons (bV 10) (aCons (bE (eOp oNeg (aCons (bE (eC (.int 1))) aNil))) aNil)))) aNil)))) aNil)))) (aNil)))) (gN 11))
    (sIf (tOrS (tV (eOp oGt (aCons (bV 11) (aCons (bV 3) aNil)))) (tAndS (tV (eOp oEq (aCons (bE (eOp oIx (aCons (bV 10) (aCons (bE (eC (.int 0))) aNil)))) (aCons (bE (eC (.str "nil"))) aNil)))) (tV (eOp oGt (aCons (bV 11) (aCons (bE (eC (.int 99))) aNil)))))) (sDrop (eMut 4 T.isLst mAppend (aCons (bE (eVar 9)) (aNil)))) (sNil))) (sNil)))
    (sRet (eMv 4))))
def f__law_too_short : Fn := fnN 4 12 none b__law_too_short
def Row.goal : Row → Int
  | .go t => t
  | .nil _ t => t
  | _ => 0
def Row.isGo : Row → Bool
  | .go _ => true
  | _ => false
def gAt (s : St) (t : Int) : Int := (atI (s.pl ++ [s.here]) t).getD 0
def pAt (s : St) (k : Nat) : Int := (s.pl[k]?).getD 0
def farP (s : St) (p : Row × Nat) : Int := gAt s p.1.goal - pAt s p.2
def aF (x : Int) : Int := if x < 0 then -x else x
def tooFar (s : St) (hop : Int) (p : Row × Nat) : Bool := !(decide (aF (farP s p) ≤ hop) && (p.1.isGo || decide (aF (farP s p) ≤ 99)))
def lateP (s : St) (lg : List Int) (hop : Int) (p : Row × Nat) : Bool := p.1.jump && (!decide ((p.2 : Int) ∈ lg) && tooFar s hop p)
def shorts (s : St) (rows : List Row) (lg : List Int) (hop : Int) : List Int := (rows.zipIdx.filter (lateP s lg hop)).map fun p => (p.2 : Int)
end NP
end
section
namespace NP
open PySem L2 QL
def kWh (s : SM) (J : En → Prop) (QS : Fl × En → Prop) : Bool × En → Prop := fun p => if p.1 = true then wp (s p.2) (kT J QS) else QS (.nx, p.2)
def posN (rows : List Row) (lg : List Int) : Nat → Int
  | 0 => 0
  | k + 1 => posN rows lg k + rsize rows lg k
/-- the state of places without pools -/
def s0 (rows : List Row) (lg : List Int) : St := ⟨(List.range rows.length).map (posN rows lg), [], posN rows lg rows.length⟩
/-- the late jumps, without pools -/
def lateL (rows : List Row) (lg : List Int) (hop : Int) : List Int := shorts (s0 rows lg) rows lg hop
def Up (L : List Int) : Prop := L.Pairwise (fun a b : Int => a < b)
/-- what least_longs has found: rising, of jumps, within each set that reaches -/
structure Lst (rows : List Row) (hop : Int) (L : List Int) : Prop where
  up : Up L
  sub : ∀ x, x ∈ L → x ∈ jumps rows
  min : ∀ S, lateL rows S hop = [] → ∀ x, x ∈ L → x ∈ S
/-- all sets of some -/
def subs (xs : List Int) : List (List Int) := xs.foldl (fun ss k => ss ++ ss.map fun s => s ++ [k]) [[]]
end NP
end
section
namespace NP
open PySem L2 QL
theorem for2 {α : Type} {gt : T → En → R En} {s : SM} {e : α → T} {xs : List α} {env : En} {QS : Fl × En → Prop} (I : List α → List α → En → Prop) (h0 : I [] xs env) (hs : ∀ (d : List α) (x : α) (r : List α) (e' : En) (J : En → Prop), xs = d ++ x :: r → I d (x :: r) e' → (∀ e2, I (d ++ [x]) r e2 → J e2) → wp (gt (e x) e') (kBd s J QS)) (hd : ∀ e', I xs [] e' → QS (.nx, e')) : wp (forGo gt s (xs.map e) env) QS :=
  for_inv I h0 (fun d x r e' h1 h2 => hs d x r e' _ h1 h2 fun _ z => z) hd
end NP
end
section
namespace NP
open PySem L2 QL
def b_Reading_init : SM :=
  sSeq (sFldS 0 "Reading" "rows" (eLst (aNil)))
    (sSeq (sFldS 0 "Reading" "spots" (eLst (aNil)))
    (sFldS 0 "Reading" "labels" (eDnew)))
def f_Reading_init : Fn := fnN 1 1 (some 0) b_Reading_init
def b_Reading_finished : SM :=
  sSeq (sAsg (eLst (aNil)) (gN 1))
    (sSeq (sFor (iRng zp (aCons (bE (eAlP 0 [.fd "Reading" "rows"])) (aCons (bE (eAlP 0 [.fd "Reading" "spots"])) (aNil)))) (gT 2 (gsC (gN 2) (gsC (gN 3) (gsN))))
    (sSeq (sIf (tV (eOp oIn (aCons (bE (eOp oIx (aCons (bV 2) (aCons (bE (eC (.int 0))) aNil)))) (aCons (bE (eC (.tup [(.str "go"), (.str "nil")]))) aNil)))) (sSeq (sIf (tV (eOp oDNin (aCons (bE (eOp oIx (aCons (bV 2) (aCons (bE (eOp oNeg (aCons (bE (eC (.int 1))) aNil))) aNil)))) (aCons (bP 0 [.fd "Reading" "labels"]) aNil)))) (sStk) (sNil))
    (sAsg (eOp oAdd (aCons (bE (eOp (oSl false true) (aCons (bV 2) (aCons (bE (eOp oNeg (aCons (bE (eC (.int 1))) aNil))) aNil)))) (aCons (bE (eTup (aCons (bE (eOp oDIx (aCons (bP 0 [.fd "Reading" "labels"]) (aCons (bE (eOp oIx (aCons (bV 2) (aCons (bE (eOp oNeg (aCons (bE (eC (.int 1))) aNil))) aNil)))) aNil)))) (aNil)))) aNil))) (gN 2))) (sNil))
    (sDrop (eMut 1 T.isLst mAppend (aCons (bE (eAl 2)) (aNil))))))
    (sRet (eMv 1)))
def f_Reading_finished : Fn := fnN 1 4 (some 0) b_Reading_finished
def b_Reading_read : SM :=
  sSeq (sAsg (eOp (oSl false true) (aCons (bV 1) (aCons (bE (eOp oNeg (aCons (bE (eC (.int 1))) aNil))) aNil))) (gN 3))
    (sSeq (sIf (tAndS (tV (eOp oEq (aCons (bE (eOp (oSl true false) (aCons (bV 1) (aCons (bE (eOp oNeg (aCons (bE (eC (.int 1))) aNil))) aNil)))) (aCons (bE (eC (.str ":"))) aNil)))) (tV (eCall none none f_is_label (aCons (bE (eAl 3)) (aNil))))) (sSeq (sIf (tV (eOp oDIn (aCons (bV 3) (aCons (bP 0 [.fd "Reading" "labels"]) aNil)))) (sStk) (sNil))
    (sSeq (sSetKyP 0 [.fd "Reading" "labels"] (eOp oLen (aCons (bP 0 [.fd "Reading" "rows"]) (aNil))) (eVar 3))
    (sRetN))) (sNil))
    (sSeq (sAsg (eCall none none f_row_read (aCons (bV 1) (aNil))) (gN 4))
    (sSeq (sIf (tV (eOp oIsN (aCons (bV 4) (aCons (bE (eC .non)) aNil)))) (sStk) (sNil))
    (sSeq (sDrop (eMutP 0 [.fd "Reading" "rows"] T.isLst mAppend (aCons (bE (eAl 4)) (aNil))))
    (sDrop (eMutP 0 [.fd "Reading" "spots"] T.isLst mAppend (aCons (bE (eVar 2)) (aNil))))))))
def f_Reading_read : Fn := fnN 3 5 (some 0) b_Reading_read
def b_rows_from : SM :=
  sSeq (sAsg (eMake "Reading" f_Reading_init aNil) (gN 1))
    (sSeq (sFor (iRng enm (aCons (bE (eIf (tV (eOp oNe (aCons (bV 0) (aCons (bE (eC (.str ""))) aNil)))) (eOp oSplit (aCons (bS (bV 0)) (aCons (bE (eC (.str "\n"))) aNil))) (eLst (aNil)))) (aNil))) (gT 2 (gsC (gN 2) (gsC (gN 3) (gsN))))
    (sDrop (eCall (some 0) (some 1) f_Reading_read (aCons (bOb 1 "Reading" "read") (aCons (bV 3) (aCons (bV 2) (aNil)))))))
    (sRet (eCall (some 0) (some 1) f_Reading_finished (aCons (bOb 1 "Reading" "finished") (aNil)))))
def f_rows_from : Fn := fnN 1 4 none b_rows_from
theorem Raw.ow {r : Raw} : r.t.ow = false := by cases r <;> rfl
theorem Raw.nob {r : Raw} : r.t.nob = true := by cases r <;> rfl
theorem Raw.nfz {r : Raw} : r.t.nfz = true := by cases r <;> rfl
theorem Raw.fz {r : Raw} : r.t.fz = r.t := by cases r <;> rfl
structure RdS where
  rows : List Raw
  spots : List Nat
  labels : List (List Nat × Nat)
def labsT (u : List (List Nat × Nat)) : List (Key × T) := u.map fun x => (.inr (tx x.1), .int x.2)
def lab? (u : List (List Nat × Nat)) (l : List Nat) : Option Nat := (u.find? fun x => decide (x.1 = l)).map (·.2)
theorem get_lab {u : List (List Nat × Nat)} {l : List Nat} : getT (labsT u) (.inr (tx l)) = (lab? u l).map fun n => .int n := by
  unfold getT labsT lab?
  rw [List.find?_map, Option.map_map, Option.map_map]
  have e : ((fun p : Key × T => decide (p.1 = Sum.inr (tx l))) ∘ fun x : List Nat × Nat => ((Sum.inr (tx x.1) : Key), T.int x.2)) = fun x => decide (x.1 = l) := by
    funext x
    show decide ((Sum.inr (tx x.1) : Key) = Sum.inr (tx l)) = _
    rw [key_eq]
    exact decide_eq_decide.mpr (by rw [tx_inj])
  rw [e]
  rfl
theorem put_lab {u : List (List Nat × Nat)} {l : List Nat} {n : Nat} (h : lab? u l = none) : putT (labsT u) (.inr (tx l)) (.int n) = labsT (u ++ [(l, n)]) := by
  unfold putT
  rw [if_neg]
  · simp [labsT]
  · intro z
    have z : ((labsT u).any fun p => decide (p.1 = Sum.inr (tx l))) = true := z
    rw [List.any_eq_true] at z
    obtain ⟨p, hp, e⟩ := z
    have g := get_lab (u := u) (l := l)
    rw [h] at g
    unfold getT at g
    have g : (labsT u).find? (fun p => decide (p.1 = Sum.inr (tx l))) = none := by simpa using g
    have := List.find?_eq_none.mp g p hp
    exact this e
theorem labs_ow {u : List (List Nat × Nat)} : T.owk (labsT u) = false := by
  induction u with
  | nil => rfl
  | cons x u ih => simp only [labsT, List.map_cons, T.owk, T.ow, Bool.false_or]; exact ih
theorem labs_nob {u : List (List Nat × Nat)} : T.nobk (labsT u) = true := by
  induction u with
  | nil => rfl
  | cons x u ih => simp only [labsT, List.map_cons, T.nobk, T.nob, Bool.true_and]; exact ih
theorem labs_fz {u : List (List Nat × Nat)} : T.fzk (labsT u) = labsT u := by
  induction u with
  | nil => rfl
  | cons x u ih =>
    show (_, _) :: T.fzk (labsT u) = _
    rw [ih]
    rfl
theorem labs_len {u : List (List Nat × Nat)} : (labsT u).length = u.length := by simp [labsT]
def rdgT (o : Bool) (s : RdS) : T := .obj "Reading" [("rows", .lst o (s.rows.map Raw.t)), ("spots", .lst o ((s.spots.map fun n : Nat => (n : Int)).map T.int)), ("labels", .dct true (labsT s.labels))]
theorem rinit2_ok {Q : T × Option T → Prop} (q : Q (.non, some (rdgT true ⟨[], [], []⟩))) : wp (f_Reading_init [.obj "Reading" []]) Q := by
  unfold f_Reading_init b_Reading_init
  simp only [↓sA, sB, sC, if_true, if_false, forall_const, implies_true, forall_eq', false_imp_iff, oEq, oNe, eqT, oAdd, oNeg, oAbs, oMax2, oMin2, oInt, oLen, oIsN, oNotN, oIn, oNin, inT, eqF, oIsi, oIsi2, oList, oTuple, seqT, zp, enm, two, three, ioFind, ioCount, brOk, Bop.still, Bop.isI, T.ow, T.owl, T.nob, T.nobl, T.nfz, T.nfzl, T.fz, T.fzl, Bop.fit, Bop.res, Bop.bo, List.replicate, big, wipeE, reduceCtorEq, Nat.reduceAdd, Nat.reduceSub, Nat.reduceLT, Nat.reduceLeDiff, Int.reduceLT, Int.reduceLE, Int.reduceMul, Int.reducePow, Int.reduceToNat, Int.reduceAdd, Int.reduceSub, Int.reduceNeg, Int.reduceEq, Nat.reducePow, String.reduceEq, sO, sP]
  exact q
/-- a row that tells a label -/
def labL (l : List Nat) : Option (List Nat) := if l.getLast? = some 58 ∧ isLab l.dropLast = true then some l.dropLast else none
def stepD (s : RdS) (k : Nat) (l : List Nat) : Option RdS := match labL l with
  | some w => if lab? s.labels w = none then some { s with labels := s.labels ++ [(w, s.rows.length)] } else none
  | none => (rowF l).map fun r => { s with rows := s.rows ++ [r], spots := s.spots ++ [k] }
theorem read_ok {s s' : RdS} {k : Nat} {l : List Nat} {Q : T × Option T → Prop} (hl : l.length ≤ 90000) (h : stepD s k l = some s') (hs : s.rows.length ≤ 90000 ∧ s.spots.length ≤ 90000 ∧ s.labels.length ≤ 90000) (q : Q (.non, some (rdgT true s'))) : wp (f_Reading_read [rdgT true s, .str (tx l), .int k]) Q := by
  unfold f_Reading_read b_Reading_read
  unfold rdgT at *
  have el : (l.getLast?.toList = [58]) = (l.getLast? = some 58) := by cases l.getLast? <;> simp
  have rest : labL l = none → wp (f_row_read [.str (tx l)]) (kC2 [Bop.br (T.str (tx l)) 1]
            [some (T.obj (Str.ofString "Reading") [(Str.ofString "rows", T.lst true (List.map Raw.t s.rows)), (Str.ofString "spots", T.lst true ((s.spots.map fun n : Nat => (n : Int)).map T.int)), (Str.ofString "labels", T.dct true (labsT s.labels))]),
              some (T.str (tx l)), some (T.int ↑k), some (T.str (tx l.dropLast)), none]
            (kAs (gN 4) (kSeq (sSeq (sIf (tV (eOp oIsN (aCons (bV 4) (aCons (bE (eC T.non)) aNil)))) sStk sNil)
                  (sSeq (sDrop (eMutP 0 [Stp.fd (Str.ofString "Reading") (Str.ofString "rows")] T.isLst mAppend (aCons (bE (eAl 4)) aNil)))
                    (sDrop (eMutP 0 [Stp.fd (Str.ofString "Reading") (Str.ofString "spots")] T.isLst mAppend (aCons (bE (eVar 2)) aNil)))))
                (kF1 0 Q)))) := fun hl0 => by
    unfold stepD at h
    rw [hl0] at h
    obtain ⟨r, hr, rfl⟩ := Option.map_eq_some_iff.mp h
    refine row_ok2 hl ?_
    rw [hr]
    dsimp only
    simp only [↓sA, sB, sC, if_true, if_false, forall_const, implies_true, forall_eq', false_imp_iff, oEq, oNe, eqT, oAdd, oNeg, oAbs, oMax2, oMin2, oInt, oLen, oIsN, oNotN, oIn, oNin, inT, eqF, oIsi, oIsi2, oList, oTuple, seqT, zp, enm, two, three, ioFind, ioCount, brOk, Bop.still, Bop.isI, T.ow, T.owl, T.nob, T.nobl, T.nfz, T.nfzl, T.fz, T.fzl, Bop.fit, Bop.res, Bop.bo, List.replicate, big, wipeE, reduceCtorEq, Nat.reduceAdd, Nat.reduceSub, Nat.reduceLT, Nat.reduceLeDiff, Int.reduceLT, Int.reduceLE, Int.reduceMul, Int.reducePow, Int.reduceToNat, Int.reduceAdd, Int.reduceSub, Int.reduceNeg, Int.reduceEq, Nat.reducePow, String.reduceEq, sO, sP, Raw.ow, Raw.nob, Raw.nfz, Raw.fz]
    cases r <;> simp only [Raw.t] at q ⊢ <;> simp only [↓sA, sB, sC, if_true, if_false, forall_const, implies_true, forall_eq', false_imp_iff, oEq, oNe, eqT, oAdd, oNeg, oAbs, oMax2, oMin2, oInt, oLen, oIsN, oNotN, oIn, oNin, inT, eqF, oIsi, oIsi2, oList, oTuple, seqT, zp, enm, two, three, ioFind, ioCount, brOk, Bop.still, Bop.isI, T.ow, T.owl, T.nob, T.nobl, T.nfz, T.nfzl, T.fz, T.fzl, Bop.fit, Bop.res, Bop.bo, List.replicate, big, wipeE, reduceCtorEq, Nat.reduceAdd, Nat.reduceSub, Nat.reduceLT, Nat.reduceLeDiff, Int.reduceLT, Int.reduceLE, Int.reduceMul, Int.reducePow, Int.reduceToNat, Int.reduceAdd, Int.reduceSub, Int.reduceNeg, Int.reduceEq, Nat.reducePow, String.reduceEq, sO, sP, Raw.ow, Raw.nob, Raw.nfz, Raw.fz]
    all_goals
      simp only [List.map_append, List.map_cons, List.map_nil, Raw.t] at q ⊢
      exact ⟨by omega, by omega, q⟩
  simp only [↓sA, sB, sC, if_true, if_false, forall_const, implies_true, forall_eq', false_imp_iff, oEq, oNe, eqT, oAdd, oNeg, oAbs, oMax2, oMin2, oInt, oLen, oIsN, oNotN, oIn, oNin, inT, eqF, oIsi, oIsi2, oList, oTuple, seqT, zp, enm, two, three, ioFind, ioCount, brOk, Bop.still, Bop.isI, T.ow, T.owl, T.nob, T.nobl, T.nfz, T.nfzl, T.fz, T.fzl, Bop.fit, Bop.res, Bop.bo, List.replicate, big, wipeE, reduceCtorEq, Nat.reduceAdd, Nat.reduceSub, Nat.reduceLT, Nat.reduceLeDiff, Int.reduceLT, Int.reduceLE, Int.reduceMul, Int.reducePow, Int.reduceToNat, Int.reduceAdd, Int.reduceSub, Int.reduceNeg, Int.reduceEq, Nat.reducePow, String.reduceEq, sO, sP, tx_len, tx_chars, tx_cps, tx_cut, w_bS, kBs_ap, isS_str, isS_br, w_ixS, kIxS_ap, cut_butlast, cut_last, s_colon, tx_inj, el]
  refine ⟨by omega, by omega, ?_⟩
  split
  · rename_i h1
    refine islab_ok (by simp; omega) ?_
    cases h2 : isLab l.dropLast with
    | true =>
      have e : labL l = some l.dropLast := by unfold labL; rw [if_pos ⟨h1, h2⟩]
      unfold stepD at h
      rw [e] at h
      dsimp only at h
      split at h
      · rename_i h3
        cases h
        simp only [↓sA, sB, sC, if_true, if_false, forall_const, implies_true, forall_eq', false_imp_iff, oEq, oNe, eqT, oAdd, oNeg, oAbs, oMax2, oMin2, oInt, oLen, oIsN, oNotN, oIn, oNin, inT, eqF, oIsi, oIsi2, oList, oTuple, seqT, zp, enm, two, three, ioFind, ioCount, brOk, Bop.still, Bop.isI, T.ow, T.owl, T.nob, T.nobl, T.nfz, T.nfzl, T.fz, T.fzl, Bop.fit, Bop.res, Bop.bo, List.replicate, big, wipeE, reduceCtorEq, Nat.reduceAdd, Nat.reduceSub, Nat.reduceLT, Nat.reduceLeDiff, Int.reduceLT, Int.reduceLE, Int.reduceMul, Int.reducePow, Int.reduceToNat, Int.reduceAdd, Int.reduceSub, Int.reduceNeg, Int.reduceEq, Nat.reducePow, String.reduceEq, sO, sP, labs_nob, labs_fz, get_lab, h3, put_lab h3, labs_ow, labs_len, Raw.ow, Raw.nob, Raw.nfz, Raw.fz, Option.map_none, Option.isSome_none]
        exact ⟨by omega, q⟩
      · cases h
    | false =>
      simp only [↓sA, sB, sC, if_true, if_false, forall_const, implies_true, forall_eq', false_imp_iff, oEq, oNe, eqT, oAdd, oNeg, oAbs, oMax2, oMin2, oInt, oLen, oIsN, oNotN, oIn, oNin, inT, eqF, oIsi, oIsi2, oList, oTuple, seqT, zp, enm, two, three, ioFind, ioCount, brOk, Bop.still, Bop.isI, T.ow, T.owl, T.nob, T.nobl, T.nfz, T.nfzl, T.fz, T.fzl, Bop.fit, Bop.res, Bop.bo, List.replicate, big, wipeE, reduceCtorEq, Nat.reduceAdd, Nat.reduceSub, Nat.reduceLT, Nat.reduceLeDiff, Int.reduceLT, Int.reduceLE, Int.reduceMul, Int.reducePow, Int.reduceToNat, Int.reduceAdd, Int.reduceSub, Int.reduceNeg, Int.reduceEq, Nat.reducePow, String.reduceEq]
      exact rest (by unfold labL; rw [if_neg]; intro z; rw [h2] at z; cases z.2)
  · rename_i h1
    exact rest (by unfold labL; rw [if_neg]; intro z; exact h1 z.1)
def finF (u : List (List Nat × Nat)) : Raw → Option Row
  | .set r n => some (.set r n)
  | .sum r s => some (.sum r s)
  | .less r s => some (.less r s)
  | .tell r => some (.tell r)
  | .go l => (lab? u l).map fun n : Nat => Row.go (n : Int)
  | .nil r l => (lab? u l).map fun n : Nat => Row.nil r (n : Int)
  | .stop => some .stop
theorem cutB2 {a b : T} : cutL [a, b] none (some (-1)) = [a] := rfl
theorem cutB3 {a b c : T} : cutL [a, b, c] none (some (-1)) = [a, b] := rfl
theorem fin_ok {s : RdS} {out : List Row} {Q : T × Option T → Prop} (hl : s.rows.length ≤ 90000) (he : s.spots.length = s.rows.length) (h : s.rows.map (finF s.labels) = out.map some) (q : ∀ u, Q (.lst true (out.map Row.t), some u)) : wp (f_Reading_finished [rdgT true s]) Q := by
  unfold f_Reading_finished b_Reading_finished
  unfold rdgT at *
  simp only [↓sA, sB, sC, if_true, if_false, forall_const, implies_true, forall_eq', false_imp_iff, oEq, oNe, eqT, oAdd, oNeg, oAbs, oMax2, oMin2, oInt, oLen, oIsN, oNotN, oIn, oNin, inT, eqF, oIsi, oIsi2, oList, oTuple, seqT, zp, enm, two, three, ioFind, ioCount, brOk, Bop.still, Bop.isI, T.ow, T.owl, T.nob, T.nobl, T.nfz, T.nfzl, T.fz, T.fzl, Bop.fit, Bop.res, Bop.bo, List.replicate, big, wipeE, reduceCtorEq, Nat.reduceAdd, Nat.reduceSub, Nat.reduceLT, Nat.reduceLeDiff, Int.reduceLT, Int.reduceLE, Int.reduceMul, Int.reducePow, Int.reduceToNat, Int.reduceAdd, Int.reduceSub, Int.reduceNeg, Int.reduceEq, Nat.reducePow, String.reduceEq, sO, sP, labs_ow, labs_len, Raw.ow, Raw.nob, Raw.nfz, Raw.fz]
  have hz : (s.rows.zip (s.spots.map fun n : Nat => (n : Int))).map (·.1) = s.rows := by
    rw [List.map_fst_zip]
    simp [he]
  generalize hZ : s.rows.zip (s.spots.map fun n : Nat => (n : Int)) = Z at *
  have hZl : Z.length ≤ 90000 := by
    have := congrArg List.length hz
    simp at this
    omega
  refine for2 (fun D r e => ∃ x2 x3, ∃ out1 : List Row, (D.map fun p => finF s.labels p.1) = out1.map some ∧ e = [some (T.obj (Str.ofString "Reading") [(Str.ofString "rows", T.lst false (List.map Raw.t s.rows)), (Str.ofString "spots", T.lst false ((s.spots.map fun n : Nat => (n : Int)).map T.int)), (Str.ofString "labels", T.dct true (labsT s.labels))]), some (.lst true (out1.map Row.t)), x2, x3]) ⟨none, none, [], rfl, rfl⟩ ?_ ?_
  · rintro D ⟨r, k⟩ rr _ J hD ⟨x2, x3, out1, ho, rfl⟩ hJ
    have hDl : D.length ≤ 90000 := by
      have := congrArg List.length hD
      simp at this
      omega
    have hol : out1.length = D.length := by simpa using (congrArg List.length ho).symm
    have hr : ∃ x, finF s.labels r = some x := by
      have hm : finF s.labels r ∈ out.map some := by
        rw [← h, ← hz, hD]
        simp
      obtain ⟨x, _, hx⟩ := List.mem_map.mp hm
      exact ⟨x, hx.symm⟩
    obtain ⟨x, hx⟩ := hr
    have fin : ∀ x2 x3, J [some (T.obj (Str.ofString "Reading") [(Str.ofString "rows", T.lst false (List.map Raw.t s.rows)), (Str.ofString "spots", T.lst false ((s.spots.map fun n : Nat => (n : Int)).map T.int)), (Str.ofString "labels", T.dct true (labsT s.labels))]), some (.lst true ((out1.map Row.t) ++ [x.t])), x2, x3] := fun x2 x3 => hJ _ ⟨x2, x3, out1 ++ [x], by simp [ho, hx], by simp⟩
    cases r
    case go l =>
      simp only [finF] at hx
      obtain ⟨n, hn, rfl⟩ := Option.map_eq_some_iff.mp hx
      have e1 : getT (labsT s.labels) (.inr (tx l)) = some (.int n) := by rw [get_lab, hn]; rfl
      simp only [Raw.t] at *
      simp only [↓sA, sB, sC, if_true, if_false, forall_const, implies_true, forall_eq', false_imp_iff, oEq, oNe, eqT, oAdd, oNeg, oAbs, oMax2, oMin2, oInt, oLen, oIsN, oNotN, oIn, oNin, inT, eqF, oIsi, oIsi2, oList, oTuple, seqT, zp, enm, two, three, ioFind, ioCount, brOk, Bop.still, Bop.isI, T.ow, T.owl, T.nob, T.nobl, T.nfz, T.nfzl, T.fz, T.fzl, Bop.fit, Bop.res, Bop.bo, List.replicate, big, wipeE, reduceCtorEq, Nat.reduceAdd, Nat.reduceSub, Nat.reduceLT, Nat.reduceLeDiff, Int.reduceLT, Int.reduceLE, Int.reduceMul, Int.reducePow, Int.reduceToNat, Int.reduceAdd, Int.reduceSub, Int.reduceNeg, Int.reduceEq, Nat.reducePow, String.reduceEq, sO, sP, labs_nob, labs_fz, e1, cutB2, cutB3, labs_ow, labs_len, Row.ow, Row.nob, Row.nfz, Row.fz, Raw.ow, Raw.nob, Raw.nfz, Raw.fz, Option.isSome_some]
      exact ⟨by omega, fin _ _⟩
    case nil r l =>
      simp only [finF] at hx
      obtain ⟨n, hn, rfl⟩ := Option.map_eq_some_iff.mp hx
      have e1 : getT (labsT s.labels) (.inr (tx l)) = some (.int n) := by rw [get_lab, hn]; rfl
      simp only [Raw.t] at *
      simp only [↓sA, sB, sC, if_true, if_false, forall_const, implies_true, forall_eq', false_imp_iff, oEq, oNe, eqT, oAdd, oNeg, oAbs, oMax2, oMin2, oInt, oLen, oIsN, oNotN, oIn, oNin, inT, eqF, oIsi, oIsi2, oList, oTuple, seqT, zp, enm, two, three, ioFind, ioCount, brOk, Bop.still, Bop.isI, T.ow, T.owl, T.nob, T.nobl, T.nfz, T.nfzl, T.fz, T.fzl, Bop.fit, Bop.res, Bop.bo, List.replicate, big, wipeE, reduceCtorEq, Nat.reduceAdd, Nat.reduceSub, Nat.reduceLT, Nat.reduceLeDiff, Int.reduceLT, Int.reduceLE, Int.reduceMul, Int.reducePow, Int.reduceToNat, Int.reduceAdd, Int.reduceSub, Int.reduceNeg, Int.reduceEq, Nat.reducePow, String.reduceEq, sO, sP, labs_nob, labs_fz, e1, cutB2, cutB3, labs_ow, labs_len, Row.ow, Row.nob, Row.nfz, Row.fz, Raw.ow, Raw.nob, Raw.nfz, Raw.fz, Option.isSome_some]
      exact ⟨by omega, fin _ _⟩
    all_goals
      simp only [finF] at hx
      cases hx
      simp only [Raw.t] at *
      simp only [↓sA, sB, sC, if_true, if_false, forall_const, implies_true, forall_eq', false_imp_iff, oEq, oNe, eqT, oAdd, oNeg, oAbs, oMax2, oMin2, oInt, oLen, oIsN, oNotN, oIn, oNin, inT, eqF, oIsi, oIsi2, oList, oTuple, seqT, zp, enm, two, three, ioFind, ioCount, brOk, Bop.still, Bop.isI, T.ow, T.owl, T.nob, T.nobl, T.nfz, T.nfzl, T.fz, T.fzl, Bop.fit, Bop.res, Bop.bo, List.replicate, big, wipeE, reduceCtorEq, Nat.reduceAdd, Nat.reduceSub, Nat.reduceLT, Nat.reduceLeDiff, Int.reduceLT, Int.reduceLE, Int.reduceMul, Int.reducePow, Int.reduceToNat, Int.reduceAdd, Int.reduceSub, Int.reduceNeg, Int.reduceEq, Nat.reducePow, String.reduceEq, sO, sP, labs_nob, labs_fz, cutB2, cutB3, labs_ow, labs_len, Row.ow, Row.nob, Row.nfz, Row.fz, Raw.ow, Raw.nob, Raw.nfz, Raw.fz, Option.isSome_some]
      exact ⟨by omega, fin _ _⟩
  · rintro _ ⟨x2, x3, out1, ho, rfl⟩
    have ho2 : out1 = out := by
      have e1 : Z.map (fun p => finF s.labels p.1) = s.rows.map (finF s.labels) := by rw [← hz, List.map_map]; rfl
      rw [e1, h] at ho
      exact ((List.map_inj_right fun _ _ z => Option.some.inj z).mp ho).symm
    subst ho2
    simp only [↓sA, sB, sC, if_true, if_false, forall_const, implies_true, forall_eq', false_imp_iff, oEq, oNe, eqT, oAdd, oNeg, oAbs, oMax2, oMin2, oInt, oLen, oIsN, oNotN, oIn, oNin, inT, eqF, oIsi, oIsi2, oList, oTuple, seqT, zp, enm, two, three, ioFind, ioCount, brOk, Bop.still, Bop.isI, T.ow, T.owl, T.nob, T.nobl, T.nfz, T.nfzl, T.fz, T.fzl, Bop.fit, Bop.res, Bop.bo, List.replicate, big, wipeE, reduceCtorEq, Nat.reduceAdd, Nat.reduceSub, Nat.reduceLT, Nat.reduceLeDiff, Int.reduceLT, Int.reduceLE, Int.reduceMul, Int.reducePow, Int.reduceToNat, Int.reduceAdd, Int.reduceSub, Int.reduceNeg, Int.reduceEq, Nat.reducePow, String.reduceEq, sO, sP, labs_ow, labs_len, Row.ow, Row.nob, Row.nfz, Row.fz]
    exact q _
/-- the rows of a text as they are read -/
def linesF (l : List Nat) : List (List Nat) := if l = [] then [] else TL.spl [10] 0 [] l
def readD : RdS → Nat → List (List Nat) → Option RdS
  | s, _, [] => some s
  | s, k, l :: ls => (stepD s k l).bind fun s' => readD s' (k + 1) ls
def rowsF (l : List Nat) : Option (List Row) := (readD ⟨[], [], []⟩ 0 (linesF l)).bind fun s => s.rows.mapM (finF s.labels)
theorem stepD_len {s s' : RdS} {k : Nat} {l : List Nat} (h : stepD s k l = some s') : s'.rows.length ≤ s.rows.length + 1 ∧ s'.labels.length ≤ s.labels.length + 1 ∧ (s.spots.length = s.rows.length → s'.spots.length = s'.rows.length) := by
  unfold stepD at h
  split at h
  · split at h
    · cases h
      simp
    · cases h
  · obtain ⟨r, _, rfl⟩ := Option.map_eq_some_iff.mp h
    simp
theorem readD_snoc : ∀ (ls : List (List Nat)) (s : RdS) (k : Nat) (l : List Nat), readD s k (ls ++ [l]) = (readD s k ls).bind fun s' => stepD s' (k + ls.length) l
  | [], s, k, l => by
    show (stepD s k l).bind (fun s' => some s') = stepD s (k + 0) l
    rw [Nat.add_zero]
    cases stepD s k l <;> rfl
  | x :: ls, s, k, l => by
    show (stepD s k x).bind (fun s' => readD s' (k + 1) (ls ++ [l])) = ((stepD s k x).bind fun s' => readD s' (k + 1) ls).bind _
    rw [Option.bind_assoc]
    congr 1
    funext s'
    rw [readD_snoc ls s' (k + 1) l, List.length_cons]
    congr 1
    funext s2
    rw [show k + 1 + ls.length = k + (ls.length + 1) by omega]
theorem readD_pre : ∀ (ls r : List (List Nat)) (s s2 : RdS) (k : Nat), readD s k (ls ++ r) = some s2 → ∃ s1, readD s k ls = some s1 ∧ readD s1 (k + ls.length) r = some s2
  | [], r, s, s2, k, h => ⟨s, rfl, by simpa using h⟩
  | x :: ls, r, s, s2, k, h => by
    have h : (stepD s k x).bind (fun s' => readD s' (k + 1) (ls ++ r)) = some s2 := h
    obtain ⟨s', h1, h2⟩ := Option.bind_eq_some_iff.mp h
    obtain ⟨s1, h3, h4⟩ := readD_pre ls r s' s2 (k + 1) h2
    refine ⟨s1, ?_, by rw [List.length_cons, show k + (ls.length + 1) = k + 1 + ls.length by omega]; exact h4⟩
    show (stepD s k x).bind (fun s' => readD s' (k + 1) ls) = some s1
    rw [h1]
    exact h3
theorem rd_loop {L : List (List Nat)} {s : RdS} {env0 : Option T} {QS : Fl × En → Prop} (hL : L.length ≤ 80000) (hw : ∀ w, w ∈ L → w.length ≤ 80000) (h : readD ⟨[], [], []⟩ 0 L = some s) (q : s.rows.length ≤ 80000 → s.spots.length = s.rows.length → ∀ x2 x3, QS (.nx, [env0, some (rdgT true s), x2, x3])) :
    wp (forGo (gT 2 (gsC (gN 2) (gsC (gN 3) gsN))) (sDrop (eCall (some 0) (some 1) f_Reading_read (aCons (bOb 1 (Str.ofString "Reading") (Str.ofString "read")) (aCons (bV 3) (aCons (bV 2) aNil)))))
          (L.zipIdx.map fun p : List Nat × Nat => T.pr [T.int p.2, T.str (tx p.1)]) [env0, some (rdgT true { rows := [], spots := [], labels := [] }), none, none]) QS := by
  refine for2 (fun D r e => ∃ x2 x3, ∃ s1 : RdS, readD ⟨[], [], []⟩ 0 (D.map (·.1)) = some s1 ∧ (s1.rows.length ≤ D.length ∧ s1.labels.length ≤ D.length ∧ s1.spots.length = s1.rows.length) ∧ e = [env0, some (rdgT true s1), x2, x3]) ⟨none, none, _, rfl, ⟨Nat.zero_le _, Nat.zero_le _, rfl⟩, rfl⟩ ?_ ?_
  · rintro D ⟨l, k⟩ rr _ J hD ⟨x2, x3, s1, h1, ⟨h2, h3, h4⟩, rfl⟩ hJ
    have hk : k = D.length := by
      have e : L.zipIdx[D.length]? = some (l, k) := by rw [hD]; simp
      rw [List.getElem?_zipIdx] at e
      obtain ⟨_, _, e⟩ := Option.map_eq_some_iff.mp e
      simp at e
      omega
    have hDl : D.length < L.length := by
      have := congrArg List.length hD
      simp at this
      omega
    have hl : l ∈ L := by
      have : (l, k) ∈ L.zipIdx := by rw [hD]; simp
      exact (List.mem_zipIdx' this).2 ▸ List.getElem_mem _
    have hst : ∃ s2, stepD s1 k l = some s2 := by
      have e : L = D.map (·.1) ++ l :: rr.map (·.1) := by
        have := congrArg (List.map Prod.fst) hD
        rw [List.zipIdx_map_fst] at this
        simpa using this
      rw [e] at h
      obtain ⟨s3, a, b⟩ := readD_pre _ _ _ _ _ h
      rw [h1] at a
      cases a
      have b : (stepD s1 (0 + (D.map (·.1)).length) l).bind (fun s' => readD s' (0 + (D.map (·.1)).length + 1) (rr.map (·.1))) = some s := b
      obtain ⟨s2, hs2, _⟩ := Option.bind_eq_some_iff.mp b
      refine ⟨s2, ?_⟩
      rw [hk]
      simpa using hs2
    obtain ⟨s2, hs2⟩ := hst
    obtain ⟨g1, g2, g3⟩ := stepD_len hs2
    simp only [↓sA, sB, sC, if_true, if_false, forall_const, implies_true, forall_eq', false_imp_iff, oEq, oNe, eqT, oAdd, oNeg, oAbs, oMax2, oMin2, oInt, oLen, oIsN, oNotN, oIn, oNin, inT, eqF, oIsi, oIsi2, oList, oTuple, seqT, zp, enm, two, three, ioFind, ioCount, brOk, Bop.still, Bop.isI, T.ow, T.owl, T.nob, T.nobl, T.nfz, T.nfzl, T.fz, T.fzl, Bop.fit, Bop.res, Bop.bo, List.replicate, big, wipeE, reduceCtorEq, Nat.reduceAdd, Nat.reduceSub, Nat.reduceLT, Nat.reduceLeDiff, Int.reduceLT, Int.reduceLE, Int.reduceMul, Int.reducePow, Int.reduceToNat, Int.reduceAdd, Int.reduceSub, Int.reduceNeg, Int.reduceEq, Nat.reducePow, String.reduceEq, sO, sP, tx_len, tx_chars, tx_cps, tx_cut, w_bS, kBs_ap, isS_str, isS_br, w_ixS, kIxS_ap]
    unfold rdgT at *
    simp only [↓sA, sB, sC, if_true, if_false, forall_const, implies_true, forall_eq', false_imp_iff, oEq, oNe, eqT, oAdd, oNeg, oAbs, oMax2, oMin2, oInt, oLen, oIsN, oNotN, oIn, oNin, inT, eqF, oIsi, oIsi2, oList, oTuple, seqT, zp, enm, two, three, ioFind, ioCount, brOk, Bop.still, Bop.isI, T.ow, T.owl, T.nob, T.nobl, T.nfz, T.nfzl, T.fz, T.fzl, Bop.fit, Bop.res, Bop.bo, List.replicate, big, wipeE, reduceCtorEq, Nat.reduceAdd, Nat.reduceSub, Nat.reduceLT, Nat.reduceLeDiff, Int.reduceLT, Int.reduceLE, Int.reduceMul, Int.reducePow, Int.reduceToNat, Int.reduceAdd, Int.reduceSub, Int.reduceNeg, Int.reduceEq, Nat.reducePow, String.reduceEq, sO, sP, tx_len, tx_chars, tx_cps, tx_cut, w_bS, kBs_ap, isS_str, isS_br, w_ixS, kIxS_ap]
    refine read_ok (by have := hw l hl; omega) hs2 ⟨by omega, by omega, by omega⟩ ?_
    unfold rdgT at *
    simp only [↓sA, sB, sC, if_true, if_false, forall_const, implies_true, forall_eq', false_imp_iff, oEq, oNe, eqT, oAdd, oNeg, oAbs, oMax2, oMin2, oInt, oLen, oIsN, oNotN, oIn, oNin, inT, eqF, oIsi, oIsi2, oList, oTuple, seqT, zp, enm, two, three, ioFind, ioCount, brOk, Bop.still, Bop.isI, T.ow, T.owl, T.nob, T.nobl, T.nfz, T.nfzl, T.fz, T.fzl, Bop.fit, Bop.res, Bop.bo, List.replicate, big, wipeE, reduceCtorEq, Nat.reduceAdd, Nat.reduceSub, Nat.reduceLT, Nat.reduceLeDiff, Int.reduceLT, Int.reduceLE, Int.reduceMul, Int.reducePow, Int.reduceToNat, Int.reduceAdd, Int.reduceSub, Int.reduceNeg, Int.reduceEq, Nat.reducePow, String.reduceEq, sO, sP, tx_len, tx_chars, tx_cps, tx_cut, w_bS, kBs_ap, isS_str, isS_br, w_ixS, kIxS_ap]
    refine hJ _ ⟨_, _, s2, ?_, ⟨by simp; omega, by simp; omega, g3 h4⟩, rfl⟩
    rw [List.map_append, List.map_cons, List.map_nil, readD_snoc, h1]
    simp only [Option.bind_some, List.length_map, Nat.zero_add]
    rw [← hk]
    exact hs2
  · rintro _ ⟨x2, x3, s1, h1, ⟨h2, h3, h4⟩, rfl⟩
    rw [List.zipIdx_map_fst, h] at h1
    cases h1
    simp at h2
    exact q (by omega) h4 x2 x3
theorem mapM_some {α β : Type} {f : α → Option β} : ∀ {xs : List α} {ys : List β}, xs.mapM f = some ys → xs.map f = ys.map some
  | [], ys, h => by
    rw [List.mapM_nil] at h
    cases h
    rfl
  | x :: xs, ys, h => by
    rw [List.mapM_cons] at h
    obtain ⟨y, h1, h⟩ := Option.bind_eq_some_iff.mp h
    obtain ⟨zs, h2, h⟩ := Option.bind_eq_some_iff.mp h
    cases h
    rw [List.map_cons, List.map_cons, h1, mapM_some h2]
theorem some_mapM {α β : Type} {f : α → Option β} : ∀ {xs : List α} {ys : List β}, xs.map f = ys.map some → xs.mapM f = some ys
  | [], [], h => rfl
  | [], _ :: _, h => by simp at h
  | _ :: _, [], h => by simp at h
  | x :: xs, y :: ys, h => by
    rw [List.map_cons, List.map_cons, List.cons.injEq] at h
    rw [List.mapM_cons, h.1, some_mapM h.2]
    rfl
theorem rowsfrom_ok {l : List Nat} {out : List Row} {Q : T × Option T → Prop} (hl : l.length ≤ 70000) (h : rowsF l = some out) (q : Q (.lst true (out.map Row.t), none)) : wp (f_rows_from [.str (tx l)]) Q := by
  unfold f_rows_from b_rows_from
  simp only [↓sA, sB, sC, if_true, if_false, forall_const, implies_true, forall_eq', false_imp_iff, oEq, oNe, eqT, oAdd, oNeg, oAbs, oMax2, oMin2, oInt, oLen, oIsN, oNotN, oIn, oNin, inT, eqF, oIsi, oIsi2, oList, oTuple, seqT, zp, enm, two, three, ioFind, ioCount, brOk, Bop.still, Bop.isI, T.ow, T.owl, T.nob, T.nobl, T.nfz, T.nfzl, T.fz, T.fzl, Bop.fit, Bop.res, Bop.bo, List.replicate, big, wipeE, reduceCtorEq, Nat.reduceAdd, Nat.reduceSub, Nat.reduceLT, Nat.reduceLeDiff, Int.reduceLT, Int.reduceLE, Int.reduceMul, Int.reducePow, Int.reduceToNat, Int.reduceAdd, Int.reduceSub, Int.reduceNeg, Int.reduceEq, Nat.reducePow, String.reduceEq, sO, sP, tx_len, tx_chars, tx_cps, tx_cut, w_bS, kBs_ap, isS_str, isS_br, w_ixS, kIxS_ap, tx_inj, s_empty, s_lf]
  refine rinit2_ok ?_
  simp only [↓sA, sB, sC, if_true, if_false, forall_const, implies_true, forall_eq', false_imp_iff, oEq, oNe, eqT, oAdd, oNeg, oAbs, oMax2, oMin2, oInt, oLen, oIsN, oNotN, oIn, oNin, inT, eqF, oIsi, oIsi2, oList, oTuple, seqT, zp, enm, two, three, ioFind, ioCount, brOk, Bop.still, Bop.isI, T.ow, T.owl, T.nob, T.nobl, T.nfz, T.nfzl, T.fz, T.fzl, Bop.fit, Bop.res, Bop.bo, List.replicate, big, wipeE, reduceCtorEq, Nat.reduceAdd, Nat.reduceSub, Nat.reduceLT, Nat.reduceLeDiff, Int.reduceLT, Int.reduceLE, Int.reduceMul, Int.reducePow, Int.reduceToNat, Int.reduceAdd, Int.reduceSub, Int.reduceNeg, Int.reduceEq, Nat.reducePow, String.reduceEq, sO, sP, tx_len, tx_chars, tx_cps, tx_cut, w_bS, kBs_ap, isS_str, isS_br, w_ixS, kIxS_ap, tx_inj, s_empty, s_lf, w_split, tx_split (a := l) (b := [10]) (by decide) (by decide)]
  unfold rowsF at h
  obtain ⟨s, h1, h2⟩ := Option.bind_eq_some_iff.mp h
  have fin : ∀ x2 x3, s.rows.length ≤ 80000 → s.spots.length = s.rows.length → wp (sRet (eCall (some 0) (some 1) f_Reading_finished (aCons (bOb 1 (Str.ofString "Reading") (Str.ofString "finished")) aNil)) [some (T.str (tx l)), some (rdgT true s), x2, x3]) (kF Q) := fun x2 x3 g1 g2 => by
    unfold rdgT
    simp only [↓sA, sB, sC, if_true, if_false, forall_const, implies_true, forall_eq', false_imp_iff, oEq, oNe, eqT, oAdd, oNeg, oAbs, oMax2, oMin2, oInt, oLen, oIsN, oNotN, oIn, oNin, inT, eqF, oIsi, oIsi2, oList, oTuple, seqT, zp, enm, two, three, ioFind, ioCount, brOk, Bop.still, Bop.isI, T.ow, T.owl, T.nob, T.nobl, T.nfz, T.nfzl, T.fz, T.fzl, Bop.fit, Bop.res, Bop.bo, List.replicate, big, wipeE, reduceCtorEq, Nat.reduceAdd, Nat.reduceSub, Nat.reduceLT, Nat.reduceLeDiff, Int.reduceLT, Int.reduceLE, Int.reduceMul, Int.reducePow, Int.reduceToNat, Int.reduceAdd, Int.reduceSub, Int.reduceNeg, Int.reduceEq, Nat.reducePow, String.reduceEq, sO, sP, tx_len, tx_chars, tx_cps, tx_cut, w_bS, kBs_ap, isS_str, isS_br, w_ixS, kIxS_ap]
    refine fin_ok (s := s) (out := out) (by omega) g2 ?_ fun u => ?_
    · exact mapM_some h2
    · simp only [↓sA, sB, sC, if_true, if_false, forall_const, implies_true, forall_eq', false_imp_iff, oEq, oNe, eqT, oAdd, oNeg, oAbs, oMax2, oMin2, oInt, oLen, oIsN, oNotN, oIn, oNin, inT, eqF, oIsi, oIsi2, oList, oTuple, seqT, zp, enm, two, three, ioFind, ioCount, brOk, Bop.still, Bop.isI, T.ow, T.owl, T.nob, T.nobl, T.nfz, T.nfzl, T.fz, T.fzl, Bop.fit, Bop.res, Bop.bo, List.replicate, big, wipeE, reduceCtorEq, Nat.reduceAdd, Nat.reduceSub, Nat.reduceLT, Nat.reduceLeDiff, Int.reduceLT, Int.reduceLE, Int.reduceMul, Int.reducePow, Int.reduceToNat, Int.reduceAdd, Int.reduceSub, Int.reduceNeg, Int.reduceEq, Nat.reducePow, String.reduceEq, sO, sP, Row.nob, Row.ow, Row.fz, Row.nfz]
      exact q
  unfold linesF at h1
  split
  · rename_i hne
    rw [if_neg hne] at h1
    have hm := spl_many (S := [10]) l 0 []
    refine ⟨⟨rfl, by omega⟩, ?_⟩
    rw [List.zipIdx_map, List.map_map]
    refine rd_loop (by omega) (fun w hw => ?_) h1 fun g1 g2 x2 x3 => ?_
    · have := spl_word _ _ _ _ hw
      simp at this
      omega
    · rw [kSeq_nx]
      exact fin x2 x3 g1 g2
  · rename_i hne
    have hne := Decidable.not_not.mp hne
    rw [if_pos hne] at h1
    refine rd_loop (L := []) (by simp) (fun w hw => nomatch hw) h1 fun g1 g2 x2 x3 => ?_
    rw [kSeq_nx]
    exact fin x2 x3 g1 g2
end NP
end
section
namespace NP
open PySem L2 QL
inductive It where
  | lab (l : List Nat) | row (r : Row) (g : List Nat)
def regW (r : Int) : List Nat := [97 + r.toNat]
def rowWords (g : List Nat) : Row → List (List Nat)
  | .set r n => [[115, 101, 116], regW r, TL.numL n.toNat]
  | .sum r s => [[115, 117, 109], regW r, regW s]
  | .less r s => [[108, 101, 115, 115], regW r, regW s]
  | .tell r => [[116, 101, 108, 108], regW r]
  | .go _ => [[103, 111], g]
  | .nil r _ => [[110, 105, 108], regW r, g]
  | .stop => [[115, 116, 111, 112]]
def It.line : It → List Nat
  | .lab l => l ++ [58]
  | .row r g => TL.joinL [32] (rowWords g r)
def itText (its : List It) : List Nat := TL.joinL [10] (its.map It.line)
def itRows : List It → List Row
  | [] => []
  | .lab _ :: r => itRows r
  | .row x _ :: r => x :: itRows r
/-- where labels stand -/
def labM : Nat → List It → List (List Nat × Nat)
  | _, [] => []
  | n, .lab l :: r => (l, n) :: labM n r
  | n, .row _ _ :: r => labM (n + 1) r
def rawOf (g : List Nat) : Row → Raw
  | .set r n => .set r.toNat n.toNat
  | .sum r s => .sum r.toNat s.toNat
  | .less r s => .less r.toNat s.toNat
  | .tell r => .tell r.toNat
  | .go _ => .go g
  | .nil r _ => .nil r.toNat g
  | .stop => .stop
def itRaws : List It → List Raw
  | [] => []
  | .lab _ :: r => itRaws r
  | .row x g :: r => rawOf g x :: itRaws r
theorem isLab_mem {l : List Nat} (h : isLab l = true) : (1 ≤ l.length ∧ l.length ≤ 8) ∧ ∀ c, c ∈ l → 97 ≤ c ∧ c ≤ 122 := by
  unfold isLab at h
  simp only [Bool.and_eq_true, decide_eq_true_eq, List.all_eq_true] at h
  refine ⟨h.1, fun c hc => ?_⟩
  have := h.2 c hc
  simp only [List.mem_cons, List.not_mem_nil, or_false] at this
  omega
theorem isLab_of {l : List Nat} (h : 1 ≤ l.length ∧ l.length ≤ 8) (h2 : ∀ c, c ∈ l → 97 ≤ c ∧ c ≤ 122) : isLab l = true := by
  unfold isLab
  simp only [Bool.and_eq_true, decide_eq_true_eq, List.all_eq_true]
  refine ⟨h, fun c hc => ?_⟩
  have := h2 c hc
  simp only [List.mem_cons, List.not_mem_nil, or_false]
  omega
theorem reg_of {r : Int} (h : 0 ≤ r ∧ r < 5) : regF (regW r) = some r.toNat := by
  unfold regW
  rw [regF_one, if_pos (by simp only [List.mem_cons, List.not_mem_nil, or_false]; omega)]
  congr 1
  omega
theorem numL_head : ∀ (n : Nat), 1 ≤ n → ∀ c, (TL.numL n).head? = some c → c ≠ 48
  | n, h, c, hc => by
    by_cases h10 : n < 10
    · rw [TL.numL_lt h10] at hc
      simp at hc
      omega
    · rw [TL.numL_step (by omega)] at hc
      have hne := TL.numL_ne (n / 10)
      cases e : TL.numL (n / 10) with
      | nil => exact absurd e hne
      | cons d ds =>
        rw [e] at hc
        exact numL_head (n / 10) (by omega) c (by rw [e]; simpa using hc)
  termination_by n => n
theorem numL_dig {n c : Nat} (h : c ∈ TL.numL n) : 48 ≤ c ∧ c ≤ 57 := by
  refine ⟨?_, ?_⟩
  · refine Nat.le_of_not_lt fun z => TL.numL_free (n := n) (s := c) (.inl z) h
  · refine Nat.le_of_not_lt fun z => TL.numL_free (n := n) (s := c) (.inr z) h
theorem num_of {n : Nat} (h : n ≤ 99999999) : numF (TL.numL n) = some n := by
  unfold numF
  have hl : (TL.numL n).length ≤ 8 := TL.numL_len (by omega) (by omega)
  have hne := TL.numL_ne n
  rw [if_pos, TL.numL_val]
  refine ⟨⟨List.length_pos_iff.mpr hne, hl⟩, List.all_eq_true.mpr fun c hc => ?_, fun z => ?_⟩
  · have := numL_dig hc
    simp only [List.mem_cons, List.not_mem_nil, or_false, decide_eq_true_eq]
    omega
  · by_cases h0 : n = 0
    · subst h0
      exact z.2 (TL.numL_lt (by omega))
    · exact numL_head n (by omega) 48 z.1 rfl
/-- a label where one is wanted -/
def Row.fitL (g : List Nat) (r : Row) : Prop := r.jump = true → isLab g = true
theorem words_raw {r : Row} {g : List Nat} {m : Int} (hr : r.ok m) (hg : r.fitL g) : wordsF (rowWords g r) = some (rawOf g r) := by
  cases r <;> simp only [Row.ok] at hr <;> simp only [rowWords, wordsF, rawOf, if_true, List.cons.injEq, Nat.reduceEqDiff, false_and, and_false, if_false, reduceCtorEq]
  case set r n => rw [reg_of hr.1, num_of (by omega)]; rfl
  case sum r s => rw [reg_of hr.1, reg_of hr.2]; rfl
  case less r s => rw [reg_of hr.1, reg_of hr.2]; rfl
  case tell r => rw [reg_of hr]; rfl
  case go t => unfold labF; rw [if_pos (hg rfl)]; rfl
  case nil r t => unfold labF; rw [if_pos (hg rfl), reg_of hr.1]; rfl
/-- the signs of a row's words -/
theorem words_sign {r : Row} {g : List Nat} {m : Int} (hr : r.ok m) (hg : r.fitL g) : ∀ w, w ∈ rowWords g r → w ≠ [] ∧ ∀ c, c ∈ w → (48 ≤ c ∧ c ≤ 57) ∨ (97 ≤ c ∧ c ≤ 122) := by
  have hreg : ∀ r : Int, 0 ≤ r ∧ r < 5 → ∀ c, c ∈ regW r → (48 ≤ c ∧ c ≤ 57) ∨ (97 ≤ c ∧ c ≤ 122) := fun r h c hc => by
    unfold regW at hc
    rw [List.mem_singleton] at hc
    omega
  have hnum : ∀ n : Nat, ∀ c, c ∈ TL.numL n → (48 ≤ c ∧ c ≤ 57) ∨ (97 ≤ c ∧ c ≤ 122) := fun n c hc => .inl (numL_dig hc)
  have hlab : isLab g = true → g ≠ [] ∧ ∀ c, c ∈ g → (48 ≤ c ∧ c ≤ 57) ∨ (97 ≤ c ∧ c ≤ 122) := fun h => by
    have := isLab_mem h
    exact ⟨fun z => by rw [z] at this; simp at this, fun c hc => .inr (this.2 c hc)⟩
  have hc : ∀ w : List Nat, (w.all fun c => decide (97 ≤ c ∧ c ≤ 122)) = true → ∀ c, c ∈ w → (48 ≤ c ∧ c ≤ 57) ∨ (97 ≤ c ∧ c ≤ 122) := fun w h c hc => .inr (of_decide_eq_true (List.all_eq_true.mp h c hc))
  cases r <;> simp only [Row.ok] at hr <;> simp only [rowWords] <;> intro w hw <;> simp only [List.mem_cons, List.not_mem_nil, or_false] at hw
  case set r n => rcases hw with rfl | rfl | rfl; exact ⟨by simp, hc _ (by decide)⟩; exact ⟨by simp [regW], hreg _ hr.1⟩; exact ⟨TL.numL_ne _, hnum _⟩
  case sum r s => rcases hw with rfl | rfl | rfl; exact ⟨by simp, hc _ (by decide)⟩; exact ⟨by simp [regW], hreg _ hr.1⟩; exact ⟨by simp [regW], hreg _ hr.2⟩
  case less r s => rcases hw with rfl | rfl | rfl; exact ⟨by simp, hc _ (by decide)⟩; exact ⟨by simp [regW], hreg _ hr.1⟩; exact ⟨by simp [regW], hreg _ hr.2⟩
  case tell r => rcases hw with rfl | rfl; exact ⟨by simp, hc _ (by decide)⟩; exact ⟨by simp [regW], hreg _ hr⟩
  case go t => rcases hw with rfl | rfl; exact ⟨by simp, hc _ (by decide)⟩; exact hlab (hg rfl)
  case nil r t => rcases hw with rfl | rfl | rfl; exact ⟨by simp, hc _ (by decide)⟩; exact ⟨by simp [regW], hreg _ hr.1⟩; exact hlab (hg rfl)
  case stop => subst hw; exact ⟨by simp, hc _ (by decide)⟩
theorem words_ne {r : Row} {g : List Nat} : rowWords g r ≠ [] := by cases r <;> simp [rowWords]
theorem mem_join {S : List Nat} {c : Nat} : ∀ {ps : List (List Nat)}, c ∈ TL.joinL S ps → c ∈ S ∨ ∃ p ∈ ps, c ∈ p
  | [], h => by simp [TL.joinL] at h
  | [p], h => .inr ⟨p, by simp, by simpa [TL.joinL] using h⟩
  | p :: q :: r, h => by
    have h : c ∈ p ++ (S ++ TL.joinL S (q :: r)) := h
    rcases List.mem_append.mp h with h | h
    · exact .inr ⟨p, by simp, h⟩
    · rcases List.mem_append.mp h with h | h
      · exact .inl h
      · exact (mem_join h).imp id fun ⟨x, hx, hc⟩ => ⟨x, List.mem_cons_of_mem _ hx, hc⟩
theorem line_sign {r : Row} {g : List Nat} {m : Int} (hr : r.ok m) (hg : r.fitL g) : ∀ c, c ∈ (It.row r g).line → c = 32 ∨ (48 ≤ c ∧ c ≤ 57) ∨ (97 ≤ c ∧ c ≤ 122) := fun c hc => by
  rcases mem_join hc with h | ⟨p, hp, h⟩
  · exact .inl (by simpa using h)
  · exact .inr ((words_sign hr hg p hp).2 c h)
theorem row_of_line {r : Row} {g : List Nat} {m : Int} (hr : r.ok m) (hg : r.fitL g) : rowF (It.row r g).line = some (rawOf g r) := by
  unfold rowF It.line
  dsimp only
  rw [TL.spl_join words_ne fun p hp hc => ?_]
  · exact words_raw hr hg
  · have := (words_sign hr hg p hp).2 32 hc
    omega
theorem lab_of_row {r : Row} {g : List Nat} {m : Int} (hr : r.ok m) (hg : r.fitL g) : labL (It.row r g).line = none := by
  unfold labL
  rw [if_neg]
  intro z
  have := line_sign hr hg 58 (List.mem_of_getLast? z.1)
  omega
theorem lab_of_lab {l : List Nat} (h : isLab l = true) : labL (It.lab l).line = some l := by
  unfold labL It.line
  dsimp only
  rw [List.dropLast_concat, if_pos ⟨by simp, h⟩]
/-- what such a text must keep -/
structure GoodI (m : Int) (its : List It) : Prop where
  lab : ∀ l, It.lab l ∈ its → isLab l = true
  nd : ((labM 0 its).map (·.1)).Nodup
  row : ∀ r g, It.row r g ∈ its → r.ok m ∧ r.fitL g ∧ finF (labM 0 its) (rawOf g r) = some r
theorem lab_none {u : List (List Nat × Nat)} {l : List Nat} (h : l ∉ u.map (·.1)) : lab? u l = none := by
  unfold lab?
  rw [Option.map_eq_none_iff, List.find?_eq_none]
  intro x hx z
  exact h (List.mem_map.mpr ⟨x, hx, of_decide_eq_true z⟩)
theorem its_read {m : Int} : ∀ (its : List It) (s : RdS) (k : Nat), (∀ l, It.lab l ∈ its → isLab l = true) → (∀ r g, It.row r g ∈ its → r.ok m ∧ r.fitL g) → ((s.labels ++ labM s.rows.length its).map (·.1)).Nodup →
    ∃ sp, readD s k (its.map It.line) = some ⟨s.rows ++ itRaws its, sp, s.labels ++ labM s.rows.length its⟩
  | [], s, k, _, _, _ => ⟨s.spots, by simp [readD, itRaws, labM]⟩
  | .lab l :: its, s, k, h1, h2, h3 => by
    have hn : lab? s.labels l = none := lab_none fun z => by
      simp only [labM, List.map_append, List.map_cons] at h3
      exact (List.nodup_append.mp h3).2.2 l z l List.mem_cons_self rfl
    obtain ⟨sp, ih⟩ := its_read its { s with labels := s.labels ++ [(l, s.rows.length)] } (k + 1) (fun l hl => h1 l (List.mem_cons_of_mem _ hl)) (fun r g hr => h2 r g (List.mem_cons_of_mem _ hr)) (by simpa [labM] using h3)
    refine ⟨sp, ?_⟩
    show (stepD s k (It.lab l).line).bind (fun s' => readD s' (k + 1) (its.map It.line)) = _
    unfold stepD
    rw [lab_of_lab (h1 l List.mem_cons_self)]
    dsimp only
    rw [if_pos hn, Option.bind_some, ih]
    simp [itRaws, labM]
  | .row r g :: its, s, k, h1, h2, h3 => by
    have hr := h2 r g List.mem_cons_self
    obtain ⟨sp, ih⟩ := its_read its { s with rows := s.rows ++ [rawOf g r], spots := s.spots ++ [k] } (k + 1) (fun l hl => h1 l (List.mem_cons_of_mem _ hl)) (fun r g hr => h2 r g (List.mem_cons_of_mem _ hr)) (by simpa [labM] using h3)
    refine ⟨sp, ?_⟩
    show (stepD s k (It.row r g).line).bind (fun s' => readD s' (k + 1) (its.map It.line)) = _
    unfold stepD
    rw [lab_of_row hr.1 hr.2]
    dsimp only
    rw [row_of_line hr.1 hr.2, Option.map_some, Option.bind_some, ih]
    simp [itRaws, labM]
theorem line_ne {m : Int} {its : List It} (h : GoodI m its) : ∀ x, x ∈ its → x.line ≠ [] ∧ 10 ∉ x.line := fun x hx => by
  cases x with
  | lab l =>
    refine ⟨by simp [It.line], fun z => ?_⟩
    have := isLab_mem (h.lab l hx)
    rcases List.mem_append.mp z with z | z
    · have := this.2 10 z; omega
    · simp at z
  | row r g =>
    obtain ⟨h1, h2, _⟩ := h.row r g hx
    refine ⟨fun z => ?_, fun z => ?_⟩
    · have := row_of_line h1 h2
      rw [z] at this
      simp [rowF, TL.spl_nil, wordsF] at this
    · have := line_sign h1 h2 10 z
      omega
theorem lines_it {m : Int} {its : List It} (h : GoodI m its) : linesF (itText its) = its.map It.line := by
  unfold linesF itText
  cases its with
  | nil => rfl
  | cons x r =>
    rw [if_neg, TL.spl_join (by simp) fun p hp => ?_]
    · obtain ⟨y, hy, rfl⟩ := List.mem_map.mp hp
      exact (line_ne h y hy).2
    · have hx := (line_ne h x List.mem_cons_self).1
      cases r with
      | nil => exact hx
      | cons y r => intro z; exact hx (List.append_eq_nil_iff.mp (show x.line ++ ([10] ++ TL.joinL [10] ((y :: r).map It.line)) = [] from z)).1
theorem its_raws {u : List (List Nat × Nat)} : ∀ {its : List It}, (∀ r g, It.row r g ∈ its → finF u (rawOf g r) = some r) → (itRaws its).map (finF u) = (itRows its).map some
  | [], _ => rfl
  | .lab l :: its, h => its_raws (its := its) fun r g hr => h r g (List.mem_cons_of_mem _ hr)
  | .row r g :: its, h => by
    simp only [itRaws, itRows, List.map_cons]
    rw [h r g List.mem_cons_self, its_raws fun r g hr => h r g (List.mem_cons_of_mem _ hr)]
theorem its_rows {m : Int} {its : List It} (h : GoodI m its) : rowsF (itText its) = some (itRows its) := by
  unfold rowsF
  rw [lines_it h]
  obtain ⟨sp, e⟩ := its_read its ⟨[], [], []⟩ 0 h.lab (fun r g hr => ⟨(h.row r g hr).1, (h.row r g hr).2.1⟩) (by simpa using h.nd)
  rw [e, Option.bind_some]
  refine some_mapM ?_
  simp only [List.nil_append, List.length_nil]
  exact its_raws fun r g hr => (h.row r g hr).2.2
end NP
end
section
namespace NP
open PySem L2 QL
def b_label_of : SM :=
  sRet (eOp oAdd (aCons (bE (eOp oIx (aCons (bE (eC (.str "abcdefghijklmnopqrstuvwxyz"))) (aCons (bE (eOp oFdiv (aCons (bV 0) (aCons (bE (eC (.int 26))) aNil)))) aNil)))) (aCons (bE (eOp oIx (aCons (bE (eC (.str "abcdefghijklmnopqrstuvwxyz"))) (aCons (bE (eOp oMod (aCons (bV 0) (aCons (bE (eC (.int 26))) aNil)))) aNil)))) aNil)))
def f_label_of : Fn := fnN 1 1 none b_label_of
def b_row_words : SM :=
  sSeq (sAsg (eOp oIx (aCons (bV 0) (aCons (bE (eC (.int 0))) aNil))) (gN 1))
    (sSeq (sIf (tV (eOp oEq (aCons (bV 1) (aCons (bE (eC (.str "go"))) aNil)))) (sRet (eLst (aCons (bE (eMv 1)) (aCons (bE (eCall none none f_label_of (aCons (bE (eOp oIx (aCons (bV 0) (aCons (bE (eC (.int 1))) aNil)))) (aNil)))) (aNil))))) (sNil))
    (sSeq (sIf (tV (eOp oEq (aCons (bV 1) (aCons (bE (eC (.str "nil"))) aNil)))) (sRet (eLst (aCons (bE (eMv 1)) (aCons (bE (eOp oIx (aCons (bE (eC (.str "abcde"))) (aCons (bE (eOp oIx (aCons (bV 0) (aCons (bE (eC (.int 1))) aNil)))) aNil)))) (aCons (bE (eCall none none f_label_of (aCons (bE (eOp oIx (aCons (bV 0) (aCons (bE (eC (.int 2))) aNil)))) (aNil)))) (aNil)))))) (sNil))
    (sSeq (sIf (tV (eOp oEq (aCons (bV 1) (aCons (bE (eC (.str "set"))) aNil)))) (sRet (eLst (aCons (bE (eMv 1)) (aCons (bE (eOp oIx (aCons (bE (eC (.str "abcde"))) (aCons (bE (eOp oIx (aCons (bV 0) (aCons (bE (eC (.int 1))) aNil)))) aNil)))) (aCons (bE (eOp oStr (aCons (bE (eOp oIx (aCons (bV 0) (aCons (bE (eC (.int 2))) aNil)))) (aNil)))) (aNil)))))) (sNil))
    (sRet (eOp oAdd (aCons (bE (eLst (aCons (bE (eAl 1)) (aNil)))) (aCons (bE (eLc (iSeq (bE (eOp (oSl true false) (aCons (bV 0) (aCons (bE (eC (.int 1))) aNil))))) (gN 2) (cYes) (eOp oIx (aCons (bE (eC (.str "abcde"))) (aCons (bV 2) aNil))) [2])) aNil)))))))
def f_row_words : Fn := fnN 1 3 none b_row_words
def b_text_from : SM :=
  sSeq (sAsg (eOp oDict (aCons (bE (eLc (iSeq (bE (eCall none none f_jumps_of (aCons (bV 0) (aNil))))) (gN 3) (cYes) (eTup (aCons (bE (eOp oIx (aCons (bE (eOp oIx (aCons (bV 0) (aCons (bV 3) aNil)))) (aCons (bE (eOp oNeg (aCons (bE (eC (.int 1))) aNil))) aNil)))) (aCons (bE (eC (.bl true))) (aNil)))) [3])) (aNil))) (gN 1))
    (sSeq (sAsg (eLst (aNil)) (gN 2))
    (sSeq (sFor (iRng enm (aCons (bV 0) (aNil))) (gT 2 (gsC (gN 3) (gsC (gN 4) (gsN))))
    (sSeq (sIf (tV (eOp oDIn (aCons (bV 3) (aCons (bV 1) aNil)))) (sDrop (eMut 2 T.isLst mAppend (aCons (bE (eOp oAdd (aCons (bE (eCall none none f_label_of (aCons (bV 3) (aNil)))) (aCons (bE (eC (.str ":"))) aNil)))) (aNil)))) (sNil))
    (sDrop (eMut 2 T.isLst mAppend (aCons (bE (eOp oJoin (aCons (bS (bE (eC (.str " ")))) (aCons (bE (eCall none none f_row_words (aCons (bV 4) (aNil)))) aNil)))) (aNil))))))
    (sSeq (sIf (tV (eOp oDIn (aCons (bE (eOp oLen (aCons (bV 0) (aNil)))) (aCons (bV 1) aNil)))) (sDrop (eMut 2 T.isLst mAppend (aCons (bE (eOp oAdd (aCons (bE (eCall none none f_label_of (aCons (bE (eOp oLen (aCons (bV 0) (aNil)))) (aNil)))) (aCons (bE (eC (.str ":"))) aNil)))) (aNil)))) (sNil))
    (sRet (eOp oJoin (aCons (bS (bE (eC (.str "\n")))) (aCons (bV 2) aNil)))))))
def f_text_from : Fn := fnN 1 5 none b_text_from
theorem let_at : ∀ k : Nat, k < 26 → atI letters (k : Int) = some (97 + k) := by decide
theorem let_atI {i : Int} (h : 0 ≤ i ∧ i < 26) : atI letters i = some (97 + i.toNat) := by
  have := let_at i.toNat (by omega)
  rwa [Int.toNat_of_nonneg h.1] at this
theorem nam_at : ∀ k : Nat, k < 5 → atI [97, 98, 99, 100, 101] (k : Int) = some (97 + k) := by decide
theorem nam_atI {i : Int} (h : 0 ≤ i ∧ i < 5) : atI [97, 98, 99, 100, 101] i = some (97 + i.toNat) := by
  have := nam_at i.toNat (by omega)
  rwa [Int.toNat_of_nonneg h.1] at this
theorem str_nat {n : Nat} (h : n < 10 ^ 13) {P : T → Prop} : wp (oStr [.int (n : Int)]) P = P (.str (tx (TL.numL n))) := by
  have hl : (TL.numL n).length ≤ 13 := TL.numL_len (by omega) h
  have hs : (PyData.int (n : Int)).shown = tx (TL.numL n) := by
    have : (PyData.int (n : Int)).shown = Str.ofString (toString (n : Int)) := by simp only [PyData.shown]
    rw [this]
    exact SX.num_S n
  have hok : shOk (.int (n : Int)) = true := by
    unfold shOk
    rw [hs, tx_len]
    have : sizeLine = 16777216 := sizeLine_eq
    rw [this]
    simp [PyData.showable, PyData.hasDict, PyData.depth]
    refine ⟨?_, Nat.le_trans hl (show 13 ≤ 16777216 by decide)⟩
    by_cases h0 : n = 0
    · subst h0; decide
    · rw [Nat.log2_lt h0]
      exact Nat.lt_of_lt_of_le h (Nat.le_trans (show 10 ^ 13 ≤ 2 ^ 60 by decide) (Nat.pow_le_pow_right (by decide) (by decide)))
  show wp (ck (shOk (.int (n : Int))) >>= fun _ => Except.ok (T.str (told (PyData.int (n : Int))))) P = _
  rw [we_bind, we_ck, we_ok, hok]
  have : told (PyData.int (n : Int)) = tx (TL.numL n) := hs
  rw [this]
  simp
theorem str_int {i : Int} (h : 0 ≤ i ∧ i < 10 ^ 13) {P : T → Prop} : wp (oStr [.int i]) P = P (.str (tx (TL.numL i.toNat))) := by
  obtain ⟨n, rfl⟩ := Int.eq_ofNat_of_zero_le h.1
  exact str_nat (by omega)
def lab2 (i : Int) : List Nat := [97 + (i / 26).toNat, 97 + (i % 26).toNat]
def goalsOf (rows : List Row) : List Int := (rows.filter Row.jump).map Row.goal
def itAt (rows : List Row) (n : Nat) : List It := (if (n : Int) ∈ goalsOf rows then [It.lab (lab2 n)] else []) ++ (match rows[n]? with | some r => [It.row r (lab2 r.goal)] | none => [])
def itsOf (rows : List Row) : List It := (List.range (rows.length + 1)).flatMap (itAt rows)
def goalAt (rows : List Row) (k : Int) : Int := ((atI rows k).map Row.goal).getD 0
def itsUp (rows : List Row) (n : Nat) : List It := (List.range n).flatMap (itAt rows)
theorem goals_okT {rows : List Row} {m : Int} (hr : ∀ r, r ∈ rows → r.ok m) : ∀ x, x ∈ goalsOf rows → 0 ≤ x ∧ x ≤ m := fun x hx => by
  unfold goalsOf at hx
  obtain ⟨r, hm, rfl⟩ := List.mem_map.mp hx
  obtain ⟨hm, hj⟩ := List.mem_filter.mp hm
  have := hr r hm
  cases r <;> simp only [Row.ok, Row.goal] at this ⊢ <;> first | exact absurd (show false = true from hj) (by decide) | omega
theorem join_len {S : List Nat} : ∀ ps : List (List Nat), (TL.joinL S ps).length ≤ (ps.map (·.length)).sum + ps.length * S.length
  | [] => by simp [TL.joinL]
  | [p] => by simp [TL.joinL]
  | p :: q :: r => by
    have ih := join_len (S := S) (q :: r)
    show (p ++ (S ++ TL.joinL S (q :: r))).length ≤ _
    simp only [List.length_append, List.map_cons, List.sum_cons, List.length_cons, Nat.add_mul, Nat.one_mul] at ih ⊢
    omega
theorem sum_le {k : Nat} : ∀ {ls : List Nat}, (∀ x, x ∈ ls → x ≤ k) → ls.sum ≤ k * ls.length
  | [], _ => by simp
  | x :: ls, h => by
    have h1 := h x List.mem_cons_self
    have h2 := sum_le (ls := ls) fun y hy => h y (List.mem_cons_of_mem _ hy)
    rw [List.sum_cons, List.length_cons, Nat.mul_add, Nat.mul_one]
    omega
def linesT (its : List It) : List T := (its.map fun x => tx x.line).map T.str
theorem lines_nob {its : List It} : T.nobl (linesT its) = true := by simp [linesT, nobl_map, T.nob]
theorem lines_fz {its : List It} : T.fzl (linesT its) = linesT its := by
  unfold linesT
  rw [fzl_map]
  rfl
theorem lines_ow {its : List It} : T.owl (linesT its) = false := by simp [linesT, owl_map, T.ow]
theorem join_lines {its : List It} {k : Nat} {o : Bool} {P : T → Prop} (h : ∀ x, x ∈ its → x.line.length ≤ k) (hk : (k + 1) * its.length ≤ 16777216) (q : P (.str (tx (itText its)))) : wp (oJoin [.str (Str.ofString "\n"), .lst o (linesT its)]) P := by
  unfold linesT
  have e2 : (its.map fun x => tx x.line) = (its.map It.line).map tx := by rw [List.map_map]; rfl
  rw [e2, s_lf, w_join, tx_join]
  refine ⟨?_, q⟩
  rw [List.map_map]
  have h1 := sum_le (k := k) (ls := (its.map It.line).map ((fun x : Str => x.length) ∘ tx)) fun n hn => by
    obtain ⟨l, hl2, rfl⟩ := List.mem_map.mp hn
    obtain ⟨x, hx, rfl⟩ := List.mem_map.mp hl2
    have := h x hx
    simpa [tx_len] using this
  simp [tx_len] at h1 ⊢
  rw [Nat.add_mul, Nat.one_mul] at hk
  omega
/-- that text tells the rows -/
theorem itRows_app : ∀ {a b : List It}, itRows (a ++ b) = itRows a ++ itRows b
  | [], _ => rfl
  | .lab _ :: a, b => itRows_app (a := a)
  | .row r g :: a, b => by
    show r :: itRows (a ++ b) = r :: itRows a ++ itRows b
    rw [itRows_app]
    rfl
theorem labM_app : ∀ {a b : List It} {k : Nat}, labM k (a ++ b) = labM k a ++ labM (k + (itRows a).length) b
  | [], _, _ => rfl
  | .lab l :: a, b, k => by
    show (l, k) :: labM k (a ++ b) = (l, k) :: labM k a ++ _
    rw [labM_app]
    rfl
  | .row r g :: a, b, k => by
    show labM (k + 1) (a ++ b) = labM (k + 1) a ++ labM (k + (r :: itRows a).length) b
    rw [labM_app, List.length_cons, show k + 1 + (itRows a).length = k + ((itRows a).length + 1) by omega]
theorem lab_mem {l : List Nat} {n : Nat} : ∀ {u : List (List Nat × Nat)}, (u.map (·.1)).Nodup → (l, n) ∈ u → lab? u l = some n
  | [], _, h => nomatch h
  | x :: u, hn, h => by
    rw [List.map_cons, List.nodup_cons] at hn
    rcases List.mem_cons.mp h with rfl | h
    · simp [lab?]
    · have hne : ¬ x.1 = l := fun z => hn.1 (by rw [z]; exact List.mem_map.mpr ⟨(l, n), h, rfl⟩)
      have := lab_mem hn.2 h
      unfold lab? at this ⊢
      rw [List.find?_cons]
      simp only [hne, decide_false]
      exact this
theorem fin_raw {u : List (List Nat × Nat)} {g : List Nat} {r : Row} {m : Int} (hr : r.ok m) (h : r.jump = true → lab? u g = some r.goal.toNat) : finF u (rawOf g r) = some r := by
  cases r <;> simp only [Row.ok] at hr <;> simp only [rawOf, finF]
  case set r n => rw [Int.toNat_of_nonneg hr.1.1, Int.toNat_of_nonneg hr.2.1]
  case sum r s => rw [Int.toNat_of_nonneg hr.1.1, Int.toNat_of_nonneg hr.2.1]
  case less r s => rw [Int.toNat_of_nonneg hr.1.1, Int.toNat_of_nonneg hr.2.1]
  case tell r => rw [Int.toNat_of_nonneg hr.1]
  case go t => rw [h rfl]; simp only [Row.goal, Option.map_some]; rw [Int.toNat_of_nonneg hr.1]
  case nil r t => rw [h rfl]; simp only [Row.goal, Option.map_some]; rw [Int.toNat_of_nonneg hr.1.1, Int.toNat_of_nonneg hr.2.1]
end NP
end
section
namespace NP
open PySem L2 QL
structure Wr (rows : List Row) (P : List (List Nat × Int)) (n : Nat) (its : List It) : Prop where
  told : itRows its = rows.take n
  nd : ((labM 0 its).map (·.1)).Nodup
  lab : ∀ l k, (l, k) ∈ labM 0 its ↔ (l, (k : Int)) ∈ P ∧ k < n
  it : ∀ l, It.lab l ∈ its → ∃ k : Int, (l, k) ∈ P
  row : ∀ r g, It.row r g ∈ its → r ∈ rows ∧ (r.jump = true → (g, r.goal) ∈ P)
theorem labM_labs {k : Nat} : ∀ {H : List (List Nat)}, labM k (H.map It.lab) = H.map fun l => (l, k)
  | [] => rfl
  | l :: H => by
    show (l, k) :: labM k (H.map It.lab) = _
    rw [labM_labs]
    rfl
theorem itRows_labs : ∀ {H : List (List Nat)}, itRows (H.map It.lab) = []
  | [] => rfl
  | l :: H => itRows_labs (H := H)
theorem Wr.zero {rows : List Row} {P : List (List Nat × Int)} : Wr rows P 0 [] := ⟨by simp [itRows], List.nodup_nil, fun l k => by simp [labM], (fun _ h => nomatch h), (fun _ _ h => nomatch h)⟩
theorem labM_row {k : Nat} {o : Option Row} {g : List Nat} : labM k (match o with | some r => [It.row r g] | none => []) = [] := by cases o <;> rfl
theorem uq_pair {l : List Nat} {j k : Int} : ∀ {P : List (List Nat × Int)}, (P.map (·.1)).Nodup → (l, j) ∈ P → (l, k) ∈ P → j = k
  | [], _, h, _ => nomatch h
  | x :: P, hP, h1, h2 => by
    rw [List.map_cons, List.nodup_cons] at hP
    rcases List.mem_cons.mp h1 with e1 | h1
    · rcases List.mem_cons.mp h2 with e2 | h2
      · rw [← e1] at e2; exact (Prod.mk.inj e2).2.symm
      · exact absurd (List.mem_map.mpr ⟨(l, k), h2, by rw [← e1]⟩) hP.1
    · rcases List.mem_cons.mp h2 with e2 | h2
      · exact absurd (List.mem_map.mpr ⟨(l, j), h1, by rw [← e2]⟩) hP.1
      · exact uq_pair hP.2 h1 h2
theorem Wr.step {rows : List Row} {P : List (List Nat × Int)} {n : Nat} {its : List It} {H : List (List Nat)} {g : List Nat} (h : Wr rows P n its) (hn : n ≤ rows.length) (hP : (P.map (·.1)).Nodup) (hH : H.Nodup) (hm : ∀ l, l ∈ H ↔ (l, (n : Int)) ∈ P) (hg : ∀ r, rows[n]? = some r → r.jump = true → (g, r.goal) ∈ P) :
    Wr rows P (n + 1) (its ++ H.map It.lab ++ (match rows[n]? with | some r => [It.row r g] | none => [])) := by
  have hlen : (itRows its).length = n := by rw [h.told, List.length_take, Nat.min_eq_left hn]
  have hlab : labM 0 (its ++ H.map It.lab ++ (match rows[n]? with | some r => [It.row r g] | none => [])) = labM 0 its ++ H.map fun l => (l, n) := by
    rw [labM_app, labM_app, labM_labs, labM_row, List.append_nil, hlen, Nat.zero_add]
  have uq := fun l j k => uq_pair (l := l) (j := j) (k := k) hP
  refine ⟨?_, ?_, ?_, ?_, ?_⟩
  · rw [itRows_app, itRows_app, itRows_labs, List.append_nil, h.told, List.take_add_one]
    cases rows[n]? <;> rfl
  · rw [hlab, List.map_append, List.map_map]
    have e : H.map ((fun x : List Nat × Nat => x.1) ∘ fun l => (l, n)) = H := by
      conv => rhs; rw [← List.map_id H]
      rfl
    rw [e]
    refine List.nodup_append.mpr ⟨h.nd, hH, fun a ha b hb z => ?_⟩
    subst z
    obtain ⟨⟨l, k⟩, hk, rfl⟩ := List.mem_map.mp ha
    have h1 := (h.lab l k).mp hk
    have := uq l _ _ h1.1 ((hm l).mp hb)
    omega
  · intro l k
    rw [hlab, List.mem_append, h.lab]
    constructor
    · rintro (⟨h1, h2⟩ | h1)
      · exact ⟨h1, by omega⟩
      · obtain ⟨x, hx, e⟩ := List.mem_map.mp h1
        cases e
        exact ⟨(hm _).mp hx, by omega⟩
    · rintro ⟨h1, h2⟩
      by_cases hk : k = n
      · subst hk
        exact .inr (List.mem_map.mpr ⟨l, (hm l).mpr h1, rfl⟩)
      · exact .inl ⟨h1, by omega⟩
  · intro l hl
    rcases List.mem_append.mp hl with hl | hl
    · rcases List.mem_append.mp hl with hl | hl
      · exact h.it l hl
      · obtain ⟨x, hx, e⟩ := List.mem_map.mp hl
        cases e
        exact ⟨_, (hm _).mp hx⟩
    · cases e : rows[n]? with
      | none => rw [e] at hl; cases hl
      | some r => rw [e, List.mem_singleton] at hl; cases hl
  · intro r g' hl
    rcases List.mem_append.mp hl with hl | hl
    · rcases List.mem_append.mp hl with hl | hl
      · exact h.row r g' hl
      · obtain ⟨x, hx, e⟩ := List.mem_map.mp hl
        cases e
    · cases e : rows[n]? with
      | none => rw [e] at hl; cases hl
      | some r2 =>
        rw [e, List.mem_singleton] at hl
        cases hl
        exact ⟨List.mem_of_getElem? e, hg _ e⟩
theorem Wr.good {rows : List Row} {P : List (List Nat × Int)} {its : List It} (h : Wr rows P (rows.length + 1) its) (hr : ∀ r, r ∈ rows → r.ok rows.length) (hl : ∀ l k, (l, k) ∈ P → isLab l = true) : GoodI rows.length its ∧ itRows its = rows := by
  refine ⟨⟨fun l hx => ?_, h.nd, fun r g hx => ?_⟩, by rw [h.told, List.take_of_length_le (by omega)]⟩
  · obtain ⟨k, hk⟩ := h.it l hx
    exact hl l k hk
  · obtain ⟨h1, h2⟩ := h.row r g hx
    refine ⟨hr r h1, fun hj => hl _ _ (h2 hj), fin_raw (hr r h1) fun hj => lab_mem h.nd ?_⟩
    have hgo := goals_okT hr r.goal (List.mem_map.mpr ⟨r, List.mem_filter.mpr ⟨h1, hj⟩, rfl⟩)
    rw [h.lab, Int.toNat_of_nonneg hgo.1]
    exact ⟨h2 hj, by omega⟩
end NP
end
section
namespace NP
open PySem L2 QL
def b_moved : SM :=
  sRet (eIf (tV (eOp oIn (aCons (bE (eOp oIx (aCons (bV 0) (aCons (bE (eC (.int 0))) aNil)))) (aCons (bE (eC (.tup [(.str "go"), (.str "nil")]))) aNil)))) (eOp oAdd (aCons (bE (eOp (oSl false true) (aCons (bV 0) (aCons (bE (eOp oNeg (aCons (bE (eC (.int 1))) aNil))) aNil)))) (aCons (bE (eTup (aCons (bE (eOp oAdd (aCons (bE (eOp oIx (aCons (bV 0) (aCons (bE (eOp oNeg (aCons (bE (eC (.int 1))) aNil))) aNil)))) (aCons (bV 1) aNil)))) (aNil)))) aNil))) (eVar 0))
def f_moved : Fn := fnN 2 2 none b_moved
def b_joined : SM :=
  sRet (eOp oAdd (aCons (bE (eOp oList (aCons (bV 0) (aNil)))) (aCons (bE (eLc (iSeq (bV 1)) (gN 2) (cYes) (eCall none none f_moved (aCons (bV 2) (aCons (bE (eOp oLen (aCons (bV 0) (aNil)))) (aNil)))) [2])) aNil)))
def f_joined : Fn := fnN 2 3 none b_joined
def Row.mv (f : Int) : Row → Row
  | .go t => .go (t + f)
  | .nil r t => .nil r (t + f)
  | r => r
theorem Row.ok.mono' {r : Row} {a b : Int} (h : r.ok a) (hb : a ≤ b) : r.ok b := by
  cases r <;> simp only [Row.ok] at h ⊢ <;> omega
def join (xs ys : List Row) : List Row := xs ++ ys.map (Row.mv xs.length)
end NP
end
section
namespace NP
open PySem L2 QL
def b__law_many_rows : SM :=
  sSeq (sPar (aCons (bE (eCall (some 0) (some 0) f__law_rows (aCons (bIo 0) (aNil)))) (aCons (bE (eOp oEq (aCons (bE (eCall (some 0) (some 0) f__law_take (aCons (bIo 0) (aCons (bE (eC (.int 8))) (aNil))))) (aCons (bE (eC (.int 0))) aNil)))) (aNil))) 2 3)
    (sSeq (sAsg (eLc (iSeq (bE (eAl 2))) (gN 4) (tAndS (tV (eOp oEq (aCons (bE (eOp oIx (aCons (bV 4) (aCons (bE (eC (.int 0))) aNil)))) (aCons (bE (eC (.str "set"))) aNil)))) (tV (eOp oGt (aCons (bE (eOp oIx (aCons (bV 4) (aCons (bE (eC (.int 2))) aNil)))) (aCons (bE (eC (.int 99))) aNil))))) (eVar 4) [4]) (gN 1))
    (sRet (eIf (tAndS (tV (eVar 3)) (tAndS (tV (eOp oLt (aCons (bE (eOp oLen (aCons (bV 2) (aNil)))) (aCons (bE (eC (.int 61))) aNil)))) (tV (eOp oLt (aCons (bE (eOp oLen (aCons (bV 1) (aNil)))) (aCons (bE (eC (.int 31))) aNil)))))) (eCall none none f_joined (aCons (bV 2) (aCons (bV 2) (aNil)))) (eVar 2))))
def f__law_many_rows : Fn := fnN 1 5 (some 0) b__law_many_rows
end NP
end
section
namespace NP
open PySem L2 QL
def b__law_labels : SM :=
  sSeq (sAsg (eC (.str "abcdefghijklmnopqrstuvwxyz")) (gN 2))
    (sSeq (sAsg (eTup (aCons (bE (eCall (some 0) (some 0) f__law_take (aCons (bIo 0) (aCons (bE (eC (.int 2))) (aNil))))) (aCons (bE (eCall (some 0) (some 0) f__law_take (aCons (bIo 0) (aCons (bE (eC (.int 26))) (aNil))))) (aNil)))) (gT 2 (gsC (gN 6) (gsC (gN 7) (gsN)))))
    (sSeq (sIf (tAndS (tV (eOp oEq (aCons (bV 6) (aCons (bE (eC (.int 0))) aNil)))) (tV (eOp oLe (aCons (bV 1) (aCons (bE (eC (.int 26))) aNil))))) (sRet (eLc (iRng rng1 (aCons (bV 1) (aNil))) (gN 8) (cYes) (eOp oIx (aCons (bV 2) (aCons (bE (eOp oMod (aCons (bE (eOp oAdd (aCons (bV 7) (aCons (bE (eOp oMul (aCons (bE (eC (.int 11))) (aCons (bV 8) aNil)))) aNil)))) (aCons (bE (eC (.int 26))) aNil)))) aNil))) [8])) (sNil))
    (sSeq (sAsg (eOp oJoin (aCons (bS (bE (eC (.str "")))) (aCons (bE (eLc (iRng rng1 (aCons (bE (eCall (some 0) (some 0) f__law_take (aCons (bIo 0) (aCons (bE (eC (.int 7))) (aNil))))) (aNil))) (gN 10) (cYes) (eOp oIx (aCons (bV 2) (aCons (bE (eCall (some 0) (some 0) f__law_take (aCons (bIo 0) (aCons (bE (eC (.int 26))) (aNil))))) aNil))) [10])) aNil))) (gN 3))
    (sSeq (sAsg (eCall (some 0) (some 0) f__law_take (aCons (bIo 0) (aCons (bE (eOp oAdd (aCons (bE (eOp oLen (aCons (bV 3) (aNil)))) (aCons (bE (eC (.int 1))) aNil)))) (aNil)))) (gN 4))
    (sSeq (sAsg (eLc (iRng rng1 (aCons (bV 1) (aNil))) (gN 8) (cYes) (eOp oAdd (aCons (bE (eOp oIx (aCons (bV 2) (aCons (bE (eOp oMod (aCons (bE (eOp oAdd (aCons (bV 7) (aCons (bE (eOp oFdiv (aCons (bV 8) (aCons (bE (eC (.int 26))) aNil)))) aNil)))) (aCons (bE (eC (.int 26))) aNil)))) aNil)))) (aCons (bE (eOp oIx (aCons (bV 2) (aCons (bE (eOp oMod (aCons (bV 8) (aCons (bE (eC (.int 26))) aNil)))) aNil)))) aNil))) [8]) (gN 5))
    (sRet (eLc (iSeq (bE (eAl 5))) (gN 9) (cYes) (eOp oAdd (aCons (bE (eOp oAdd (aCons (bE (eOp (oSl false true) (aCons (bV 3) (aCons (bV 4) aNil)))) (aCons (bV 9) aNil)))) (aCons (bE (eOp (oSl true false) (aCons (bV 3) (aCons (bV 4) aNil)))) aNil))) [9])))))))
def f__law_labels : Fn := fnN 2 11 (some 0) b__law_labels
def b__law_any_labels : SM :=
  sSeq (sAsg (eIf (tV (eOp oEq (aCons (bE (eCall (some 0) (some 0) f__law_take (aCons (bIo 0) (aCons (bE (eC (.int 4))) (aNil))))) (aCons (bE (eC (.int 0))) aNil)))) (eStrL ["set", "stop", "a", "go", "nil", "e", "tell", "sum", "less"]) (eLst (aNil))) (gN 2))
    (sSeq (sAsg (eCall (some 0) (some 0) f__law_labels (aCons (bIo 0) (aCons (bE (eOp oAdd (aCons (bV 1) (aCons (bE (eOp oLen (aCons (bV 2) (aNil)))) aNil)))) (aNil)))) (gN 3))
    (sRet (eOp (oSl false true) (aCons (bE (eOp oAdd (aCons (bV 2) (aCons (bE (eLc (iSeq (bE (eAl 3))) (gN 4) (tV (eOp oNin (aCons (bV 4) (aCons (bV 2) aNil)))) (eVar 4) [4])) aNil)))) (aCons (bV 1) aNil)))))
def f__law_any_labels : Fn := fnN 2 5 (some 0) b__law_any_labels
def labsS (ls : List (List Nat)) : List T := ls.map fun l => .str (tx l)
theorem labsS_nob {ls : List (List Nat)} : T.nobl (labsS ls) = true := by simp [labsS, nobl_map, T.nob]
theorem labsS_nfz {ls : List (List Nat)} : T.nfzl (labsS ls) = true := by simp [labsS, nfzl_map, T.nfz]
theorem labsS_fz {ls : List (List Nat)} : T.fzl (labsS ls) = labsS ls := by unfold labsS; rw [fzl_map]; rfl
theorem labsS_ow {ls : List (List Nat)} : T.owl (labsS ls) = false := by simp [labsS, owl_map, T.ow]
theorem labsS_len {ls : List (List Nat)} : (labsS ls).length = ls.length := by simp [labsS]
theorem labsS_flat {ls : List (List Nat)} : (labsS ls).all T.flat = true := by simp [labsS, T.flat]
theorem labsS_map {ls : List (List Nat)} : labsS ls = ls.map fun l => .str (tx l) := rfl
theorem any_strs {l : List Nat} {ls : List (List Nat)} : ((labsS ls).any fun y => eqF y (.str (tx l))) = decide (l ∈ ls) := by
  rw [Bool.eq_iff_iff, List.any_eq_true, decide_eq_true_eq]
  unfold labsS
  constructor
  · rintro ⟨_, hy, e⟩
    obtain ⟨z, hz, rfl⟩ := List.mem_map.mp hy
    have e : (tx z == tx l) = true := e
    have := eq_of_beq e
    rw [tx_inj] at this
    exact this ▸ hz
  · intro h
    exact ⟨_, List.mem_map.mpr ⟨l, h, rfl⟩, beq_self_eq_true (tx l)⟩
theorem joinL_single : ∀ ss : List Nat, TL.joinL [] (ss.map fun c => [c]) = ss
  | [] => rfl
  | [c] => rfl
  | c :: d :: r => by
    have := joinL_single (d :: r)
    show [c] ++ ([] ++ TL.joinL [] ((d :: r).map fun c => [c])) = _
    rw [this]
    rfl
/-- the labels of letters -/
def labA (fi : Int) (k : Nat) : List Nat := [97 + ((fi + 11 * k) % 26).toNat]
def labB (ss : List Nat) (at' fi : Int) (k : Nat) : List Nat := ss.take at'.toNat ++ ([97 + ((fi + (k : Int) / 26) % 26).toNat, 97 + ((k : Int) % 26).toNat] ++ ss.drop at'.toNat)
theorem labA_nd {fi m : Int} (hm : m ≤ 26) : ((List.range m.toNat).map (labA fi)).Nodup := by
  unfold List.Nodup
  rw [List.pairwise_map]
  refine List.Pairwise.imp_of_mem (R := (· ≠ ·)) ?_ List.nodup_range
  intro a b ha hb hne he
  have ha := List.mem_range.mp ha
  have hb := List.mem_range.mp hb
  simp only [labA, List.cons.injEq, and_true] at he
  omega
theorem labB_nd {ss : List Nat} {at' fi m : Int} (hm : m ≤ 676) (hf : 0 ≤ fi ∧ fi < 26) : ((List.range m.toNat).map (labB ss at' fi)).Nodup := by
  unfold List.Nodup
  rw [List.pairwise_map]
  refine List.Pairwise.imp_of_mem (R := (· ≠ ·)) ?_ List.nodup_range
  intro a b ha hb hne he
  have ha := List.mem_range.mp ha
  have hb := List.mem_range.mp hb
  have he := List.append_cancel_left (show ss.take at'.toNat ++ _ = ss.take at'.toNat ++ _ from he)
  simp only [List.cons_append, List.nil_append, List.cons.injEq, and_true] at he
  omega
theorem labels_ok {n m : Int} {t : T} {Q : T × Option T → Prop} (h : Tp n t) (hn : n < 999900000) (hm : 0 ≤ m ∧ m ≤ 676) (q : ∀ (ls : List (List Nat)) u, ls.length = m.toNat → ls.Nodup → (∀ l, l ∈ ls → isLab l = true) → Tp (n + 20) u → Q (.lst true (labsS ls), some u)) : wp (f__law_labels [t, .int m]) Q := by
  unfold f__law_labels b__law_labels
  generalize hS : sSeq (sAsg (eOp oJoin _) _) _ = S2
  simp only [↓sA, sB, sC, if_true, if_false, forall_const, implies_true, forall_eq', false_imp_iff, oEq, oNe, eqT, oAdd, oNeg, oAbs, oMax2, oMin2, oInt, oLen, oIsN, oNotN, oIn, oNin, inT, eqF, oIsi, oIsi2, oList, oTuple, seqT, zp, enm, two, three, ioFind, ioCount, brOk, Bop.still, Bop.isI, T.ow, T.owl, T.nob, T.nobl, T.nfz, T.nfzl, T.fz, T.fzl, Bop.fit, Bop.res, Bop.bo, List.replicate, big, wipeE, reduceCtorEq, Nat.reduceAdd, Nat.reduceSub, Nat.reduceLT, Nat.reduceLeDiff, Int.reduceLT, Int.reduceLE, Int.reduceMul, Int.reducePow, Int.reduceToNat, Int.reduceAdd, Int.reduceSub, Int.reduceNeg, Int.reduceEq, Nat.reducePow, String.reduceEq, tx_len, tx_chars, tx_cps, tx_cut, w_bS, kBs_ap, isS_str, isS_br, w_ixS, kIxS_ap, s_letters, s_empty]
  refine take_ok (by assumption) (by omega) (by omega) ?_; intro way _ _ _ _
  simp only [↓sA, sB, sC, if_true, if_false, forall_const, implies_true, forall_eq', false_imp_iff, oEq, oNe, eqT, oAdd, oNeg, oAbs, oMax2, oMin2, oInt, oLen, oIsN, oNotN, oIn, oNin, inT, eqF, oIsi, oIsi2, oList, oTuple, seqT, zp, enm, two, three, ioFind, ioCount, brOk, Bop.still, Bop.isI, T.ow, T.owl, T.nob, T.nobl, T.nfz, T.nfzl, T.fz, T.fzl, Bop.fit, Bop.res, Bop.bo, List.replicate, big, wipeE, reduceCtorEq, Nat.reduceAdd, Nat.reduceSub, Nat.reduceLT, Nat.reduceLeDiff, Int.reduceLT, Int.reduceLE, Int.reduceMul, Int.reducePow, Int.reduceToNat, Int.reduceAdd, Int.reduceSub, Int.reduceNeg, Int.reduceEq, Nat.reducePow, String.reduceEq]
  refine take_ok (by assumption) (by omega) (by omega) ?_; intro fi u hf1 hf2 hu
  simp only [↓sA, sB, sC, if_true, if_false, forall_const, implies_true, forall_eq', false_imp_iff, oEq, oNe, eqT, oAdd, oNeg, oAbs, oMax2, oMin2, oInt, oLen, oIsN, oNotN, oIn, oNin, inT, eqF, oIsi, oIsi2, oList, oTuple, seqT, zp, enm, two, three, ioFind, ioCount, brOk, Bop.still, Bop.isI, T.ow, T.owl, T.nob, T.nobl, T.nfz, T.nfzl, T.fz, T.fzl, Bop.fit, Bop.res, Bop.bo, List.replicate, big, wipeE, reduceCtorEq, Nat.reduceAdd, Nat.reduceSub, Nat.reduceLT, Nat.reduceLeDiff, Int.reduceLT, Int.reduceLE, Int.reduceMul, Int.reducePow, Int.reduceToNat, Int.reduceAdd, Int.reduceSub, Int.reduceNeg, Int.reduceEq, Nat.reducePow, String.reduceEq, tx_len, tx_chars, tx_cps, tx_cut, w_bS, kBs_ap, isS_str, isS_br, w_ixS, kIxS_ap]
  have rest : wp (S2 [some u, some (T.int m), some (T.str (tx letters)), none, none, none, some (T.int way), some (T.int fi), none, none, none]) (kF1 0 Q) := by
    subst hS
    simp only [↓sA, sB, sC, if_true, if_false, forall_const, implies_true, forall_eq', false_imp_iff, oEq, oNe, eqT, oAdd, oNeg, oAbs, oMax2, oMin2, oInt, oLen, oIsN, oNotN, oIn, oNin, inT, eqF, oIsi, oIsi2, oList, oTuple, seqT, zp, enm, two, three, ioFind, ioCount, brOk, Bop.still, Bop.isI, T.ow, T.owl, T.nob, T.nobl, T.nfz, T.nfzl, T.fz, T.fzl, Bop.fit, Bop.res, Bop.bo, List.replicate, big, wipeE, reduceCtorEq, Nat.reduceAdd, Nat.reduceSub, Nat.reduceLT, Nat.reduceLeDiff, Int.reduceLT, Int.reduceLE, Int.reduceMul, Int.reducePow, Int.reduceToNat, Int.reduceAdd, Int.reduceSub, Int.reduceNeg, Int.reduceEq, Nat.reducePow, String.reduceEq, tx_len, tx_chars, tx_cps, tx_cut, w_bS, kBs_ap, isS_str, isS_br, w_ixS, kIxS_ap, s_empty]
    refine take_ok (by assumption) (by omega) (by omega) ?_; intro sl u2 hs1 hs2 hu2
    simp only [↓sA, sB, sC, if_true, if_false, forall_const, implies_true, forall_eq', false_imp_iff, oEq, oNe, eqT, oAdd, oNeg, oAbs, oMax2, oMin2, oInt, oLen, oIsN, oNotN, oIn, oNin, inT, eqF, oIsi, oIsi2, oList, oTuple, seqT, zp, enm, two, three, ioFind, ioCount, brOk, Bop.still, Bop.isI, T.ow, T.owl, T.nob, T.nobl, T.nfz, T.nfzl, T.fz, T.fzl, Bop.fit, Bop.res, Bop.bo, List.replicate, big, wipeE, reduceCtorEq, Nat.reduceAdd, Nat.reduceSub, Nat.reduceLT, Nat.reduceLeDiff, Int.reduceLT, Int.reduceLE, Int.reduceMul, Int.reducePow, Int.reduceToNat, Int.reduceAdd, Int.reduceSub, Int.reduceNeg, Int.reduceEq, Nat.reducePow, String.reduceEq, tx_len, tx_chars, tx_cps, tx_cut, w_bS, kBs_ap, isS_str, isS_br, w_ixS, kIxS_ap]
    refine ⟨by omega, by omega, lc_inv (fun d r a e => ∃ (ss : List Nat) (v : T), a = ss.map (fun c => T.str (tx [c])) ∧ ss.length = d.length ∧ (∀ c, c ∈ ss → 97 ≤ c ∧ c ≤ 122) ∧ Tp (n + 3 + d.length) v ∧ e = [some v, some (T.int m), some (T.str (tx letters)), none, none, none, some (T.int way), some (T.int fi), none, none, none]) ?_ ?_ ?_⟩
    · exact ⟨[], u2, rfl, rfl, (fun _ z => nomatch z), hu2.mono (by simp; omega), rfl⟩
    · rintro d x r a _ hd ⟨ss, v, rfl, hsl, hsc, hv, rfl⟩
      have hdl : d.length < 7 := by
        have := congrArg List.length hd
        simp at this
        omega
      simp only [↓sA, sB, sC, if_true, if_false, forall_const, implies_true, forall_eq', false_imp_iff, oEq, oNe, eqT, oAdd, oNeg, oAbs, oMax2, oMin2, oInt, oLen, oIsN, oNotN, oIn, oNin, inT, eqF, oIsi, oIsi2, oList, oTuple, seqT, zp, enm, two, three, ioFind, ioCount, brOk, Bop.still, Bop.isI, T.ow, T.owl, T.nob, T.nobl, T.nfz, T.nfzl, T.fz, T.fzl, Bop.fit, Bop.res, Bop.bo, List.replicate, big, wipeE, reduceCtorEq, Nat.reduceAdd, Nat.reduceSub, Nat.reduceLT, Nat.reduceLeDiff, Int.reduceLT, Int.reduceLE, Int.reduceMul, Int.reducePow, Int.reduceToNat, Int.reduceAdd, Int.reduceSub, Int.reduceNeg, Int.reduceEq, Nat.reducePow, String.reduceEq, tx_len, tx_chars, tx_cps, tx_cut, w_bS, kBs_ap, isS_str, isS_br, w_ixS, kIxS_ap]
      refine take_ok hv (by omega) (by omega) ?_; intro c v2 hc1 hc2 hv2
      simp only [↓sA, sB, sC, if_true, if_false, forall_const, implies_true, forall_eq', false_imp_iff, oEq, oNe, eqT, oAdd, oNeg, oAbs, oMax2, oMin2, oInt, oLen, oIsN, oNotN, oIn, oNin, inT, eqF, oIsi, oIsi2, oList, oTuple, seqT, zp, enm, two, three, ioFind, ioCount, brOk, Bop.still, Bop.isI, T.ow, T.owl, T.nob, T.nobl, T.nfz, T.nfzl, T.fz, T.fzl, Bop.fit, Bop.res, Bop.bo, List.replicate, big, wipeE, reduceCtorEq, Nat.reduceAdd, Nat.reduceSub, Nat.reduceLT, Nat.reduceLeDiff, Int.reduceLT, Int.reduceLE, Int.reduceMul, Int.reducePow, Int.reduceToNat, Int.reduceAdd, Int.reduceSub, Int.reduceNeg, Int.reduceEq, Nat.reducePow, String.reduceEq, tx_len, tx_chars, tx_cps, tx_cut, w_bS, kBs_ap, isS_str, isS_br, w_ixS, kIxS_ap, let_atI ⟨hc1, hc2⟩, Option.toList_some]
      refine ⟨ss ++ [97 + c.toNat], v2, by simp, by simp [hsl], fun x hx => ?_, hv2.mono (by simp; omega), rfl⟩
      rcases List.mem_append.mp hx with hx | hx
      · exact hsc x hx
      · rw [List.mem_singleton.mp hx]; omega
    · rintro _ _ ⟨ss, v, rfl, hsl, hsc, hv, rfl⟩
      have hsl7 : ss.length < 7 := by simp at hsl; omega
      have e1 : ss.map (fun c => T.str (tx [c])) = ((ss.map fun c => [c]).map tx).map T.str := by rw [List.map_map, List.map_map]; rfl
      rw [e1]
      simp only [↓sA, sB, sC, if_true, if_false, forall_const, implies_true, forall_eq', false_imp_iff, oEq, oNe, eqT, oAdd, oNeg, oAbs, oMax2, oMin2, oInt, oLen, oIsN, oNotN, oIn, oNin, inT, eqF, oIsi, oIsi2, oList, oTuple, seqT, zp, enm, two, three, ioFind, ioCount, brOk, Bop.still, Bop.isI, T.ow, T.owl, T.nob, T.nobl, T.nfz, T.nfzl, T.fz, T.fzl, Bop.fit, Bop.res, Bop.bo, List.replicate, big, wipeE, reduceCtorEq, Nat.reduceAdd, Nat.reduceSub, Nat.reduceLT, Nat.reduceLeDiff, Int.reduceLT, Int.reduceLE, Int.reduceMul, Int.reducePow, Int.reduceToNat, Int.reduceAdd, Int.reduceSub, Int.reduceNeg, Int.reduceEq, Nat.reducePow, String.reduceEq, tx_len, tx_chars, tx_cps, tx_cut, w_bS, kBs_ap, isS_str, isS_br, w_ixS, kIxS_ap, s_empty]
      rw [w_join, tx_join, joinL_single]
      refine ⟨?_, ?_⟩
      · have := sum_le (k := 1) (ls := ((ss.map fun c => [c]).map tx).map (·.length)) fun x hx => by
          obtain ⟨y, hy, rfl⟩ := List.mem_map.mp hx
          obtain ⟨z, hz, rfl⟩ := List.mem_map.mp hy
          obtain ⟨c, hc, rfl⟩ := List.mem_map.mp hz
          simp [tx_len]
        simp [tx_len] at this ⊢
        omega
      simp only [↓sA, sB, sC, if_true, if_false, forall_const, implies_true, forall_eq', false_imp_iff, oEq, oNe, eqT, oAdd, oNeg, oAbs, oMax2, oMin2, oInt, oLen, oIsN, oNotN, oIn, oNin, inT, eqF, oIsi, oIsi2, oList, oTuple, seqT, zp, enm, two, three, ioFind, ioCount, brOk, Bop.still, Bop.isI, T.ow, T.owl, T.nob, T.nobl, T.nfz, T.nfzl, T.fz, T.fzl, Bop.fit, Bop.res, Bop.bo, List.replicate, big, wipeE, reduceCtorEq, Nat.reduceAdd, Nat.reduceSub, Nat.reduceLT, Nat.reduceLeDiff, Int.reduceLT, Int.reduceLE, Int.reduceMul, Int.reducePow, Int.reduceToNat, Int.reduceAdd, Int.reduceSub, Int.reduceNeg, Int.reduceEq, Nat.reducePow, String.reduceEq, tx_len, tx_chars, tx_cps, tx_cut, w_bS, kBs_ap, isS_str, isS_br, w_ixS, kIxS_ap]
      refine ⟨by omega, take_ok hv (by simp at hsl ⊢; omega) (by omega) ?_⟩; intro at' w ha1 ha2 hw
      simp only [↓sA, sB, sC, if_true, if_false, forall_const, implies_true, forall_eq', false_imp_iff, oEq, oNe, eqT, oAdd, oNeg, oAbs, oMax2, oMin2, oInt, oLen, oIsN, oNotN, oIn, oNin, inT, eqF, oIsi, oIsi2, oList, oTuple, seqT, zp, enm, two, three, ioFind, ioCount, brOk, Bop.still, Bop.isI, T.ow, T.owl, T.nob, T.nobl, T.nfz, T.nfzl, T.fz, T.fzl, Bop.fit, Bop.res, Bop.bo, List.replicate, big, wipeE, reduceCtorEq, Nat.reduceAdd, Nat.reduceSub, Nat.reduceLT, Nat.reduceLeDiff, Int.reduceLT, Int.reduceLE, Int.reduceMul, Int.reducePow, Int.reduceToNat, Int.reduceAdd, Int.reduceSub, Int.reduceNeg, Int.reduceEq, Nat.reducePow, String.reduceEq, tx_len, tx_chars, tx_cps, tx_cut, w_bS, kBs_ap, isS_str, isS_br, w_ixS, kIxS_ap]
      refine ⟨by omega, by omega, lc_map (h := fun k : Nat => T.str (tx [97 + ((fi + (k : Int) / 26) % 26).toNat, 97 + ((k : Int) % 26).toNat])) (fun k hk Q' q' => ?_) ?_⟩
      · simp only [↓sA, sB, sC, if_true, if_false, forall_const, implies_true, forall_eq', false_imp_iff, oEq, oNe, eqT, oAdd, oNeg, oAbs, oMax2, oMin2, oInt, oLen, oIsN, oNotN, oIn, oNin, inT, eqF, oIsi, oIsi2, oList, oTuple, seqT, zp, enm, two, three, ioFind, ioCount, brOk, Bop.still, Bop.isI, T.ow, T.owl, T.nob, T.nobl, T.nfz, T.nfzl, T.fz, T.fzl, Bop.fit, Bop.res, Bop.bo, List.replicate, big, wipeE, reduceCtorEq, Nat.reduceAdd, Nat.reduceSub, Nat.reduceLT, Nat.reduceLeDiff, Int.reduceLT, Int.reduceLE, Int.reduceMul, Int.reducePow, Int.reduceToNat, Int.reduceAdd, Int.reduceSub, Int.reduceNeg, Int.reduceEq, Nat.reducePow, String.reduceEq, tx_len, tx_chars, tx_cps, tx_cut, w_bS, kBs_ap, isS_str, isS_br, w_ixS, kIxS_ap, tx_app, let_atI (show 0 ≤ (fi + (k : Int) / 26) % 26 ∧ (fi + (k : Int) / 26) % 26 < 26 by omega), let_atI (show 0 ≤ (k : Int) % 26 ∧ (k : Int) % 26 < 26 by omega)]
        exact q'
      simp only [↓sA, sB, sC, if_true, if_false, forall_const, implies_true, forall_eq', false_imp_iff, oEq, oNe, eqT, oAdd, oNeg, oAbs, oMax2, oMin2, oInt, oLen, oIsN, oNotN, oIn, oNin, inT, eqF, oIsi, oIsi2, oList, oTuple, seqT, zp, enm, two, three, ioFind, ioCount, brOk, Bop.still, Bop.isI, T.ow, T.owl, T.nob, T.nobl, T.nfz, T.nfzl, T.fz, T.fzl, Bop.fit, Bop.res, Bop.bo, List.replicate, big, wipeE, reduceCtorEq, Nat.reduceAdd, Nat.reduceSub, Nat.reduceLT, Nat.reduceLeDiff, Int.reduceLT, Int.reduceLE, Int.reduceMul, Int.reducePow, Int.reduceToNat, Int.reduceAdd, Int.reduceSub, Int.reduceNeg, Int.reduceEq, Nat.reducePow, String.reduceEq, tx_len, tx_chars, tx_cps, tx_cut, w_bS, kBs_ap, isS_str, isS_br, w_ixS, kIxS_ap]
      refine ⟨by omega, lc_map (h := fun k : Nat => T.str (tx (labB ss at' fi k))) (fun k hk Q' q' => ?_) ?_⟩
      · simp only [↓sA, sB, sC, if_true, if_false, forall_const, implies_true, forall_eq', false_imp_iff, oEq, oNe, eqT, oAdd, oNeg, oAbs, oMax2, oMin2, oInt, oLen, oIsN, oNotN, oIn, oNin, inT, eqF, oIsi, oIsi2, oList, oTuple, seqT, zp, enm, two, three, ioFind, ioCount, brOk, Bop.still, Bop.isI, T.ow, T.owl, T.nob, T.nobl, T.nfz, T.nfzl, T.fz, T.fzl, Bop.fit, Bop.res, Bop.bo, List.replicate, big, wipeE, reduceCtorEq, Nat.reduceAdd, Nat.reduceSub, Nat.reduceLT, Nat.reduceLeDiff, Int.reduceLT, Int.reduceLE, Int.reduceMul, Int.reducePow, Int.reduceToNat, Int.reduceAdd, Int.reduceSub, Int.reduceNeg, Int.reduceEq, Nat.reducePow, String.reduceEq, tx_len, tx_chars, tx_cps, tx_cut, w_bS, kBs_ap, isS_str, isS_br, w_ixS, kIxS_ap, tx_app, cut_to ha1, cut_from ha1]
        unfold labB at q'
        rw [← List.append_assoc] at q'
        have h1 := List.length_take (i := at'.toNat) (l := ss)
        have h2 := List.length_drop (i := at'.toNat) (l := ss)
        exact ⟨by omega, by omega, by omega, by omega, q'⟩
      simp only [↓sA, sB, sC, if_true, if_false, forall_const, implies_true, forall_eq', false_imp_iff, oEq, oNe, eqT, oAdd, oNeg, oAbs, oMax2, oMin2, oInt, oLen, oIsN, oNotN, oIn, oNin, inT, eqF, oIsi, oIsi2, oList, oTuple, seqT, zp, enm, two, three, ioFind, ioCount, brOk, Bop.still, Bop.isI, T.ow, T.owl, T.nob, T.nobl, T.nfz, T.nfzl, T.fz, T.fzl, Bop.fit, Bop.res, Bop.bo, List.replicate, big, wipeE, reduceCtorEq, Nat.reduceAdd, Nat.reduceSub, Nat.reduceLT, Nat.reduceLeDiff, Int.reduceLT, Int.reduceLE, Int.reduceMul, Int.reducePow, Int.reduceToNat, Int.reduceAdd, Int.reduceSub, Int.reduceNeg, Int.reduceEq, Nat.reducePow, String.reduceEq]
      have e : (List.range m.toNat).map (fun k : Nat => T.str (tx (labB ss at' fi k))) = labsS ((List.range m.toNat).map (labB ss at' fi)) := by unfold labsS; rw [List.map_map]; rfl
      rw [e]
      refine q _ _ (by simp) (labB_nd hm.2 ⟨hf1, hf2⟩) (fun l hl => ?_) (hw.mono (by simp at hsl ⊢; omega))
      obtain ⟨k, hk, rfl⟩ := List.mem_map.mp hl
      have hk := List.mem_range.mp hk
      refine isLab_of ?_ fun c hc => ?_
      · simp [labB]; omega
      · unfold labB at hc
        rcases List.mem_append.mp hc with hc | hc
        · exact hsc c (List.mem_of_mem_take hc)
        · rcases List.mem_append.mp hc with hc | hc
          · simp only [List.mem_cons, List.not_mem_nil, or_false] at hc
            rcases hc with rfl | rfl <;> omega
          · exact hsc c (List.mem_of_mem_drop hc)
  split
  · split
    · refine ⟨by omega, by omega, lc_map (h := fun k : Nat => T.str (tx (labA fi k))) (fun k hk Q' q' => ?_) ?_⟩
      · simp only [↓sA, sB, sC, if_true, if_false, forall_const, implies_true, forall_eq', false_imp_iff, oEq, oNe, eqT, oAdd, oNeg, oAbs, oMax2, oMin2, oInt, oLen, oIsN, oNotN, oIn, oNin, inT, eqF, oIsi, oIsi2, oList, oTuple, seqT, zp, enm, two, three, ioFind, ioCount, brOk, Bop.still, Bop.isI, T.ow, T.owl, T.nob, T.nobl, T.nfz, T.nfzl, T.fz, T.fzl, Bop.fit, Bop.res, Bop.bo, List.replicate, big, wipeE, reduceCtorEq, Nat.reduceAdd, Nat.reduceSub, Nat.reduceLT, Nat.reduceLeDiff, Int.reduceLT, Int.reduceLE, Int.reduceMul, Int.reducePow, Int.reduceToNat, Int.reduceAdd, Int.reduceSub, Int.reduceNeg, Int.reduceEq, Nat.reducePow, String.reduceEq, tx_len, tx_chars, tx_cps, tx_cut, w_bS, kBs_ap, isS_str, isS_br, w_ixS, kIxS_ap, let_atI (show 0 ≤ (fi + 11 * (k : Int)) % 26 ∧ (fi + 11 * (k : Int)) % 26 < 26 by omega)]
        exact q'
      simp only [↓sA, sB, sC, if_true, if_false, forall_const, implies_true, forall_eq', false_imp_iff, oEq, oNe, eqT, oAdd, oNeg, oAbs, oMax2, oMin2, oInt, oLen, oIsN, oNotN, oIn, oNin, inT, eqF, oIsi, oIsi2, oList, oTuple, seqT, zp, enm, two, three, ioFind, ioCount, brOk, Bop.still, Bop.isI, T.ow, T.owl, T.nob, T.nobl, T.nfz, T.nfzl, T.fz, T.fzl, Bop.fit, Bop.res, Bop.bo, List.replicate, big, wipeE, reduceCtorEq, Nat.reduceAdd, Nat.reduceSub, Nat.reduceLT, Nat.reduceLeDiff, Int.reduceLT, Int.reduceLE, Int.reduceMul, Int.reducePow, Int.reduceToNat, Int.reduceAdd, Int.reduceSub, Int.reduceNeg, Int.reduceEq, Nat.reducePow, String.reduceEq]
      have e : (List.range m.toNat).map (fun k : Nat => T.str (tx (labA fi k))) = labsS ((List.range m.toNat).map (labA fi)) := by unfold labsS; rw [List.map_map]; rfl
      rw [e]
      refine q _ _ (by simp) (labA_nd (by assumption)) (fun l hl => ?_) (hu.mono (by omega))
      obtain ⟨k, hk, rfl⟩ := List.mem_map.mp hl
      refine isLab_of (by simp [labA]) fun c hc => ?_
      simp only [labA, List.mem_cons, List.not_mem_nil, or_false] at hc
      subst hc
      omega
    · exact rest
  · exact rest
theorem len_split {α : Type} {p : α → Bool} : ∀ {l : List α}, l.length = (l.filter p).length + (l.filter fun x => !p x).length
  | [] => rfl
  | x :: l => by
    have ih := len_split (p := p) (l := l)
    rw [List.filter_cons, List.filter_cons]
    cases p x <;> simp <;> omega
theorem nd_few : ∀ {l w : List (List Nat)}, l.Nodup → (∀ x, x ∈ l → x ∈ w) → l.length ≤ w.length
  | [], _, _, _ => Nat.zero_le _
  | x :: l, w, hn, h => by
    rw [List.nodup_cons] at hn
    have hx := h x List.mem_cons_self
    have ih := nd_few (l := l) (w := w.erase x) hn.2 fun y hy => by
      have hne : y ≠ x := fun z => hn.1 (z ▸ hy)
      exact (List.mem_erase_of_ne hne).mpr (h y (List.mem_cons_of_mem _ hy))
    rw [List.length_erase_of_mem hx] at ih
    have := List.length_pos_of_mem hx
    rw [List.length_cons]
    omega
def ownW : List (List Nat) := [[115, 101, 116], [115, 116, 111, 112], [97], [103, 111], [110, 105, 108], [101], [116, 101, 108, 108], [115, 117, 109], [108, 101, 115, 115]]
theorem anylabels_ok {n m : Int} {t : T} {Q : T × Option T → Prop} (h : Tp n t) (hn : n < 999800000) (hm : 0 ≤ m ∧ m ≤ 600) (q : ∀ (ls : List (List Nat)) u, ls.length = m.toNat → ls.Nodup → (∀ l, l ∈ ls → isLab l = true) → Tp (n + 30) u → Q (.lst true (labsS ls), some u)) : wp (f__law_any_labels [t, .int m]) Q := by
  unfold f__law_any_labels b__law_any_labels
  generalize hS : sSeq (sAsg (eCall _ _ f__law_labels _) _) _ = S2
  simp only [↓sA, sB, sC, if_true, if_false, forall_const, implies_true, forall_eq', false_imp_iff, oEq, oNe, eqT, oAdd, oNeg, oAbs, oMax2, oMin2, oInt, oLen, oIsN, oNotN, oIn, oNin, inT, eqF, oIsi, oIsi2, oList, oTuple, seqT, zp, enm, two, three, ioFind, ioCount, brOk, Bop.still, Bop.isI, T.ow, T.owl, T.nob, T.nobl, T.nfz, T.nfzl, T.fz, T.fzl, Bop.fit, Bop.res, Bop.bo, List.replicate, big, wipeE, reduceCtorEq, Nat.reduceAdd, Nat.reduceSub, Nat.reduceLT, Nat.reduceLeDiff, Int.reduceLT, Int.reduceLE, Int.reduceMul, Int.reducePow, Int.reduceToNat, Int.reduceAdd, Int.reduceSub, Int.reduceNeg, Int.reduceEq, Nat.reducePow, String.reduceEq, tx_len, tx_chars, tx_cps, tx_cut, w_bS, kBs_ap, isS_str, isS_br, w_ixS, kIxS_ap]
  refine take_ok (by assumption) (by omega) (by omega) ?_; intro way u _ _ hu
  simp only [↓sA, sB, sC, if_true, if_false, forall_const, implies_true, forall_eq', false_imp_iff, oEq, oNe, eqT, oAdd, oNeg, oAbs, oMax2, oMin2, oInt, oLen, oIsN, oNotN, oIn, oNin, inT, eqF, oIsi, oIsi2, oList, oTuple, seqT, zp, enm, two, three, ioFind, ioCount, brOk, Bop.still, Bop.isI, T.ow, T.owl, T.nob, T.nobl, T.nfz, T.nfzl, T.fz, T.fzl, Bop.fit, Bop.res, Bop.bo, List.replicate, big, wipeE, reduceCtorEq, Nat.reduceAdd, Nat.reduceSub, Nat.reduceLT, Nat.reduceLeDiff, Int.reduceLT, Int.reduceLE, Int.reduceMul, Int.reducePow, Int.reduceToNat, Int.reduceAdd, Int.reduceSub, Int.reduceNeg, Int.reduceEq, Nat.reducePow, String.reduceEq, tx_len, tx_chars, tx_cps, tx_cut, w_bS, kBs_ap, isS_str, isS_br, w_ixS, kIxS_ap]
  have rest : ∀ ws : List (List Nat), ws.length ≤ 9 → ws.Nodup → (∀ l, l ∈ ws → isLab l = true) → wp (S2 [some u, some (T.int m), some (T.lst true (labsS ws)), none, none]) (kF1 0 Q) := fun ws hw hwn hwl => by
    subst hS
    have hany : ∀ (l : List Nat) (ls : List (List Nat)), ((labsS ls).any fun y => eqF y (.str (tx l))) = decide (l ∈ ls) := fun _ _ => any_strs
    simp only [eqF] at hany
    simp only [↓sA, sB, sC, if_true, if_false, forall_const, implies_true, forall_eq', false_imp_iff, oEq, oNe, eqT, oAdd, oNeg, oAbs, oMax2, oMin2, oInt, oLen, oIsN, oNotN, oIn, oNin, inT, eqF, oIsi, oIsi2, oList, oTuple, seqT, zp, enm, two, three, ioFind, ioCount, brOk, Bop.still, Bop.isI, T.ow, T.owl, T.nob, T.nobl, T.nfz, T.nfzl, T.fz, T.fzl, Bop.fit, Bop.res, Bop.bo, List.replicate, big, wipeE, reduceCtorEq, Nat.reduceAdd, Nat.reduceSub, Nat.reduceLT, Nat.reduceLeDiff, Int.reduceLT, Int.reduceLE, Int.reduceMul, Int.reducePow, Int.reduceToNat, Int.reduceAdd, Int.reduceSub, Int.reduceNeg, Int.reduceEq, Nat.reducePow, String.reduceEq, tx_len, tx_chars, tx_cps, tx_cut, w_bS, kBs_ap, isS_str, isS_br, w_ixS, kIxS_ap, labsS_nob, labsS_fz, labsS_ow, labsS_len]
    refine labels_ok hu (by omega) (by omega) fun ls v hl hnd hlab hv => ?_
    simp only [↓sA, sB, sC, if_true, if_false, forall_const, implies_true, forall_eq', false_imp_iff, oEq, oNe, eqT, oAdd, oNeg, oAbs, oMax2, oMin2, oInt, oLen, oIsN, oNotN, oIn, oNin, inT, eqF, oIsi, oIsi2, oList, oTuple, seqT, zp, enm, two, three, ioFind, ioCount, brOk, Bop.still, Bop.isI, T.ow, T.owl, T.nob, T.nobl, T.nfz, T.nfzl, T.fz, T.fzl, Bop.fit, Bop.res, Bop.bo, List.replicate, big, wipeE, reduceCtorEq, Nat.reduceAdd, Nat.reduceSub, Nat.reduceLT, Nat.reduceLeDiff, Int.reduceLT, Int.reduceLE, Int.reduceMul, Int.reducePow, Int.reduceToNat, Int.reduceAdd, Int.reduceSub, Int.reduceNeg, Int.reduceEq, Nat.reducePow, String.reduceEq, tx_len, tx_chars, tx_cps, tx_cut, w_bS, kBs_ap, isS_str, isS_br, w_ixS, kIxS_ap, labsS_nob, labsS_fz, labsS_ow, labsS_len]
    rw [labsS_map (ls := ls)]
    refine ⟨by omega, lc_filter (p := fun l => decide (l ∉ ws)) (h := fun l => T.str (tx l)) (fun l hl Q' q' => ?_) ?_⟩
    · simp only [↓sA, sB, sC, if_true, if_false, forall_const, implies_true, forall_eq', false_imp_iff, oEq, oNe, eqT, oAdd, oNeg, oAbs, oMax2, oMin2, oInt, oLen, oIsN, oNotN, oIn, oNin, inT, eqF, oIsi, oIsi2, oList, oTuple, seqT, zp, enm, two, three, ioFind, ioCount, brOk, Bop.still, Bop.isI, T.ow, T.owl, T.nob, T.nobl, T.nfz, T.nfzl, T.fz, T.fzl, Bop.fit, Bop.res, Bop.bo, List.replicate, big, wipeE, reduceCtorEq, Nat.reduceAdd, Nat.reduceSub, Nat.reduceLT, Nat.reduceLeDiff, Int.reduceLT, Int.reduceLE, Int.reduceMul, Int.reducePow, Int.reduceToNat, Int.reduceAdd, Int.reduceSub, Int.reduceNeg, Int.reduceEq, Nat.reducePow, String.reduceEq, tx_len, tx_chars, tx_cps, tx_cut, w_bS, kBs_ap, isS_str, isS_br, w_ixS, kIxS_ap, labsS_nob, labsS_fz, labsS_ow, labsS_len, labsS_flat, hany, labsS_nfz]
      exact iteP q'
    rw [← labsS_map, ← labsS_map]
    simp only [↓sA, sB, sC, if_true, if_false, forall_const, implies_true, forall_eq', false_imp_iff, oEq, oNe, eqT, oAdd, oNeg, oAbs, oMax2, oMin2, oInt, oLen, oIsN, oNotN, oIn, oNin, inT, eqF, oIsi, oIsi2, oList, oTuple, seqT, zp, enm, two, three, ioFind, ioCount, brOk, Bop.still, Bop.isI, T.ow, T.owl, T.nob, T.nobl, T.nfz, T.nfzl, T.fz, T.fzl, Bop.fit, Bop.res, Bop.bo, List.replicate, big, wipeE, reduceCtorEq, Nat.reduceAdd, Nat.reduceSub, Nat.reduceLT, Nat.reduceLeDiff, Int.reduceLT, Int.reduceLE, Int.reduceMul, Int.reducePow, Int.reduceToNat, Int.reduceAdd, Int.reduceSub, Int.reduceNeg, Int.reduceEq, Nat.reducePow, String.reduceEq, tx_len, tx_chars, tx_cps, tx_cut, w_bS, kBs_ap, isS_str, isS_br, w_ixS, kIxS_ap, labsS_nob, labsS_fz, labsS_ow, labsS_len]
    have ec : labsS ws ++ labsS (ls.filter fun l => decide (¬l ∈ ws)) = (ws ++ ls.filter fun l => decide (¬l ∈ ws)).map fun l => T.str (tx l) := by rw [List.map_append]; rfl
    rw [ec, cut_map, cut_to hm.1]
    have hf : ls.length ≤ (ls.filter fun l => decide (¬l ∈ ws)).length + ws.length := by
      have h1 : ls.length = (ls.filter fun l => decide (¬l ∈ ws)).length + (ls.filter fun l => !decide (¬l ∈ ws)).length := len_split
      have h2 : (ls.filter fun l => !decide (¬l ∈ ws)).length ≤ ws.length := nd_few (hnd.filter _) fun x hx => by
        have := (List.mem_filter.mp hx).2
        simpa using this
      omega
    have hfl : (ls.filter fun l => decide (¬l ∈ ws)).length ≤ ls.length := List.length_filter_le _ _
    refine ⟨by omega, ⟨labsS_nfz, labsS_nfz⟩, q ((ws ++ ls.filter fun l => decide (¬l ∈ ws)).take m.toNat) v ?_ ?_ (fun l hl => ?_) (hv.mono (by omega))⟩
    · rw [List.length_take, List.length_append]
      omega
    · refine List.Nodup.sublist (List.take_sublist _ _) (List.nodup_append.mpr ⟨hwn, hnd.filter _, fun a ha b hb z => ?_⟩)
      subst z
      have := (List.mem_filter.mp hb).2
      simp at this
      exact this ha
    · rcases List.mem_append.mp (List.mem_of_mem_take hl) with hl | hl
      · exact hwl l hl
      · exact hlab l (List.mem_filter.mp hl).1
  split
  · simp only [↓sA, sB, sC, if_true, if_false, forall_const, implies_true, forall_eq', false_imp_iff, oEq, oNe, eqT, oAdd, oNeg, oAbs, oMax2, oMin2, oInt, oLen, oIsN, oNotN, oIn, oNin, inT, eqF, oIsi, oIsi2, oList, oTuple, seqT, zp, enm, two, three, ioFind, ioCount, brOk, Bop.still, Bop.isI, T.ow, T.owl, T.nob, T.nobl, T.nfz, T.nfzl, T.fz, T.fzl, Bop.fit, Bop.res, Bop.bo, List.replicate, big, wipeE, reduceCtorEq, Nat.reduceAdd, Nat.reduceSub, Nat.reduceLT, Nat.reduceLeDiff, Int.reduceLT, Int.reduceLE, Int.reduceMul, Int.reducePow, Int.reduceToNat, Int.reduceAdd, Int.reduceSub, Int.reduceNeg, Int.reduceEq, Nat.reducePow, String.reduceEq, w_eStrL, kSpV_ap, spVK_some]
    have e : ([Str.ofString "set", Str.ofString "stop", Str.ofString "a", Str.ofString "go", Str.ofString "nil", Str.ofString "e", Str.ofString "tell", Str.ofString "sum", Str.ofString "less"] : List Str).map T.str = labsS ownW := by
      simp only [tx_str]
      rfl
    rw [e]
    exact rest ownW (by decide) (by decide) (by decide)
  · exact rest [] (by decide) (by decide) (fun _ h => nomatch h)
end NP
end
section
namespace NP
open PySem L2 QL
def b__law_words : SM :=
  sSeq (sAsg (eLst (aCons (bE (eOp oIx (aCons (bV 0) (aCons (bE (eC (.int 0))) aNil)))) (aNil))) (gN 2))
    (sSeq (sIf (tAndS (tV (eOp oNe (aCons (bE (eOp oIx (aCons (bV 0) (aCons (bE (eC (.int 0))) aNil)))) (aCons (bE (eC (.str "go"))) aNil)))) (tV (eOp oGt (aCons (bE (eOp oLen (aCons (bV 0) (aNil)))) (aCons (bE (eC (.int 1))) aNil))))) (sDrop (eMut 2 T.isLst mAppend (aCons (bE (eOp oIx (aCons (bE (eC (.str "abcde"))) (aCons (bE (eOp oIx (aCons (bV 0) (aCons (bE (eC (.int 1))) aNil)))) aNil)))) (aNil)))) (sNil))
    (sSeq (sIf (tV (eOp oIn (aCons (bE (eOp oIx (aCons (bV 0) (aCons (bE (eC (.int 0))) aNil)))) (aCons (bE (eTup (aCons (bE (eC (.str "go"))) (aCons (bE (eC (.str "nil"))) (aNil))))) aNil)))) (sRet (eOp oAdd (aCons (bV 2) (aCons (bE (eLst (aCons (bE (eVar 1)) (aNil)))) aNil)))) (sNil))
    (sSeq (sIf (tV (eOp oEq (aCons (bE (eOp oIx (aCons (bV 0) (aCons (bE (eC (.int 0))) aNil)))) (aCons (bE (eC (.str "set"))) aNil)))) (sRet (eOp oAdd (aCons (bV 2) (aCons (bE (eLst (aCons (bE (eOp oStr (aCons (bE (eOp oIx (aCons (bV 0) (aCons (bE (eC (.int 2))) aNil)))) (aNil)))) (aNil)))) aNil)))) (sNil))
    (sRet (eOp oAdd (aCons (bV 2) (aCons (bE (eLc (iSeq (bE (eOp (oSl true false) (aCons (bV 0) (aCons (bE (eC (.int 2))) aNil))))) (gN 3) (cYes) (eOp oIx (aCons (bE (eC (.str "abcde"))) (aCons (bV 3) aNil))) [3])) aNil)))))))
def f__law_words : Fn := fnN 2 4 none b__law_words
def b__law_text : SM :=
  sSeq (sAsg (eOp oSortSet (aCons (bE (eLc (iSeq (bV 1)) (gN 14) (tV (eOp oIn (aCons (bE (eOp oIx (aCons (bV 14) (aCons (bE (eC (.int 0))) aNil)))) (aCons (bE (eTup (aCons (bE (eC (.str "go"))) (aCons (bE (eC (.str "nil"))) (aNil))))) aNil)))) (eOp oIx (aCons (bV 14) (aCons (bE (eOp oNeg (aCons (bE (eC (.int 1))) aNil))) aNil))) [14])) (aNil))) (gN 2))
    (sSeq (sAsg (eCall (some 0) (some 0) f__law_take (aCons (bIo 0) (aCons (bE (eC (.int 3))) (aNil)))) (gN 3))
    (sSeq (sAsg (eCall (some 0) (some 0) f__law_any_labels (aCons (bIo 0) (aCons (bE (eOp oAdd (aCons (bE (eOp oMul (aCons (bE (eC (.int 2))) (aCons (bE (eOp oLen (aCons (bV 2) (aNil)))) aNil)))) (aCons (bV 3) aNil)))) (aNil)))) (gN 4))
    (sSeq (sAsg (eOp oAdd (aCons (bE (eOp oAdd (aCons (bV 2) (aCons (bV 2) aNil)))) (aCons (bE (eLc (iRng rng1 (aCons (bV 3) (aNil))) (gN 11) (cYes) (eCall (some 0) (some 0) f__law_take (aCons (bIo 0) (aCons (bE (eOp oAdd (aCons (bE (eOp oLen (aCons (bV 1) (aNil)))) (aCons (bE (eC (.int 1))) aNil)))) (aNil)))) [11])) aNil))) (gN 5))
    (sSeq (sAsg (eLst (aNil)) (gN 6))
    (sSeq (sFor (iRng rng1 (aCons (bE (eOp oAdd (aCons (bE (eOp oLen (aCons (bV 1) (aNil)))) (aCons (bE (eC (.int 1))) aNil)))) (aNil))) (gN 7)
    (sSeq (sAsg (eLc (iRng zp (aCons (bE (eAl 4)) (aCons (bE (eAl 5)) (aNil)))) (gT 2 (gsC (gN 12) (gsC (gN 13) (gsN)))) (tV (eOp oEq (aCons (bV 13) (aCons (bV 7) aNil)))) (eVar 12) [12, 13]) (gN 8))
    (sSeq (sIf (tAndS (tV (eOp oIn (aCons (bV 7) (aCons (bV 2) aNil)))) (tV (eOp oEq (aCons (bE (eCall (some 0) (some 0) f__law_take (aCons (bIo 0) (aCons (bE (eC (.int 2))) (aNil))))) (aCons (bE (eC (.int 0))) aNil))))) (sAsg (eOp oRev (aCons (bV 8) aNil)) (gN 8)) (sNil))
    (sSeq (sDrop (eMut 6 T.isLst mExtend (aCons (bE (eLc (iSeq (bE (eAl 8))) (gN 12) (cYes) (eOp oAdd (aCons (bV 12) (aCons (bE (eC (.str ":"))) aNil))) [12])) (aNil))))
    (sIf (tV (eOp oLt (aCons (bV 7) (aCons (bE (eOp oLen (aCons (bV 1) (aNil)))) aNil)))) (sSeq (sAsg (eC (.str "")) (gN 9))
    (sSeq (sIf (tAndS (tV (eOp oIn (aCons (bE (eOp oIx (aCons (bE (eOp oIx (aCons (bV 1) (aCons (bV 7) aNil)))) (aCons (bE (eOp oNeg (aCons (bE (eC (.int 1))) aNil))) aNil)))) (aCons (bV 2) aNil)))) (tV (eOp oIn (aCons (bE (eOp oIx (aCons (bE (eOp oIx (aCons (bV 1) (aCons (bV 7) aNil)))) (aCons (bE (eC (.int 0))) aNil)))) (aCons (bE (eTup (aCons (bE (eC (.str "go"))) (aCons (bE (eC (.str "nil"))) (aNil))))) aNil))))) (sSeq (sAsg (eOp oLIdx (aCons (bL (bV 2)) (aCons (bE (eOp oIx (aCons (bE (eOp oIx (aCons (bV 1) (aCons (bV 7) aNil)))) (aCons (bE (eOp oNeg (aCons (bE (eC (.int 1))) aNil))) aNil)))) aNil))) (gN 10))
    (sAsg (eOp oIx (aCons (bE (eLst (aCons (bE (eOp oIx (aCons (bE (eAl 4)) (aCons (bV 10) aNil)))) (aCons (bE (eOp oIx (aCons (bE (eAl 4)) (aCons (bE (eOp oAdd (aCons (bE (eOp oLen (aCons (bV 2) (aNil)))) (aCons (bV 10) aNil)))) aNil)))) (aNil))))) (aCons (bE (eCall (some 0) (some 0) f__law_take (aCons (bIo 0) (aCons (bE (eC (.int 2))) (aNil))))) aNil))) (gN 9))) (sNil))
    (sDrop (eMut 6 T.isLst mAppend (aCons (bE (eOp oJoin (aCons (bS (bE (eC (.str " ")))) (aCons (bE (eCall none none f__law_words (aCons (bE (eOp oIx (aCons (bV 1) (aCons (bV 7) aNil)))) (aCons (bE (eAl 9)) (aNil))))) aNil)))) (aNil)))))) (sNil))))))
    (sRet (eOp oJoin (aCons (bS (bE (eC (.str "\n")))) (aCons (bV 6) aNil)))))))))
def f__law_text : Fn := fnN 2 15 (some 0) b__law_text
theorem lwords_ok {r : Row} {g : List Nat} {m : Int} {Q : T × Option T → Prop} (hr : r.ok m) (q : Q (.lst true ((rowWords g r).map fun w => .str (tx w)), none)) : wp (f__law_words [r.t, .str (tx g)]) Q := by
  unfold f__law_words b__law_words
  have cut3 : ∀ a b c : T, cutL [a, b, c] (some 2) none = [c] := fun _ _ _ => rfl
  have cut2 : ∀ a b : T, cutL [a, b] (some 2) none = [] := fun _ _ => rfl
  have cut1 : ∀ a : T, cutL [a] (some 2) none = [] := fun _ => rfl
  cases r <;> simp only [Row.ok, rowWords] at hr q ⊢ <;> simp only [rt_set, rt_sum, rt_less, rt_tell, rt_go, rt_nil, rt_stop]
  case set r n =>
    simp only [↓sA, sB, sC, if_true, if_false, forall_const, implies_true, forall_eq', false_imp_iff, oEq, oNe, eqT, oAdd, oNeg, oAbs, oMax2, oMin2, oInt, oLen, oIsN, oNotN, oIn, oNin, inT, eqF, oIsi, oIsi2, oList, oTuple, seqT, zp, enm, two, three, ioFind, ioCount, brOk, Bop.still, Bop.isI, T.ow, T.owl, T.nob, T.nobl, T.nfz, T.nfzl, T.fz, T.fzl, Bop.fit, Bop.res, Bop.bo, List.replicate, big, wipeE, reduceCtorEq, Nat.reduceAdd, Nat.reduceSub, Nat.reduceLT, Nat.reduceLeDiff, Int.reduceLT, Int.reduceLE, Int.reduceMul, Int.reducePow, Int.reduceToNat, Int.reduceAdd, Int.reduceSub, Int.reduceNeg, Int.reduceEq, Nat.reducePow, String.reduceEq, tx_len, tx_chars, tx_cps, tx_cut, w_bS, kBs_ap, isS_str, isS_br, w_ixS, kIxS_ap, s_names, nam_atI hr.1, str_int (show 0 ≤ n ∧ n < 10 ^ 13 by omega)]
    exact q
  case sum r s =>
    simp only [↓sA, sB, sC, if_true, if_false, forall_const, implies_true, forall_eq', false_imp_iff, oEq, oNe, eqT, oAdd, oNeg, oAbs, oMax2, oMin2, oInt, oLen, oIsN, oNotN, oIn, oNin, inT, eqF, oIsi, oIsi2, oList, oTuple, seqT, zp, enm, two, three, ioFind, ioCount, brOk, Bop.still, Bop.isI, T.ow, T.owl, T.nob, T.nobl, T.nfz, T.nfzl, T.fz, T.fzl, Bop.fit, Bop.res, Bop.bo, List.replicate, big, wipeE, reduceCtorEq, Nat.reduceAdd, Nat.reduceSub, Nat.reduceLT, Nat.reduceLeDiff, Int.reduceLT, Int.reduceLE, Int.reduceMul, Int.reducePow, Int.reduceToNat, Int.reduceAdd, Int.reduceSub, Int.reduceNeg, Int.reduceEq, Nat.reducePow, String.reduceEq, tx_len, tx_chars, tx_cps, tx_cut, w_bS, kBs_ap, isS_str, isS_br, w_ixS, kIxS_ap, s_names, cut3, kLc0, w_lcCons, nam_atI hr.1, nam_atI hr.2, Option.toList_some]
    exact q
  case less r s =>
    simp only [↓sA, sB, sC, if_true, if_false, forall_const, implies_true, forall_eq', false_imp_iff, oEq, oNe, eqT, oAdd, oNeg, oAbs, oMax2, oMin2, oInt, oLen, oIsN, oNotN, oIn, oNin, inT, eqF, oIsi, oIsi2, oList, oTuple, seqT, zp, enm, two, three, ioFind, ioCount, brOk, Bop.still, Bop.isI, T.ow, T.owl, T.nob, T.nobl, T.nfz, T.nfzl, T.fz, T.fzl, Bop.fit, Bop.res, Bop.bo, List.replicate, big, wipeE, reduceCtorEq, Nat.reduceAdd, Nat.reduceSub, Nat.reduceLT, Nat.reduceLeDiff, Int.reduceLT, Int.reduceLE, Int.reduceMul, Int.reducePow, Int.reduceToNat, Int.reduceAdd, Int.reduceSub, Int.reduceNeg, Int.reduceEq, Nat.reducePow, String.reduceEq, tx_len, tx_chars, tx_cps, tx_cut, w_bS, kBs_ap, isS_str, isS_br, w_ixS, kIxS_ap, s_names, cut3, kLc0, w_lcCons, nam_atI hr.1, nam_atI hr.2, Option.toList_some]
    exact q
  case tell r =>
    simp only [↓sA, sB, sC, if_true, if_false, forall_const, implies_true, forall_eq', false_imp_iff, oEq, oNe, eqT, oAdd, oNeg, oAbs, oMax2, oMin2, oInt, oLen, oIsN, oNotN, oIn, oNin, inT, eqF, oIsi, oIsi2, oList, oTuple, seqT, zp, enm, two, three, ioFind, ioCount, brOk, Bop.still, Bop.isI, T.ow, T.owl, T.nob, T.nobl, T.nfz, T.nfzl, T.fz, T.fzl, Bop.fit, Bop.res, Bop.bo, List.replicate, big, wipeE, reduceCtorEq, Nat.reduceAdd, Nat.reduceSub, Nat.reduceLT, Nat.reduceLeDiff, Int.reduceLT, Int.reduceLE, Int.reduceMul, Int.reducePow, Int.reduceToNat, Int.reduceAdd, Int.reduceSub, Int.reduceNeg, Int.reduceEq, Nat.reducePow, String.reduceEq, tx_len, tx_chars, tx_cps, tx_cut, w_bS, kBs_ap, isS_str, isS_br, w_ixS, kIxS_ap, s_names, cut2, kLc0, w_lcCons, nam_atI hr, Option.toList_some]
    exact q
  case go t =>
    simp only [↓sA, sB, sC, if_true, if_false, forall_const, implies_true, forall_eq', false_imp_iff, oEq, oNe, eqT, oAdd, oNeg, oAbs, oMax2, oMin2, oInt, oLen, oIsN, oNotN, oIn, oNin, inT, eqF, oIsi, oIsi2, oList, oTuple, seqT, zp, enm, two, three, ioFind, ioCount, brOk, Bop.still, Bop.isI, T.ow, T.owl, T.nob, T.nobl, T.nfz, T.nfzl, T.fz, T.fzl, Bop.fit, Bop.res, Bop.bo, List.replicate, big, wipeE, reduceCtorEq, Nat.reduceAdd, Nat.reduceSub, Nat.reduceLT, Nat.reduceLeDiff, Int.reduceLT, Int.reduceLE, Int.reduceMul, Int.reducePow, Int.reduceToNat, Int.reduceAdd, Int.reduceSub, Int.reduceNeg, Int.reduceEq, Nat.reducePow, String.reduceEq, tx_len, tx_chars, tx_cps, tx_cut, w_bS, kBs_ap, isS_str, isS_br, w_ixS, kIxS_ap, s_names]
    exact q
  case nil r t =>
    simp only [↓sA, sB, sC, if_true, if_false, forall_const, implies_true, forall_eq', false_imp_iff, oEq, oNe, eqT, oAdd, oNeg, oAbs, oMax2, oMin2, oInt, oLen, oIsN, oNotN, oIn, oNin, inT, eqF, oIsi, oIsi2, oList, oTuple, seqT, zp, enm, two, three, ioFind, ioCount, brOk, Bop.still, Bop.isI, T.ow, T.owl, T.nob, T.nobl, T.nfz, T.nfzl, T.fz, T.fzl, Bop.fit, Bop.res, Bop.bo, List.replicate, big, wipeE, reduceCtorEq, Nat.reduceAdd, Nat.reduceSub, Nat.reduceLT, Nat.reduceLeDiff, Int.reduceLT, Int.reduceLE, Int.reduceMul, Int.reducePow, Int.reduceToNat, Int.reduceAdd, Int.reduceSub, Int.reduceNeg, Int.reduceEq, Nat.reducePow, String.reduceEq, tx_len, tx_chars, tx_cps, tx_cut, w_bS, kBs_ap, isS_str, isS_br, w_ixS, kIxS_ap, s_names, nam_atI hr.1]
    exact q
  case stop =>
    simp only [↓sA, sB, sC, if_true, if_false, forall_const, implies_true, forall_eq', false_imp_iff, oEq, oNe, eqT, oAdd, oNeg, oAbs, oMax2, oMin2, oInt, oLen, oIsN, oNotN, oIn, oNin, inT, eqF, oIsi, oIsi2, oList, oTuple, seqT, zp, enm, two, three, ioFind, ioCount, brOk, Bop.still, Bop.isI, T.ow, T.owl, T.nob, T.nobl, T.nfz, T.nfzl, T.fz, T.fzl, Bop.fit, Bop.res, Bop.bo, List.replicate, big, wipeE, reduceCtorEq, Nat.reduceAdd, Nat.reduceSub, Nat.reduceLT, Nat.reduceLeDiff, Int.reduceLT, Int.reduceLE, Int.reduceMul, Int.reducePow, Int.reduceToNat, Int.reduceAdd, Int.reduceSub, Int.reduceNeg, Int.reduceEq, Nat.reducePow, String.reduceEq, tx_len, tx_chars, tx_cps, tx_cut, w_bS, kBs_ap, isS_str, isS_br, w_ixS, kIxS_ap, s_names, cut1, kLc0]
    exact q
theorem zip_labs {ls : List (List Nat)} {sp : List Int} : zipT (labsS ls) (sp.map T.int) = (ls.zip sp).map fun p => T.pr [.str (tx p.1), .int p.2] := by
  unfold labsS
  rw [zipT_map]
theorem at_labs {ls : List (List Nat)} {i : Int} : atI (labsS ls) i = (atI ls i).map fun l => .str (tx l) := by
  unfold labsS
  rw [atI_map]
theorem it_len : ∀ {its : List It} {k : Nat}, its.length = (itRows its).length + (labM k its).length
  | [], _ => rfl
  | .lab l :: its, k => by
    have := it_len (its := its) (k := k)
    simp only [List.length_cons, itRows, labM]
    omega
  | .row r g :: its, k => by
    have := it_len (its := its) (k := k + 1)
    simp only [List.length_cons, itRows, labM]
    omega
theorem Wr.len {rows : List Row} {P : List (List Nat × Int)} {n : Nat} {its : List It} (h : Wr rows P n its) : its.length ≤ rows.length + P.length := by
  have h1 := it_len (its := its) (k := 0)
  rw [h.told] at h1
  have h2 : ((labM 0 its).map (·.1)).length ≤ (P.map (·.1)).length := nd_few h.nd fun x hx => by
    obtain ⟨⟨l, k⟩, hk, rfl⟩ := List.mem_map.mp hx
    exact List.mem_map.mpr ⟨_, ((h.lab l k).mp hk).1, rfl⟩
  simp only [List.length_map, List.length_take] at h1 h2
  omega
theorem strs_words {ws : List (List Nat)} : ws.map (fun w => T.str (tx w)) = (ws.map tx).map T.str := by rw [List.map_map]; rfl
theorem rowsum2 {r : Row} {g : List Nat} {m : Int} (hr : r.ok m) (hg : g.length ≤ 8) : ((rowWords g r).map (·.length)).sum ≤ 20 ∧ (rowWords g r).length ≤ 3 := by
  cases r <;> simp only [Row.ok, rowWords] at hr ⊢ <;> simp [regW]
  case set r n =>
    have := TL.numL_len (n := n.toNat) (k := 8) (by omega) (by omega)
    omega
  all_goals omega
theorem line_of_row {r : Row} {g : List Nat} {m : Int} (hr : r.ok m) (hg : g.length ≤ 8) : (It.row r g).line.length ≤ 60 := by
  have h1 := rowsum2 hr hg
  have h2 := join_len (S := [32]) (rowWords g r)
  show (TL.joinL [32] (rowWords g r)).length ≤ 60
  simp at h2
  omega
theorem text_ok {n : Int} {t : T} {rows : List Row} {Q : T × Option T → Prop} (h : Tp n t) (hn : n < 999700000) (hr : ∀ r, r ∈ rows → r.ok 60) (hrl : ∀ r, r ∈ rows → r.ok rows.length) (hl : rows.length ≤ 300)
    (q : ∀ (its : List It) u, GoodI rows.length its → itRows its = rows → its.length ≤ 1000 → (∀ x, x ∈ its → x.line.length ≤ 60) → Tp (n + 1000) u → Q (.str (tx (itText its)), some u)) : wp (f__law_text [t, .lst false (rows.map Row.t)]) Q := by
  unfold f__law_text b__law_text
  simp only [↓sA, sB, sC, if_true, if_false, forall_const, implies_true, forall_eq', false_imp_iff, oEq, oNe, eqT, oAdd, oNeg, oAbs, oMax2, oMin2, oInt, oLen, oIsN, oNotN, oIn, oNin, inT, eqF, oIsi, oIsi2, oList, oTuple, seqT, zp, enm, two, three, ioFind, ioCount, brOk, Bop.still, Bop.isI, T.ow, T.owl, T.nob, T.nobl, T.nfz, T.nfzl, T.fz, T.fzl, Bop.fit, Bop.res, Bop.bo, List.replicate, big, wipeE, reduceCtorEq, Nat.reduceAdd, Nat.reduceSub, Nat.reduceLT, Nat.reduceLeDiff, Int.reduceLT, Int.reduceLE, Int.reduceMul, Int.reducePow, Int.reduceToNat, Int.reduceAdd, Int.reduceSub, Int.reduceNeg, Int.reduceEq, Nat.reducePow, String.reduceEq, tx_len, tx_chars, tx_cps, tx_cut, w_bS, kBs_ap, isS_str, isS_br, w_ixS, kIxS_ap, Row.ow, Row.nob, Row.nfz, Row.fz]
  refine ⟨by omega, lc_filter (p := Row.jump) (h := fun r => T.int r.goal) (fun r hk Q' q' => ?_) ?_⟩
  · cases r <;> simp only [rt_set, rt_sum, rt_less, rt_tell, rt_go, rt_nil, rt_stop] at q' ⊢ <;> simp only [↓sA, sB, sC, if_true, if_false, forall_const, implies_true, forall_eq', false_imp_iff, oEq, oNe, eqT, oAdd, oNeg, oAbs, oMax2, oMin2, oInt, oLen, oIsN, oNotN, oIn, oNin, inT, eqF, oIsi, oIsi2, oList, oTuple, seqT, zp, enm, two, three, ioFind, ioCount, brOk, Bop.still, Bop.isI, T.ow, T.owl, T.nob, T.nobl, T.nfz, T.nfzl, T.fz, T.fzl, Bop.fit, Bop.res, Bop.bo, List.replicate, big, wipeE, reduceCtorEq, Nat.reduceAdd, Nat.reduceSub, Nat.reduceLT, Nat.reduceLeDiff, Int.reduceLT, Int.reduceLE, Int.reduceMul, Int.reducePow, Int.reduceToNat, Int.reduceAdd, Int.reduceSub, Int.reduceNeg, Int.reduceEq, Nat.reducePow, String.reduceEq] <;> exact q'
  simp only [↓sA, sB, sC, if_true, if_false, forall_const, implies_true, forall_eq', false_imp_iff, oEq, oNe, eqT, oAdd, oNeg, oAbs, oMax2, oMin2, oInt, oLen, oIsN, oNotN, oIn, oNin, inT, eqF, oIsi, oIsi2, oList, oTuple, seqT, zp, enm, two, three, ioFind, ioCount, brOk, Bop.still, Bop.isI, T.ow, T.owl, T.nob, T.nobl, T.nfz, T.nfzl, T.fz, T.fzl, Bop.fit, Bop.res, Bop.bo, List.replicate, big, wipeE, reduceCtorEq, Nat.reduceAdd, Nat.reduceSub, Nat.reduceLT, Nat.reduceLeDiff, Int.reduceLT, Int.reduceLE, Int.reduceMul, Int.reducePow, Int.reduceToNat, Int.reduceAdd, Int.reduceSub, Int.reduceNeg, Int.reduceEq, Nat.reducePow, String.reduceEq]
  have eg : (rows.filter Row.jump).map (fun r => T.int r.goal) = (goalsOf rows).map T.int := by unfold goalsOf; rw [List.map_map]; rfl
  rw [eg]
  have hgo := goals_okT hr
  have hgl : (goalsOf rows).length ≤ 300 := by
    unfold goalsOf
    rw [List.length_map]
    exact Nat.le_trans (List.length_filter_le _ _) hl
  have hup := up_uniq (ns := goalsOf rows)
  have hfew := up_few (a := 0) (b := 61) hup fun x hx => by
    have := hgo x (mem_uniq.mp hx)
    omega
  refine w_sortSet (by omega) (by omega) ?_
  simp only [↓sA, sB, sC, if_true, if_false, forall_const, implies_true, forall_eq', false_imp_iff, oEq, oNe, eqT, oAdd, oNeg, oAbs, oMax2, oMin2, oInt, oLen, oIsN, oNotN, oIn, oNin, inT, eqF, oIsi, oIsi2, oList, oTuple, seqT, zp, enm, two, three, ioFind, ioCount, brOk, Bop.still, Bop.isI, T.ow, T.owl, T.nob, T.nobl, T.nfz, T.nfzl, T.fz, T.fzl, Bop.fit, Bop.res, Bop.bo, List.replicate, big, wipeE, reduceCtorEq, Nat.reduceAdd, Nat.reduceSub, Nat.reduceLT, Nat.reduceLeDiff, Int.reduceLT, Int.reduceLE, Int.reduceMul, Int.reducePow, Int.reduceToNat, Int.reduceAdd, Int.reduceSub, Int.reduceNeg, Int.reduceEq, Nat.reducePow, String.reduceEq, tx_len, tx_chars, tx_cps, tx_cut, w_bS, kBs_ap, isS_str, isS_br, w_ixS, kIxS_ap]
  refine take_ok h (by omega) (by omega) ?_; intro more u hm1 hm2 hu
  simp only [↓sA, sB, sC, if_true, if_false, forall_const, implies_true, forall_eq', false_imp_iff, oEq, oNe, eqT, oAdd, oNeg, oAbs, oMax2, oMin2, oInt, oLen, oIsN, oNotN, oIn, oNin, inT, eqF, oIsi, oIsi2, oList, oTuple, seqT, zp, enm, two, three, ioFind, ioCount, brOk, Bop.still, Bop.isI, T.ow, T.owl, T.nob, T.nobl, T.nfz, T.nfzl, T.fz, T.fzl, Bop.fit, Bop.res, Bop.bo, List.replicate, big, wipeE, reduceCtorEq, Nat.reduceAdd, Nat.reduceSub, Nat.reduceLT, Nat.reduceLeDiff, Int.reduceLT, Int.reduceLE, Int.reduceMul, Int.reducePow, Int.reduceToNat, Int.reduceAdd, Int.reduceSub, Int.reduceNeg, Int.reduceEq, Nat.reducePow, String.reduceEq, tx_len, tx_chars, tx_cps, tx_cut, w_bS, kBs_ap, isS_str, isS_br, w_ixS, kIxS_ap]
  have hGl : (uniq (goalsOf rows)).length ≤ 61 := by omega
  have hmG : ∀ x, x ∈ uniq (goalsOf rows) ↔ x ∈ goalsOf rows := fun x => mem_uniq
  generalize hGd : uniq (goalsOf rows) = G at *
  refine anylabels_ok hu (by omega) (by omega) fun ls u2 hlsl hlsn hlsI hu2 => ?_
  simp only [↓sA, sB, sC, if_true, if_false, forall_const, implies_true, forall_eq', false_imp_iff, oEq, oNe, eqT, oAdd, oNeg, oAbs, oMax2, oMin2, oInt, oLen, oIsN, oNotN, oIn, oNin, inT, eqF, oIsi, oIsi2, oList, oTuple, seqT, zp, enm, two, three, ioFind, ioCount, brOk, Bop.still, Bop.isI, T.ow, T.owl, T.nob, T.nobl, T.nfz, T.nfzl, T.fz, T.fzl, Bop.fit, Bop.res, Bop.bo, List.replicate, big, wipeE, reduceCtorEq, Nat.reduceAdd, Nat.reduceSub, Nat.reduceLT, Nat.reduceLeDiff, Int.reduceLT, Int.reduceLE, Int.reduceMul, Int.reducePow, Int.reduceToNat, Int.reduceAdd, Int.reduceSub, Int.reduceNeg, Int.reduceEq, Nat.reducePow, String.reduceEq, tx_len, tx_chars, tx_cps, tx_cut, w_bS, kBs_ap, isS_str, isS_br, w_ixS, kIxS_ap]
  refine ⟨by omega, by omega, by omega, lc_inv (fun d r a e => ∃ (is : List Int) (v : T), a = is.map T.int ∧ is.length = d.length ∧ (∀ c, c ∈ is → 0 ≤ c ∧ c ≤ rows.length) ∧ Tp (n + 40 + d.length) v ∧ e = [some v, some (T.lst false (rows.map Row.t)), some (.lst true (G.map T.int)), some (.int more), some (.lst true (labsS ls)), none, none, none, none, none, none, none, none, none, none]) ?_ ?_ ?_⟩
  · exact ⟨[], u2, rfl, rfl, (fun _ z => nomatch z), hu2.mono (by simp; omega), rfl⟩
  · rintro d x r a _ hd ⟨is, v, rfl, hsl, hsc, hv, rfl⟩
    have hdl : d.length < 3 := by
      have := congrArg List.length hd
      simp at this
      omega
    simp only [↓sA, sB, sC, if_true, if_false, forall_const, implies_true, forall_eq', false_imp_iff, oEq, oNe, eqT, oAdd, oNeg, oAbs, oMax2, oMin2, oInt, oLen, oIsN, oNotN, oIn, oNin, inT, eqF, oIsi, oIsi2, oList, oTuple, seqT, zp, enm, two, three, ioFind, ioCount, brOk, Bop.still, Bop.isI, T.ow, T.owl, T.nob, T.nobl, T.nfz, T.nfzl, T.fz, T.fzl, Bop.fit, Bop.res, Bop.bo, List.replicate, big, wipeE, reduceCtorEq, Nat.reduceAdd, Nat.reduceSub, Nat.reduceLT, Nat.reduceLeDiff, Int.reduceLT, Int.reduceLE, Int.reduceMul, Int.reducePow, Int.reduceToNat, Int.reduceAdd, Int.reduceSub, Int.reduceNeg, Int.reduceEq, Nat.reducePow, String.reduceEq, tx_len, tx_chars, tx_cps, tx_cut, w_bS, kBs_ap, isS_str, isS_br, w_ixS, kIxS_ap, Row.ow, Row.nob, Row.nfz, Row.fz]
    refine take_ok hv (by omega) (by omega) ?_; intro c v2 hc1 hc2 hv2
    simp only [↓sA, sB, sC, if_true, if_false, forall_const, implies_true, forall_eq', false_imp_iff, oEq, oNe, eqT, oAdd, oNeg, oAbs, oMax2, oMin2, oInt, oLen, oIsN, oNotN, oIn, oNin, inT, eqF, oIsi, oIsi2, oList, oTuple, seqT, zp, enm, two, three, ioFind, ioCount, brOk, Bop.still, Bop.isI, T.ow, T.owl, T.nob, T.nobl, T.nfz, T.nfzl, T.fz, T.fzl, Bop.fit, Bop.res, Bop.bo, List.replicate, big, wipeE, reduceCtorEq, Nat.reduceAdd, Nat.reduceSub, Nat.reduceLT, Nat.reduceLeDiff, Int.reduceLT, Int.reduceLE, Int.reduceMul, Int.reducePow, Int.reduceToNat, Int.reduceAdd, Int.reduceSub, Int.reduceNeg, Int.reduceEq, Nat.reducePow, String.reduceEq, tx_len, tx_chars, tx_cps, tx_cut, w_bS, kBs_ap, isS_str, isS_br, w_ixS, kIxS_ap, Option.toList_some]
    refine ⟨is ++ [c], v2, by simp, by simp [hsl], fun x hx => ?_, hv2.mono (by simp; omega), rfl⟩
    rcases List.mem_append.mp hx with hx | hx
    · exact hsc x hx
    · rw [List.mem_singleton.mp hx]; omega
  rintro _ _ ⟨is, v, rfl, hsl, hsc, hv, rfl⟩
  simp only [↓sA, sB, sC, if_true, if_false, forall_const, implies_true, forall_eq', false_imp_iff, oEq, oNe, eqT, oAdd, oNeg, oAbs, oMax2, oMin2, oInt, oLen, oIsN, oNotN, oIn, oNin, inT, eqF, oIsi, oIsi2, oList, oTuple, seqT, zp, enm, two, three, ioFind, ioCount, brOk, Bop.still, Bop.isI, T.ow, T.owl, T.nob, T.nobl, T.nfz, T.nfzl, T.fz, T.fzl, Bop.fit, Bop.res, Bop.bo, List.replicate, big, wipeE, reduceCtorEq, Nat.reduceAdd, Nat.reduceSub, Nat.reduceLT, Nat.reduceLeDiff, Int.reduceLT, Int.reduceLE, Int.reduceMul, Int.reducePow, Int.reduceToNat, Int.reduceAdd, Int.reduceSub, Int.reduceNeg, Int.reduceEq, Nat.reducePow, String.reduceEq, tx_len, tx_chars, tx_cps, tx_cut, w_bS, kBs_ap, isS_str, isS_br, w_ixS, kIxS_ap, Row.ow, Row.nob, Row.nfz, Row.fz]
  simp only [List.length_range] at hsl
  have hsp : (G ++ G ++ is).length = ls.length := by simp; omega
  have hspb : ∀ x, x ∈ G ++ G ++ is → 0 ≤ x ∧ x ≤ rows.length := fun x hx => by
    rcases List.mem_append.mp hx with hx | hx
    · have hx : x ∈ G := by rcases List.mem_append.mp hx with hx | hx <;> exact hx
      obtain ⟨r, hm, rfl⟩ := List.mem_map.mp ((hmG x).mp hx)
      obtain ⟨hm, hj⟩ := List.mem_filter.mp hm
      have := hrl r hm
      cases r <;> simp only [Row.ok, Row.goal] at this ⊢ <;> first | exact absurd (show false = true from hj) (by decide) | omega
    · exact hsc x hx
  generalize hSp : G ++ G ++ is = sp at *
  have hsp0 : G.map T.int ++ G.map T.int ++ is.map T.int = sp.map T.int := by rw [← hSp]; simp
  have hPf : ((ls.zip sp).map (·.1)) = ls := by rw [List.map_fst_zip]; omega
  refine ⟨by omega, by omega, ?_⟩
  generalize hQS : kSeq _ (kF1 0 Q) = QS
  have hany : ∀ (k : Int) (xs : List Int), ((xs.map T.int).any fun y => eqF y (.int k)) = decide (k ∈ xs) := fun _ _ => any_ints
  simp only [eqF] at hany
  refine for2 (fun D r e => ∃ o v x7 x8 x9 x10 x12 x13, ∃ its : List It, Wr rows (ls.zip sp) D.length its ∧ (∀ x, x ∈ its → x.line.length ≤ 60) ∧ Tp (n + 50 + 2 * D.length) v ∧ e = [some v, some (.lst false (rows.map Row.t)), some (.lst true (G.map T.int)), some (.int more), some (.lst o (labsS ls)), some (.lst o (sp.map T.int)), some (.lst true (linesT its)), x7, x8, x9, x10, none, x12, x13, none]) ?_ ?_ ?_
  · exact ⟨true, v, none, none, none, none, none, none, [], Wr.zero, (fun _ z => nomatch z), hv.mono (by simp; omega), rfl⟩
  · rintro D k rr _ J hD ⟨o, v, x7, x8, x9, x10, x12, x13, its, hW, hll, hv, rfl⟩ hJ
    have hk : k = D.length ∧ k < rows.length + 1 := by
      have h1 : k ∈ List.range ((rows.length : Int) + 1).toNat := by rw [hD]; simp
      have h1 := List.mem_range.mp h1
      have e : (List.range ((rows.length : Int) + 1).toNat)[D.length]? = some k := by rw [hD]; simp
      have e := (List.getElem?_eq_some_iff.mp e).2
      simp at e
      omega
    obtain ⟨rfl, hk2⟩ := hk
    generalize hS4 : sIf (tV (eOp oLt _)) _ _ = S4
    generalize hS3 : sSeq (sDrop (eMut 6 _ _ _)) S4 = S3
    have hPn : (ls.zip sp).length ≤ 130 := by rw [List.length_zip]; omega
    have hPb : ∀ l k, (l, k) ∈ ls.zip sp → isLab l = true := fun l k hk => hlsI l (by rw [← hPf]; exact List.mem_map.mpr ⟨_, hk, rfl⟩)
    -- the row
    have s4 : ∀ (v : T) (x8 x9 x10 x12 x13 : Option T) (its2 : List It), its2.length ≤ 700 → Tp (n + 51 + 2 * D.length) v →
        (∀ g v x8 x9 x10 x12 x13, Tp (n + 52 + 2 * D.length) v → (∀ r, rows[D.length]? = some r → r.jump = true → (g, r.goal) ∈ ls.zip sp) → (∀ r, rows[D.length]? = some r → g.length ≤ 8) → J [some v, some (.lst false (rows.map Row.t)), some (.lst true (G.map T.int)), some (.int more), some (.lst false (labsS ls)), some (.lst false (sp.map T.int)), some (.lst true (linesT (its2 ++ (match rows[D.length]? with | some r => [It.row r g] | none => [])))), some (.int D.length), x8, x9, x10, none, x12, x13, none]) →
        wp (S4 [some v, some (.lst false (rows.map Row.t)), some (.lst true (G.map T.int)), some (.int more), some (.lst false (labsS ls)), some (.lst false (sp.map T.int)), some (.lst true (linesT its2)), some (.int D.length), x8, x9, x10, none, x12, x13, none]) (kT J QS) := fun v x8 x9 x10 x12 x13 its2 h2 hv hJ4 => by
      subst hS4
      generalize hS5 : sDrop (eMut 6 T.isLst mAppend _) = S5
      simp only [↓sA, sB, sC, if_true, if_false, forall_const, implies_true, forall_eq', false_imp_iff, oEq, oNe, eqT, oAdd, oNeg, oAbs, oMax2, oMin2, oInt, oLen, oIsN, oNotN, oIn, oNin, inT, eqF, oIsi, oIsi2, oList, oTuple, seqT, zp, enm, two, three, ioFind, ioCount, brOk, Bop.still, Bop.isI, T.ow, T.owl, T.nob, T.nobl, T.nfz, T.nfzl, T.fz, T.fzl, Bop.fit, Bop.res, Bop.bo, List.replicate, big, wipeE, reduceCtorEq, Nat.reduceAdd, Nat.reduceSub, Nat.reduceLT, Nat.reduceLeDiff, Int.reduceLT, Int.reduceLE, Int.reduceMul, Int.reducePow, Int.reduceToNat, Int.reduceAdd, Int.reduceSub, Int.reduceNeg, Int.reduceEq, Nat.reducePow, String.reduceEq, tx_len, tx_chars, tx_cps, tx_cut, w_bS, kBs_ap, isS_str, isS_br, w_ixS, kIxS_ap, s_empty, Row.ow, Row.nob, Row.nfz, Row.fz]
      cases hk1 : rows[D.length]? with
      | none =>
        have hge : rows.length ≤ D.length := List.getElem?_eq_none_iff.mp hk1
        rw [if_neg (by omega)]
        have := hJ4 [] v x8 x9 x10 x12 x13 (hv.mono (by omega)) (fun r h => by rw [hk1] at h; cases h) (fun r h => by rw [hk1] at h; cases h)
        rw [hk1, List.append_nil] at this
        exact this
      | some r =>
        have hlt : D.length < rows.length := (List.getElem?_eq_some_iff.mp hk1).1
        have hrm : r ∈ rows := List.mem_of_getElem? hk1
        have hr1 := hr r hrm
        have hat : atI rows (D.length : Int) = some r := by rw [atI_nat']; exact hk1
        rw [if_pos (by omega)]
        rw [hk1] at hJ4
        have hlt2 : (linesT its2).length ≤ 700 := by simp [linesT]; omega
        -- the words
        have fin : ∀ g v x8 x10 x12 x13, g.length ≤ 8 → Tp (n + 52 + 2 * D.length) v → (r.jump = true → (g, r.goal) ∈ ls.zip sp) → wp (S5 [some v, some (.lst false (rows.map Row.t)), some (.lst true (G.map T.int)), some (.int more), some (.lst false (labsS ls)), some (.lst false (sp.map T.int)), some (.lst true (linesT its2)), some (.int D.length), x8, some (.str (tx g)), x10, none, x12, x13, none]) (kT J QS) := fun g v x8 x10 x12 x13 hg8 hv2 hg => by
          subst hS5
          have hrs := rowsum2 hr1 hg8
          simp only [↓sA, sB, sC, if_true, if_false, forall_const, implies_true, forall_eq', false_imp_iff, oEq, oNe, eqT, oAdd, oNeg, oAbs, oMax2, oMin2, oInt, oLen, oIsN, oNotN, oIn, oNin, inT, eqF, oIsi, oIsi2, oList, oTuple, seqT, zp, enm, two, three, ioFind, ioCount, brOk, Bop.still, Bop.isI, T.ow, T.owl, T.nob, T.nobl, T.nfz, T.nfzl, T.fz, T.fzl, Bop.fit, Bop.res, Bop.bo, List.replicate, big, wipeE, reduceCtorEq, Nat.reduceAdd, Nat.reduceSub, Nat.reduceLT, Nat.reduceLeDiff, Int.reduceLT, Int.reduceLE, Int.reduceMul, Int.reducePow, Int.reduceToNat, Int.reduceAdd, Int.reduceSub, Int.reduceNeg, Int.reduceEq, Nat.reducePow, String.reduceEq, tx_len, tx_chars, tx_cps, tx_cut, w_bS, kBs_ap, isS_str, isS_br, w_ixS, kIxS_ap, s_blank, Row.ow, Row.nob, Row.nfz, Row.fz, hat]
          refine lwords_ok hr1 ?_
          rw [strs_words]
          simp only [↓sA, sB, sC, if_true, if_false, forall_const, implies_true, forall_eq', false_imp_iff, oEq, oNe, eqT, oAdd, oNeg, oAbs, oMax2, oMin2, oInt, oLen, oIsN, oNotN, oIn, oNin, inT, eqF, oIsi, oIsi2, oList, oTuple, seqT, zp, enm, two, three, ioFind, ioCount, brOk, Bop.still, Bop.isI, T.ow, T.owl, T.nob, T.nobl, T.nfz, T.nfzl, T.fz, T.fzl, Bop.fit, Bop.res, Bop.bo, List.replicate, big, wipeE, reduceCtorEq, Nat.reduceAdd, Nat.reduceSub, Nat.reduceLT, Nat.reduceLeDiff, Int.reduceLT, Int.reduceLE, Int.reduceMul, Int.reducePow, Int.reduceToNat, Int.reduceAdd, Int.reduceSub, Int.reduceNeg, Int.reduceEq, Nat.reducePow, String.reduceEq, tx_len, tx_chars, tx_cps, tx_cut, w_bS, kBs_ap, isS_str, isS_br, w_ixS, kIxS_ap, s_blank, lines_ow]
          rw [w_join, tx_join]
          refine ⟨?_, ?_⟩
          · have e : (((rowWords g r).map tx).map (·.length)) = (rowWords g r).map (·.length) := by rw [List.map_map]; exact List.map_congr_left fun w _ => tx_len
            rw [e, List.length_map, tx_len]
            simp
            omega
          simp only [↓sA, sB, sC, if_true, if_false, forall_const, implies_true, forall_eq', false_imp_iff, oEq, oNe, eqT, oAdd, oNeg, oAbs, oMax2, oMin2, oInt, oLen, oIsN, oNotN, oIn, oNin, inT, eqF, oIsi, oIsi2, oList, oTuple, seqT, zp, enm, two, three, ioFind, ioCount, brOk, Bop.still, Bop.isI, T.ow, T.owl, T.nob, T.nobl, T.nfz, T.nfzl, T.fz, T.fzl, Bop.fit, Bop.res, Bop.bo, List.replicate, big, wipeE, reduceCtorEq, Nat.reduceAdd, Nat.reduceSub, Nat.reduceLT, Nat.reduceLeDiff, Int.reduceLT, Int.reduceLE, Int.reduceMul, Int.reducePow, Int.reduceToNat, Int.reduceAdd, Int.reduceSub, Int.reduceNeg, Int.reduceEq, Nat.reducePow, String.reduceEq, tx_len, tx_chars, tx_cps, tx_cut, w_bS, kBs_ap, isS_str, isS_br, w_ixS, kIxS_ap, lines_ow]
          refine ⟨by omega, ?_⟩
          have := hJ4 g v x8 (some (.str (tx g))) x10 x12 x13 hv2 (fun r2 h => by cases h; exact hg) (fun r2 h => hg8)
          simpa [linesT, It.line] using this
        have hanyS : ∀ (z : Str), ((G.map T.int).any fun y => eqF y (.str z)) = false := fun z => by
          rw [List.any_map]
          exact List.any_eq_false.mpr fun x _ => by simp [eqF]
        simp only [eqF] at hanyS
        have none8 : ∀ x8 x10 x12 x13, r.jump = false → wp (S5 [some v, some (.lst false (rows.map Row.t)), some (.lst true (G.map T.int)), some (.int more), some (.lst false (labsS ls)), some (.lst false (sp.map T.int)), some (.lst true (linesT its2)), some (.int D.length), x8, some (.str (tx [])), x10, none, x12, x13, none]) (kT J QS) := fun x8 x10 x12 x13 hj =>
          fin [] v x8 x10 x12 x13 (by simp) (hv.mono (by omega)) fun z => by rw [hj] at z; cases z
        have hz : ∀ (i : Nat) (t : Int), i < ls.length → sp[i]? = some t → ∃ g, atI ls (i : Int) = some g ∧ (g, t) ∈ ls.zip sp := fun i t hi ht => by
          refine ⟨ls[i], by rw [atI_nat', List.getElem?_eq_getElem hi], ?_⟩
          have hi2 := (List.getElem?_eq_some_iff.mp ht)
          obtain ⟨hi2, ht2⟩ := hi2
          have e : (ls.zip sp)[i]? = some (ls[i], t) := by
            rw [List.getElem?_zip_eq_some]
            exact ⟨List.getElem?_eq_getElem hi, ht⟩
          exact List.mem_of_getElem? e
        have two : ∀ t : Int, r.jump = true → r.goal = t → ∃ g1 g2, (t ∈ G ∧ atI ls ((G.idxOf t : Nat) : Int) = some g1 ∧ atI ls ((G.length : Int) + ((G.idxOf t : Nat) : Int)) = some g2) ∧ (g1, t) ∈ ls.zip sp ∧ (g2, t) ∈ ls.zip sp := fun t hj ht => by
          have hm : t ∈ G := (hmG t).mpr (List.mem_map.mpr ⟨r, List.mem_filter.mpr ⟨hrm, hj⟩, ht⟩)
          have hi := List.idxOf_lt_length_of_mem hm
          have hg : G[G.idxOf t]? = some t := by rw [List.getElem?_eq_getElem hi, List.getElem_idxOf]
          obtain ⟨g1, h1, h2⟩ := hz (G.idxOf t) t (by omega) (by rw [← hSp, List.append_assoc, List.getElem?_append_left hi]; exact hg)
          obtain ⟨g2, h3, h4⟩ := hz (G.length + G.idxOf t) t (by omega) (by rw [← hSp, List.append_assoc, List.getElem?_append_right (by omega), List.getElem?_append_left (by omega), Nat.add_sub_cancel_left]; exact hg)
          exact ⟨g1, g2, ⟨hm, h1, by rw [← h3]; push_cast; rfl⟩, h2, h4⟩
        have l8 : ∀ g k, (g, k) ∈ ls.zip sp → g.length ≤ 8 := fun g k h => (isLab_mem (hPb g k h)).1.2
        cases r
        case set r m =>
          simp only [↓sA, sB, sC, if_true, if_false, forall_const, implies_true, forall_eq', false_imp_iff, oEq, oNe, eqT, oAdd, oNeg, oAbs, oMax2, oMin2, oInt, oLen, oIsN, oNotN, oIn, oNin, inT, eqF, oIsi, oIsi2, oList, oTuple, seqT, zp, enm, two, three, ioFind, ioCount, brOk, Bop.still, Bop.isI, T.ow, T.owl, T.nob, T.nobl, T.nfz, T.nfzl, T.fz, T.fzl, Bop.fit, Bop.res, Bop.bo, List.replicate, big, wipeE, reduceCtorEq, Nat.reduceAdd, Nat.reduceSub, Nat.reduceLT, Nat.reduceLeDiff, Int.reduceLT, Int.reduceLE, Int.reduceMul, Int.reducePow, Int.reduceToNat, Int.reduceAdd, Int.reduceSub, Int.reduceNeg, Int.reduceEq, Nat.reducePow, String.reduceEq, tx_len, tx_chars, tx_cps, tx_cut, w_bS, kBs_ap, isS_str, isS_br, w_ixS, kIxS_ap, s_empty, Row.ow, Row.nob, Row.nfz, Row.fz, hat, hany, hanyS, flat_ints, rt_set, rt_sum, rt_less, rt_tell, rt_go, rt_nil, rt_stop]
          first
            | exact none8 _ _ _ _ rfl
            | (split <;> exact none8 _ _ _ _ rfl)
        case sum r s =>
          simp only [↓sA, sB, sC, if_true, if_false, forall_const, implies_true, forall_eq', false_imp_iff, oEq, oNe, eqT, oAdd, oNeg, oAbs, oMax2, oMin2, oInt, oLen, oIsN, oNotN, oIn, oNin, inT, eqF, oIsi, oIsi2, oList, oTuple, seqT, zp, enm, two, three, ioFind, ioCount, brOk, Bop.still, Bop.isI, T.ow, T.owl, T.nob, T.nobl, T.nfz, T.nfzl, T.fz, T.fzl, Bop.fit, Bop.res, Bop.bo, List.replicate, big, wipeE, reduceCtorEq, Nat.reduceAdd, Nat.reduceSub, Nat.reduceLT, Nat.reduceLeDiff, Int.reduceLT, Int.reduceLE, Int.reduceMul, Int.reducePow, Int.reduceToNat, Int.reduceAdd, Int.reduceSub, Int.reduceNeg, Int.reduceEq, Nat.reducePow, String.reduceEq, tx_len, tx_chars, tx_cps, tx_cut, w_bS, kBs_ap, isS_str, isS_br, w_ixS, kIxS_ap, s_empty, Row.ow, Row.nob, Row.nfz, Row.fz, hat, hany, hanyS, flat_ints, rt_set, rt_sum, rt_less, rt_tell, rt_go, rt_nil, rt_stop]
          first
            | exact none8 _ _ _ _ rfl
            | (split <;> exact none8 _ _ _ _ rfl)
        case less r s =>
          simp only [↓sA, sB, sC, if_true, if_false, forall_const, implies_true, forall_eq', false_imp_iff, oEq, oNe, eqT, oAdd, oNeg, oAbs, oMax2, oMin2, oInt, oLen, oIsN, oNotN, oIn, oNin, inT, eqF, oIsi, oIsi2, oList, oTuple, seqT, zp, enm, two, three, ioFind, ioCount, brOk, Bop.still, Bop.isI, T.ow, T.owl, T.nob, T.nobl, T.nfz, T.nfzl, T.fz, T.fzl, Bop.fit, Bop.res, Bop.bo, List.replicate, big, wipeE, reduceCtorEq, Nat.reduceAdd, Nat.reduceSub, Nat.reduceLT, Nat.reduceLeDiff, Int.reduceLT, Int.reduceLE, Int.reduceMul, Int.reducePow, Int.reduceToNat, Int.reduceAdd, Int.reduceSub, Int.reduceNeg, Int.reduceEq, Nat.reducePow, String.reduceEq, tx_len, tx_chars, tx_cps, tx_cut, w_bS, kBs_ap, isS_str, isS_br, w_ixS, kIxS_ap, s_empty, Row.ow, Row.nob, Row.nfz, Row.fz, hat, hany, hanyS, flat_ints, rt_set, rt_sum, rt_less, rt_tell, rt_go, rt_nil, rt_stop]
          first
            | exact none8 _ _ _ _ rfl
            | (split <;> exact none8 _ _ _ _ rfl)
        case tell r =>
          simp only [↓sA, sB, sC, if_true, if_false, forall_const, implies_true, forall_eq', false_imp_iff, oEq, oNe, eqT, oAdd, oNeg, oAbs, oMax2, oMin2, oInt, oLen, oIsN, oNotN, oIn, oNin, inT, eqF, oIsi, oIsi2, oList, oTuple, seqT, zp, enm, two, three, ioFind, ioCount, brOk, Bop.still, Bop.isI, T.ow, T.owl, T.nob, T.nobl, T.nfz, T.nfzl, T.fz, T.fzl, Bop.fit, Bop.res, Bop.bo, List.replicate, big, wipeE, reduceCtorEq, Nat.reduceAdd, Nat.reduceSub, Nat.reduceLT, Nat.reduceLeDiff, Int.reduceLT, Int.reduceLE, Int.reduceMul, Int.reducePow, Int.reduceToNat, Int.reduceAdd, Int.reduceSub, Int.reduceNeg, Int.reduceEq, Nat.reducePow, String.reduceEq, tx_len, tx_chars, tx_cps, tx_cut, w_bS, kBs_ap, isS_str, isS_br, w_ixS, kIxS_ap, s_empty, Row.ow, Row.nob, Row.nfz, Row.fz, hat, hany, hanyS, flat_ints, rt_set, rt_sum, rt_less, rt_tell, rt_go, rt_nil, rt_stop]
          first
            | exact none8 _ _ _ _ rfl
            | (split <;> exact none8 _ _ _ _ rfl)
        case stop  =>
          simp only [↓sA, sB, sC, if_true, if_false, forall_const, implies_true, forall_eq', false_imp_iff, oEq, oNe, eqT, oAdd, oNeg, oAbs, oMax2, oMin2, oInt, oLen, oIsN, oNotN, oIn, oNin, inT, eqF, oIsi, oIsi2, oList, oTuple, seqT, zp, enm, two, three, ioFind, ioCount, brOk, Bop.still, Bop.isI, T.ow, T.owl, T.nob, T.nobl, T.nfz, T.nfzl, T.fz, T.fzl, Bop.fit, Bop.res, Bop.bo, List.replicate, big, wipeE, reduceCtorEq, Nat.reduceAdd, Nat.reduceSub, Nat.reduceLT, Nat.reduceLeDiff, Int.reduceLT, Int.reduceLE, Int.reduceMul, Int.reducePow, Int.reduceToNat, Int.reduceAdd, Int.reduceSub, Int.reduceNeg, Int.reduceEq, Nat.reducePow, String.reduceEq, tx_len, tx_chars, tx_cps, tx_cut, w_bS, kBs_ap, isS_str, isS_br, w_ixS, kIxS_ap, s_empty, Row.ow, Row.nob, Row.nfz, Row.fz, hat, hany, hanyS, flat_ints, rt_set, rt_sum, rt_less, rt_tell, rt_go, rt_nil, rt_stop]
          first
            | exact none8 _ _ _ _ rfl
            | (split <;> exact none8 _ _ _ _ rfl)
        case go t =>
          obtain ⟨g1, g2, ⟨h1, h2, h3⟩, h4, h5⟩ := two t rfl rfl
          simp only [↓sA, sB, sC, if_true, if_false, forall_const, implies_true, forall_eq', false_imp_iff, oEq, oNe, eqT, oAdd, oNeg, oAbs, oMax2, oMin2, oInt, oLen, oIsN, oNotN, oIn, oNin, inT, eqF, oIsi, oIsi2, oList, oTuple, seqT, zp, enm, two, three, ioFind, ioCount, brOk, Bop.still, Bop.isI, T.ow, T.owl, T.nob, T.nobl, T.nfz, T.nfzl, T.fz, T.fzl, Bop.fit, Bop.res, Bop.bo, List.replicate, big, wipeE, reduceCtorEq, Nat.reduceAdd, Nat.reduceSub, Nat.reduceLT, Nat.reduceLeDiff, Int.reduceLT, Int.reduceLE, Int.reduceMul, Int.reducePow, Int.reduceToNat, Int.reduceAdd, Int.reduceSub, Int.reduceNeg, Int.reduceEq, Nat.reducePow, String.reduceEq, tx_len, tx_chars, tx_cps, tx_cut, w_bS, kBs_ap, isS_str, isS_br, w_ixS, kIxS_ap, s_empty, Row.ow, Row.nob, Row.nfz, Row.fz, hat, hany, hanyS, flat_ints, rt_set, rt_sum, rt_less, rt_tell, rt_go, rt_nil, rt_stop, w_bL, kBl_ap, w_lidx, at_labs, labsS_nob, labsS_nfz, labsS_fz, labsS_ow, labsS_len, h1, h2, h3]
          refine ⟨rfl, take_ok hv (by omega) (by omega) ?_⟩
          intro c v2 hc1 hc2 hv2
          simp only [↓sA, sB, sC, if_true, if_false, forall_const, implies_true, forall_eq', false_imp_iff, oEq, oNe, eqT, oAdd, oNeg, oAbs, oMax2, oMin2, oInt, oLen, oIsN, oNotN, oIn, oNin, inT, eqF, oIsi, oIsi2, oList, oTuple, seqT, zp, enm, two, three, ioFind, ioCount, brOk, Bop.still, Bop.isI, T.ow, T.owl, T.nob, T.nobl, T.nfz, T.nfzl, T.fz, T.fzl, Bop.fit, Bop.res, Bop.bo, List.replicate, big, wipeE, reduceCtorEq, Nat.reduceAdd, Nat.reduceSub, Nat.reduceLT, Nat.reduceLeDiff, Int.reduceLT, Int.reduceLE, Int.reduceMul, Int.reducePow, Int.reduceToNat, Int.reduceAdd, Int.reduceSub, Int.reduceNeg, Int.reduceEq, Nat.reducePow, String.reduceEq, tx_len, tx_chars, tx_cps, tx_cut, w_bS, kBs_ap, isS_str, isS_br, w_ixS, kIxS_ap]
          refine pick (fun x => ∃ g, x = T.str (tx g) ∧ (g, t) ∈ ls.zip sp) (al_cons ⟨g1, rfl, h4⟩ (al_cons ⟨g2, rfl, h5⟩ al_nil)) hc1 (by simp; omega) ?_
          rintro _ ⟨g, rfl, hg⟩
          simp only [↓sA, sB, sC, if_true, if_false, forall_const, implies_true, forall_eq', false_imp_iff, oEq, oNe, eqT, oAdd, oNeg, oAbs, oMax2, oMin2, oInt, oLen, oIsN, oNotN, oIn, oNin, inT, eqF, oIsi, oIsi2, oList, oTuple, seqT, zp, enm, two, three, ioFind, ioCount, brOk, Bop.still, Bop.isI, T.ow, T.owl, T.nob, T.nobl, T.nfz, T.nfzl, T.fz, T.fzl, Bop.fit, Bop.res, Bop.bo, List.replicate, big, wipeE, reduceCtorEq, Nat.reduceAdd, Nat.reduceSub, Nat.reduceLT, Nat.reduceLeDiff, Int.reduceLT, Int.reduceLE, Int.reduceMul, Int.reducePow, Int.reduceToNat, Int.reduceAdd, Int.reduceSub, Int.reduceNeg, Int.reduceEq, Nat.reducePow, String.reduceEq, tx_len, tx_chars, tx_cps, tx_cut, w_bS, kBs_ap, isS_str, isS_br, w_ixS, kIxS_ap]
          exact fin g v2 _ _ _ _ (l8 g t hg) (hv2.mono (by omega)) fun _ => hg
        case nil r t =>
          obtain ⟨g1, g2, ⟨h1, h2, h3⟩, h4, h5⟩ := two t rfl rfl
          simp only [↓sA, sB, sC, if_true, if_false, forall_const, implies_true, forall_eq', false_imp_iff, oEq, oNe, eqT, oAdd, oNeg, oAbs, oMax2, oMin2, oInt, oLen, oIsN, oNotN, oIn, oNin, inT, eqF, oIsi, oIsi2, oList, oTuple, seqT, zp, enm, two, three, ioFind, ioCount, brOk, Bop.still, Bop.isI, T.ow, T.owl, T.nob, T.nobl, T.nfz, T.nfzl, T.fz, T.fzl, Bop.fit, Bop.res, Bop.bo, List.replicate, big, wipeE, reduceCtorEq, Nat.reduceAdd, Nat.reduceSub, Nat.reduceLT, Nat.reduceLeDiff, Int.reduceLT, Int.reduceLE, Int.reduceMul, Int.reducePow, Int.reduceToNat, Int.reduceAdd, Int.reduceSub, Int.reduceNeg, Int.reduceEq, Nat.reducePow, String.reduceEq, tx_len, tx_chars, tx_cps, tx_cut, w_bS, kBs_ap, isS_str, isS_br, w_ixS, kIxS_ap, s_empty, Row.ow, Row.nob, Row.nfz, Row.fz, hat, hany, hanyS, flat_ints, rt_set, rt_sum, rt_less, rt_tell, rt_go, rt_nil, rt_stop, w_bL, kBl_ap, w_lidx, at_labs, labsS_nob, labsS_nfz, labsS_fz, labsS_ow, labsS_len, h1, h2, h3]
          refine ⟨rfl, take_ok hv (by omega) (by omega) ?_⟩
          intro c v2 hc1 hc2 hv2
          simp only [↓sA, sB, sC, if_true, if_false, forall_const, implies_true, forall_eq', false_imp_iff, oEq, oNe, eqT, oAdd, oNeg, oAbs, oMax2, oMin2, oInt, oLen, oIsN, oNotN, oIn, oNin, inT, eqF, oIsi, oIsi2, oList, oTuple, seqT, zp, enm, two, three, ioFind, ioCount, brOk, Bop.still, Bop.isI, T.ow, T.owl, T.nob, T.nobl, T.nfz, T.nfzl, T.fz, T.fzl, Bop.fit, Bop.res, Bop.bo, List.replicate, big, wipeE, reduceCtorEq, Nat.reduceAdd, Nat.reduceSub, Nat.reduceLT, Nat.reduceLeDiff, Int.reduceLT, Int.reduceLE, Int.reduceMul, Int.reducePow, Int.reduceToNat, Int.reduceAdd, Int.reduceSub, Int.reduceNeg, Int.reduceEq, Nat.reducePow, String.reduceEq, tx_len, tx_chars, tx_cps, tx_cut, w_bS, kBs_ap, isS_str, isS_br, w_ixS, kIxS_ap]
          refine pick (fun x => ∃ g, x = T.str (tx g) ∧ (g, t) ∈ ls.zip sp) (al_cons ⟨g1, rfl, h4⟩ (al_cons ⟨g2, rfl, h5⟩ al_nil)) hc1 (by simp; omega) ?_
          rintro _ ⟨g, rfl, hg⟩
          simp only [↓sA, sB, sC, if_true, if_false, forall_const, implies_true, forall_eq', false_imp_iff, oEq, oNe, eqT, oAdd, oNeg, oAbs, oMax2, oMin2, oInt, oLen, oIsN, oNotN, oIn, oNin, inT, eqF, oIsi, oIsi2, oList, oTuple, seqT, zp, enm, two, three, ioFind, ioCount, brOk, Bop.still, Bop.isI, T.ow, T.owl, T.nob, T.nobl, T.nfz, T.nfzl, T.fz, T.fzl, Bop.fit, Bop.res, Bop.bo, List.replicate, big, wipeE, reduceCtorEq, Nat.reduceAdd, Nat.reduceSub, Nat.reduceLT, Nat.reduceLeDiff, Int.reduceLT, Int.reduceLE, Int.reduceMul, Int.reducePow, Int.reduceToNat, Int.reduceAdd, Int.reduceSub, Int.reduceNeg, Int.reduceEq, Nat.reducePow, String.reduceEq, tx_len, tx_chars, tx_cps, tx_cut, w_bS, kBs_ap, isS_str, isS_br, w_ixS, kIxS_ap]
          exact fin g v2 _ _ _ _ (l8 g t hg) (hv2.mono (by omega)) fun _ => hg
    have s3 : ∀ (v : T) (x12 x13 : Option T) (hs : List (List Nat)), hs.Nodup → (∀ l, l ∈ hs ↔ (l, (D.length : Int)) ∈ ls.zip sp) → Tp (n + 51 + 2 * D.length) v → wp (S3 [some v, some (.lst false (rows.map Row.t)), some (.lst true (G.map T.int)), some (.int more), some (.lst false (labsS ls)), some (.lst false (sp.map T.int)), some (.lst true (linesT its)), some (.int D.length), some (.lst true (labsS hs)), x9, x10, none, x12, x13, none]) (kT J QS) := fun v x12 x13 hs hn1 hm1 hv => by
      have hhs : hs.length ≤ 130 := by
        have := nd_few hn1 (w := (ls.zip sp).map (·.1)) fun x hx => List.mem_map.mpr ⟨_, (hm1 x).mp hx, rfl⟩
        rw [List.length_map] at this
        omega
      have hWl := hW.len
      subst hS3
      simp only [↓sA, sB, sC, if_true, if_false, forall_const, implies_true, forall_eq', false_imp_iff, oEq, oNe, eqT, oAdd, oNeg, oAbs, oMax2, oMin2, oInt, oLen, oIsN, oNotN, oIn, oNin, inT, eqF, oIsi, oIsi2, oList, oTuple, seqT, zp, enm, two, three, ioFind, ioCount, brOk, Bop.still, Bop.isI, T.ow, T.owl, T.nob, T.nobl, T.nfz, T.nfzl, T.fz, T.fzl, Bop.fit, Bop.res, Bop.bo, List.replicate, big, wipeE, reduceCtorEq, Nat.reduceAdd, Nat.reduceSub, Nat.reduceLT, Nat.reduceLeDiff, Int.reduceLT, Int.reduceLE, Int.reduceMul, Int.reducePow, Int.reduceToNat, Int.reduceAdd, Int.reduceSub, Int.reduceNeg, Int.reduceEq, Nat.reducePow, String.reduceEq, tx_len, tx_chars, tx_cps, tx_cut, w_bS, kBs_ap, isS_str, isS_br, w_ixS, kIxS_ap, labsS_nob, labsS_fz, labsS_ow, labsS_len]
      refine ⟨by omega, ?_⟩
      rw [labsS_map]
      refine lc_map (h := fun l => T.str (tx (l ++ [58]))) (fun l hl Q' q' => ?_) ?_
      · have := isLab_mem (hPb l _ ((hm1 l).mp hl))
        simp only [↓sA, sB, sC, if_true, if_false, forall_const, implies_true, forall_eq', false_imp_iff, oEq, oNe, eqT, oAdd, oNeg, oAbs, oMax2, oMin2, oInt, oLen, oIsN, oNotN, oIn, oNin, inT, eqF, oIsi, oIsi2, oList, oTuple, seqT, zp, enm, two, three, ioFind, ioCount, brOk, Bop.still, Bop.isI, T.ow, T.owl, T.nob, T.nobl, T.nfz, T.nfzl, T.fz, T.fzl, Bop.fit, Bop.res, Bop.bo, List.replicate, big, wipeE, reduceCtorEq, Nat.reduceAdd, Nat.reduceSub, Nat.reduceLT, Nat.reduceLeDiff, Int.reduceLT, Int.reduceLE, Int.reduceMul, Int.reducePow, Int.reduceToNat, Int.reduceAdd, Int.reduceSub, Int.reduceNeg, Int.reduceEq, Nat.reducePow, String.reduceEq, tx_len, tx_chars, tx_cps, tx_cut, w_bS, kBs_ap, isS_str, isS_br, w_ixS, kIxS_ap, s_colon, tx_app]
        exact ⟨by omega, q'⟩
      have e : linesT its ++ hs.map (fun l => T.str (tx (l ++ [58]))) = linesT (its ++ hs.map It.lab) := by simp [linesT, It.line, Function.comp_def]
      have e0 : (linesT its).length ≤ 500 := by simp [linesT]; omega
      rw [← labsS_map]
      simp only [↓sA, sB, sC, if_true, if_false, forall_const, implies_true, forall_eq', false_imp_iff, oEq, oNe, eqT, oAdd, oNeg, oAbs, oMax2, oMin2, oInt, oLen, oIsN, oNotN, oIn, oNin, inT, eqF, oIsi, oIsi2, oList, oTuple, seqT, zp, enm, two, three, ioFind, ioCount, brOk, Bop.still, Bop.isI, T.ow, T.owl, T.nob, T.nobl, T.nfz, T.nfzl, T.fz, T.fzl, Bop.fit, Bop.res, Bop.bo, List.replicate, big, wipeE, reduceCtorEq, Nat.reduceAdd, Nat.reduceSub, Nat.reduceLT, Nat.reduceLeDiff, Int.reduceLT, Int.reduceLE, Int.reduceMul, Int.reducePow, Int.reduceToNat, Int.reduceAdd, Int.reduceSub, Int.reduceNeg, Int.reduceEq, Nat.reducePow, String.reduceEq, tx_len, tx_chars, tx_cps, tx_cut, w_bS, kBs_ap, isS_str, isS_br, w_ixS, kIxS_ap, lines_ow, labsS_fz, labsS_nob, e]
      refine ⟨by omega, ?_⟩
      refine s4 v _ _ _ _ _ (its ++ hs.map It.lab) (by simp; omega) hv fun g v x8 x9 x10 x12 x13 hv2 hg hg8 => ?_
      refine hJ _ ⟨false, v, _, _, _, _, _, _, _, ?_, ?_, hv2.mono (by simp; omega), rfl⟩
      · rw [List.length_append]
        exact hW.step (by omega) (by rw [hPf]; exact hlsn) hn1 hm1 hg
      · intro x hx
        rcases List.mem_append.mp hx with hx | hx
        · rcases List.mem_append.mp hx with hx | hx
          · exact hll x hx
          · obtain ⟨l, hl, rfl⟩ := List.mem_map.mp hx
            have := isLab_mem (hPb l _ ((hm1 l).mp hl))
            simp [It.line]
            omega
        · cases e : rows[D.length]? with
          | none => rw [e] at hx; cases hx
          | some r =>
            rw [e, List.mem_singleton] at hx
            subst hx
            exact line_of_row (hr r (List.mem_of_getElem? e)) (hg8 r e)
    cases o
    all_goals
      simp only [↓sA, sB, sC, if_true, if_false, forall_const, implies_true, forall_eq', false_imp_iff, oEq, oNe, eqT, oAdd, oNeg, oAbs, oMax2, oMin2, oInt, oLen, oIsN, oNotN, oIn, oNin, inT, eqF, oIsi, oIsi2, oList, oTuple, seqT, zp, enm, two, three, ioFind, ioCount, brOk, Bop.still, Bop.isI, T.ow, T.owl, T.nob, T.nobl, T.nfz, T.nfzl, T.fz, T.fzl, Bop.fit, Bop.res, Bop.bo, List.replicate, big, wipeE, reduceCtorEq, Nat.reduceAdd, Nat.reduceSub, Nat.reduceLT, Nat.reduceLeDiff, Int.reduceLT, Int.reduceLE, Int.reduceMul, Int.reducePow, Int.reduceToNat, Int.reduceAdd, Int.reduceSub, Int.reduceNeg, Int.reduceEq, Nat.reducePow, String.reduceEq, tx_len, tx_chars, tx_cps, tx_cut, w_bS, kBs_ap, isS_str, isS_br, w_ixS, kIxS_ap, labsS_nob, labsS_fz, labsS_ow, zip_labs]
      refine ⟨by omega, lc_filter (p := fun p : List Nat × Int => decide (p.2 = D.length)) (h := fun p => T.str (tx p.1)) (fun p hp Q' q' => ?_) ?_⟩
      · simp only [↓sA, sB, sC, if_true, if_false, forall_const, implies_true, forall_eq', false_imp_iff, oEq, oNe, eqT, oAdd, oNeg, oAbs, oMax2, oMin2, oInt, oLen, oIsN, oNotN, oIn, oNin, inT, eqF, oIsi, oIsi2, oList, oTuple, seqT, zp, enm, two, three, ioFind, ioCount, brOk, Bop.still, Bop.isI, T.ow, T.owl, T.nob, T.nobl, T.nfz, T.nfzl, T.fz, T.fzl, Bop.fit, Bop.res, Bop.bo, List.replicate, big, wipeE, reduceCtorEq, Nat.reduceAdd, Nat.reduceSub, Nat.reduceLT, Nat.reduceLeDiff, Int.reduceLT, Int.reduceLE, Int.reduceMul, Int.reducePow, Int.reduceToNat, Int.reduceAdd, Int.reduceSub, Int.reduceNeg, Int.reduceEq, Nat.reducePow, String.reduceEq, tx_len, tx_chars, tx_cps, tx_cut, w_bS, kBs_ap, isS_str, isS_br, w_ixS, kIxS_ap]
        exact iteP q'
      simp only [↓sA, sB, sC, if_true, if_false, forall_const, implies_true, forall_eq', false_imp_iff, oEq, oNe, eqT, oAdd, oNeg, oAbs, oMax2, oMin2, oInt, oLen, oIsN, oNotN, oIn, oNin, inT, eqF, oIsi, oIsi2, oList, oTuple, seqT, zp, enm, two, three, ioFind, ioCount, brOk, Bop.still, Bop.isI, T.ow, T.owl, T.nob, T.nobl, T.nfz, T.nfzl, T.fz, T.fzl, Bop.fit, Bop.res, Bop.bo, List.replicate, big, wipeE, reduceCtorEq, Nat.reduceAdd, Nat.reduceSub, Nat.reduceLT, Nat.reduceLeDiff, Int.reduceLT, Int.reduceLE, Int.reduceMul, Int.reducePow, Int.reduceToNat, Int.reduceAdd, Int.reduceSub, Int.reduceNeg, Int.reduceEq, Nat.reducePow, String.reduceEq, tx_len, tx_chars, tx_cps, tx_cut, w_bS, kBs_ap, isS_str, isS_br, w_ixS, kIxS_ap, hany, flat_ints]
      have eh : ((ls.zip sp).filter fun p => decide (p.2 = (D.length : Int))).map (fun p => T.str (tx p.1)) = labsS (((ls.zip sp).filter fun p => decide (p.2 = (D.length : Int))).map (·.1)) := by unfold labsS; rw [List.map_map]; rfl
      rw [eh]
      have hn1 : (((ls.zip sp).filter fun p => decide (p.2 = (D.length : Int))).map (·.1)).Nodup := by
        refine List.Nodup.sublist ?_ (by rw [hPf]; exact hlsn : ((ls.zip sp).map (·.1)).Nodup)
        exact List.Sublist.map _ List.filter_sublist
      have hm1 : ∀ l, l ∈ (((ls.zip sp).filter fun p => decide (p.2 = (D.length : Int))).map (·.1)) ↔ (l, (D.length : Int)) ∈ ls.zip sp := fun l => by
        constructor
        · intro h
          obtain ⟨⟨a, b⟩, h1, rfl⟩ := List.mem_map.mp h
          obtain ⟨h1, h2⟩ := List.mem_filter.mp h1
          have h2 : b = (D.length : Int) := of_decide_eq_true h2
          subst h2
          exact h1
        · intro h
          exact List.mem_map.mpr ⟨_, List.mem_filter.mpr ⟨h, by simp⟩, rfl⟩
      generalize (((ls.zip sp).filter fun p => decide (p.2 = (D.length : Int))).map (·.1)) = hs at *
      split
      · have er : (labsS hs).reverse = labsS hs.reverse := by unfold labsS; rw [List.map_reverse]
        have er2 : T.nfzl (labsS hs).reverse = true := by rw [er]; exact labsS_nfz
        refine take_ok hv (by omega) (by omega) ?_; intro c v2 hc1 hc2 hv2
        simp only [↓sA, sB, sC, if_true, if_false, forall_const, implies_true, forall_eq', false_imp_iff, oEq, oNe, eqT, oAdd, oNeg, oAbs, oMax2, oMin2, oInt, oLen, oIsN, oNotN, oIn, oNin, inT, eqF, oIsi, oIsi2, oList, oTuple, seqT, zp, enm, two, three, ioFind, ioCount, brOk, Bop.still, Bop.isI, T.ow, T.owl, T.nob, T.nobl, T.nfz, T.nfzl, T.fz, T.fzl, Bop.fit, Bop.res, Bop.bo, List.replicate, big, wipeE, reduceCtorEq, Nat.reduceAdd, Nat.reduceSub, Nat.reduceLT, Nat.reduceLeDiff, Int.reduceLT, Int.reduceLE, Int.reduceMul, Int.reducePow, Int.reduceToNat, Int.reduceAdd, Int.reduceSub, Int.reduceNeg, Int.reduceEq, Nat.reducePow, String.reduceEq, tx_len, tx_chars, tx_cps, tx_cut, w_bS, kBs_ap, isS_str, isS_br, w_ixS, kIxS_ap, w_rev, labsS_ow, labsS_nob, labsS_fz, labsS_nfz, er, er2]
        split
        · skip
          exact s3 _ _ _ hs.reverse (by unfold List.Nodup; rw [List.pairwise_reverse]; exact List.Pairwise.imp (fun h => Ne.symm h) hn1) (fun l => by rw [List.mem_reverse]; exact hm1 l) (hv2.mono (by omega))
        · exact s3 _ _ _ hs hn1 hm1 (hv2.mono (by omega))
      · exact s3 _ _ _ hs hn1 hm1 (hv.mono (by omega))
  · rintro _ ⟨o, v, x7, x8, x9, x10, x12, x13, its, hW, hll, hv, rfl⟩
    subst hQS
    rw [List.length_range, show ((rows.length : Int) + 1).toNat = rows.length + 1 by omega] at hW
    rw [List.length_range] at hv
    have hPb : ∀ l k, (l, k) ∈ ls.zip sp → isLab l = true := fun l k hk => hlsI l (by rw [← hPf]; exact List.mem_map.mpr ⟨_, hk, rfl⟩)
    obtain ⟨g1, g2⟩ := hW.good hrl hPb
    have hWl := hW.len
    have hPn : (ls.zip sp).length ≤ 130 := by rw [List.length_zip]; omega
    simp only [↓sA, sB, sC, if_true, if_false, forall_const, implies_true, forall_eq', false_imp_iff, oEq, oNe, eqT, oAdd, oNeg, oAbs, oMax2, oMin2, oInt, oLen, oIsN, oNotN, oIn, oNin, inT, eqF, oIsi, oIsi2, oList, oTuple, seqT, zp, enm, two, three, ioFind, ioCount, brOk, Bop.still, Bop.isI, T.ow, T.owl, T.nob, T.nobl, T.nfz, T.nfzl, T.fz, T.fzl, Bop.fit, Bop.res, Bop.bo, List.replicate, big, wipeE, reduceCtorEq, Nat.reduceAdd, Nat.reduceSub, Nat.reduceLT, Nat.reduceLeDiff, Int.reduceLT, Int.reduceLE, Int.reduceMul, Int.reducePow, Int.reduceToNat, Int.reduceAdd, Int.reduceSub, Int.reduceNeg, Int.reduceEq, Nat.reducePow, String.reduceEq, tx_len, tx_chars, tx_cps, tx_cut, w_bS, kBs_ap, isS_str, isS_br, w_ixS, kIxS_ap, lines_nob, lines_fz]
    refine join_lines (k := 60) hll (by omega) ?_
    simp only [↓sA, sB, sC, if_true, if_false, forall_const, implies_true, forall_eq', false_imp_iff, oEq, oNe, eqT, oAdd, oNeg, oAbs, oMax2, oMin2, oInt, oLen, oIsN, oNotN, oIn, oNin, inT, eqF, oIsi, oIsi2, oList, oTuple, seqT, zp, enm, two, three, ioFind, ioCount, brOk, Bop.still, Bop.isI, T.ow, T.owl, T.nob, T.nobl, T.nfz, T.nfzl, T.fz, T.fzl, Bop.fit, Bop.res, Bop.bo, List.replicate, big, wipeE, reduceCtorEq, Nat.reduceAdd, Nat.reduceSub, Nat.reduceLT, Nat.reduceLeDiff, Int.reduceLT, Int.reduceLE, Int.reduceMul, Int.reducePow, Int.reduceToNat, Int.reduceAdd, Int.reduceSub, Int.reduceNeg, Int.reduceEq, Nat.reducePow, String.reduceEq]
    exact q its v g1 g2 (by omega) hll (hv.mono (by omega))
end NP
end
section
namespace NP
open PySem L2 QL
theorem rows_plT {rows : List Row} (h : rows.length ≤ 1000) : Pl 11 (.lst false (rows.map Row.t)) := by
  refine pl_lst (by simp [big]; omega) fun x hx => ?_
  obtain ⟨r, _, rfl⟩ := List.mem_map.mp hx
  cases r <;> simp only [rt_set, rt_sum, rt_less, rt_tell, rt_go, rt_nil, rt_stop] <;> refine pl_tup (by simp [big]) ?_ <;> repeat (first | exact al_nil | refine al_cons (by first | exact pl_int | exact pl_str) ?_)
end NP
end
section
namespace NP
open PySem L2 QL
def b_law_k40 : SM :=
  sSeq (sFor (iRng rng1 (aCons (bE (eOp oAdd (aCons (bE (eC (.int 1))) (aCons (bE (eOp oMin2 (aCons (bE (eC (.int 8))) (aCons (bE (eOp oLen (aCons (bV 0) (aNil)))) (aNil))))) aNil)))) (aNil))) (gN 1)
    (sSeq (sAsg (eCall none none f__law_tape (aCons (bV 0) (aCons (bV 1) (aNil)))) (gN 2))
    (sSeq (sAsg (eCall (some 0) (some 2) f__law_rows (aCons (bIo 2) (aNil))) (gN 3))
    (sSeq (sIf (tV (eOp oEq (aCons (bE (eCall (some 0) (some 2) f__law_take (aCons (bIo 2) (aCons (bE (eC (.int 8))) (aNil))))) (aCons (bE (eC (.int 0))) aNil)))) (sAsg (eOp oMul (aCons (bV 3) (aCons (bE (eC (.int 4))) aNil))) (gN 3)) (sNil))
    (sSeq (sAsg (eCall (some 0) (some 2) f__law_text (aCons (bIo 2) (aCons (bE (eAl 3)) (aNil)))) (gN 4))
    (sFor (iRng rng1 (aCons (bE (eC (.int 2))) (aNil))) (gN 5)
    (sSeq (sAsg (eCall none none f_rows_from (aCons (bE (eAl 4)) (aNil))) (gN 6))
    (sSeq (sIf (tNotS (tV (eCall none none (f__law_same 12) (aCons (bV 6) (aCons (bE (eAl 3)) (aNil)))))) (sRet (eC (.bl false))) (sNil))
    (sDrop (eMut 6 T.isLst mAppend (aCons (bE (eTup (aCons (bE (eC (.str "stop"))) (aNil)))) (aNil))))))))))))
    (sRet (eAnd (eCall none none (f__law_same 12) (aCons (bE (eCall none none f_rows_from (aCons (bE (eC (.str ""))) (aNil)))) (aCons (bE (eLst (aNil))) (aNil)))) (eCall none none (f__law_same 12) (aCons (bE (eCall none none f_rows_from (aCons (bE (eC (.str "a:"))) (aNil)))) (aCons (bE (eLst (aNil))) (aNil))))))
def f_law_k40 : Fn := fnN 1 7 none b_law_k40
theorem its_text_len {its : List It} (h1 : its.length ≤ 1000) (h2 : ∀ x, x ∈ its → x.line.length ≤ 60) : (itText its).length ≤ 61000 := by
  have h3 := join_len (S := [10]) (its.map It.line)
  have h4 := sum_le (k := 60) (ls := (its.map It.line).map (·.length)) fun n hn => by
    obtain ⟨l, hl2, rfl⟩ := List.mem_map.mp hn
    obtain ⟨x, hx, rfl⟩ := List.mem_map.mp hl2
    exact h2 x hx
  simp only [List.length_map, List.length_cons, List.length_nil] at h3 h4
  unfold itText
  omega
theorem law_true (ns : List Int) (h : ns.length ≤ 63) : f_law_k40 [.lk (ns.map T.int)] = .ok (.bl true, none) := by
  suffices wp (f_law_k40 [.lk (ns.map T.int)]) fun r => r = (.bl true, none) by
    obtain ⟨r, e, rfl⟩ := this
    exact e
  have hs := scr h
  unfold f_law_k40 b_law_k40
  simp only [↓sA, sB, sC, if_true, if_false, forall_const, implies_true, forall_eq', false_imp_iff, oEq, oNe, eqT, oAdd, oNeg, oAbs, oMax2, oMin2, oInt, oLen, oIsN, oNotN, oIn, oNin, inT, eqF, oIsi, oIsi2, oList, oTuple, seqT, zp, enm, two, three, ioFind, ioCount, brOk, Bop.still, Bop.isI, T.ow, T.owl, T.nob, T.nobl, T.nfz, T.nfzl, T.fz, T.fzl, Bop.fit, Bop.res, Bop.bo, List.replicate, big, wipeE, reduceCtorEq, Nat.reduceAdd, Nat.reduceSub, Nat.reduceLT, Nat.reduceLeDiff, Int.reduceLT, Int.reduceLE, Int.reduceMul, Int.reducePow, Int.reduceToNat, Int.reduceAdd, Int.reduceSub, Int.reduceNeg, Int.reduceEq, Nat.reducePow, String.reduceEq]
  refine ⟨by split <;> omega, ?_⟩
  refine for2 (fun d r e => ∃ x1 x2 x3 x4 x5 x6, e = [some (.lk (ns.map T.int)), x1, x2, x3, x4, x5, x6]) ⟨_, _, _, _, _, _, rfl⟩ ?_ ?_
  · rintro d k r _ J hd ⟨x1, x2, x3, x4, x5, x6, rfl⟩ hJ
    have hk : k < 11 := by
      have : k ∈ List.range (1 + if (ns.length : Int) < 8 then (ns.length : Int) else 8).toNat := by rw [hd]; simp
      have := List.mem_range.mp this
      split at this <;> omega
    generalize hS : sSeq (sAsg (eCall _ _ f__law_text _) _) _ = S
    generalize hQS : kSeq (sRet (eAnd _ _)) _ = QS
    simp only [↓sA, sB, sC, if_true, if_false, forall_const, implies_true, forall_eq', false_imp_iff, oEq, oNe, eqT, oAdd, oNeg, oAbs, oMax2, oMin2, oInt, oLen, oIsN, oNotN, oIn, oNin, inT, eqF, oIsi, oIsi2, oList, oTuple, seqT, zp, enm, two, three, ioFind, ioCount, brOk, Bop.still, Bop.isI, T.ow, T.owl, T.nob, T.nobl, T.nfz, T.nfzl, T.fz, T.fzl, Bop.fit, Bop.res, Bop.bo, List.replicate, big, wipeE, reduceCtorEq, Nat.reduceAdd, Nat.reduceSub, Nat.reduceLT, Nat.reduceLeDiff, Int.reduceLT, Int.reduceLE, Int.reduceMul, Int.reducePow, Int.reduceToNat, Int.reduceAdd, Int.reduceSub, Int.reduceNeg, Int.reduceEq, Nat.reducePow, String.reduceEq, sO]
    refine tape_ok hs (by omega) fun tp htp => ?_
    simp only [↓sA, sB, sC, if_true, if_false, forall_const, implies_true, forall_eq', false_imp_iff, oEq, oNe, eqT, oAdd, oNeg, oAbs, oMax2, oMin2, oInt, oLen, oIsN, oNotN, oIn, oNin, inT, eqF, oIsi, oIsi2, oList, oTuple, seqT, zp, enm, two, three, ioFind, ioCount, brOk, Bop.still, Bop.isI, T.ow, T.owl, T.nob, T.nobl, T.nfz, T.nfzl, T.fz, T.fzl, Bop.fit, Bop.res, Bop.bo, List.replicate, big, wipeE, reduceCtorEq, Nat.reduceAdd, Nat.reduceSub, Nat.reduceLT, Nat.reduceLeDiff, Int.reduceLT, Int.reduceLE, Int.reduceMul, Int.reducePow, Int.reduceToNat, Int.reduceAdd, Int.reduceSub, Int.reduceNeg, Int.reduceEq, Nat.reducePow, String.reduceEq, sO]
    refine rows_ok htp (by omega) fun rows tp hrows hlen htp => ?_
    simp only [↓sA, sB, sC, if_true, if_false, forall_const, implies_true, forall_eq', false_imp_iff, oEq, oNe, eqT, oAdd, oNeg, oAbs, oMax2, oMin2, oInt, oLen, oIsN, oNotN, oIn, oNin, inT, eqF, oIsi, oIsi2, oList, oTuple, seqT, zp, enm, two, three, ioFind, ioCount, brOk, Bop.still, Bop.isI, T.ow, T.owl, T.nob, T.nobl, T.nfz, T.nfzl, T.fz, T.fzl, Bop.fit, Bop.res, Bop.bo, List.replicate, big, wipeE, reduceCtorEq, Nat.reduceAdd, Nat.reduceSub, Nat.reduceLT, Nat.reduceLeDiff, Int.reduceLT, Int.reduceLE, Int.reduceMul, Int.reducePow, Int.reduceToNat, Int.reduceAdd, Int.reduceSub, Int.reduceNeg, Int.reduceEq, Nat.reducePow, String.reduceEq, sO, Row.ow, Row.nob, Row.nfz, Row.fz]
    refine take_ok htp (by omega) (by omega) ?_; intro c u _ _ hu
    simp only [↓sA, sB, sC, if_true, if_false, forall_const, implies_true, forall_eq', false_imp_iff, oEq, oNe, eqT, oAdd, oNeg, oAbs, oMax2, oMin2, oInt, oLen, oIsN, oNotN, oIn, oNin, inT, eqF, oIsi, oIsi2, oList, oTuple, seqT, zp, enm, two, three, ioFind, ioCount, brOk, Bop.still, Bop.isI, T.ow, T.owl, T.nob, T.nobl, T.nfz, T.nfzl, T.fz, T.fzl, Bop.fit, Bop.res, Bop.bo, List.replicate, big, wipeE, reduceCtorEq, Nat.reduceAdd, Nat.reduceSub, Nat.reduceLT, Nat.reduceLeDiff, Int.reduceLT, Int.reduceLE, Int.reduceMul, Int.reducePow, Int.reduceToNat, Int.reduceAdd, Int.reduceSub, Int.reduceNeg, Int.reduceEq, Nat.reducePow, String.reduceEq, sO, Row.ow, Row.nob, Row.nfz, Row.fz]
    have rest : ∀ (rs : List Row) (o : Bool), (∀ r, r ∈ rs → r.ok 60) → (∀ r, r ∈ rs → r.ok rs.length) → rs.length ≤ 240 → wp (S [some (.lk (ns.map T.int)), some (.int k), some u, some (.lst o (rs.map Row.t)), x4, x5, x6]) (kT J QS) := fun rs o h1 h2 h3 => by
      subst hS
      cases o
      all_goals
        simp only [↓sA, sB, sC, if_true, if_false, forall_const, implies_true, forall_eq', false_imp_iff, oEq, oNe, eqT, oAdd, oNeg, oAbs, oMax2, oMin2, oInt, oLen, oIsN, oNotN, oIn, oNin, inT, eqF, oIsi, oIsi2, oList, oTuple, seqT, zp, enm, two, three, ioFind, ioCount, brOk, Bop.still, Bop.isI, T.ow, T.owl, T.nob, T.nobl, T.nfz, T.nfzl, T.fz, T.fzl, Bop.fit, Bop.res, Bop.bo, List.replicate, big, wipeE, reduceCtorEq, Nat.reduceAdd, Nat.reduceSub, Nat.reduceLT, Nat.reduceLeDiff, Int.reduceLT, Int.reduceLE, Int.reduceMul, Int.reducePow, Int.reduceToNat, Int.reduceAdd, Int.reduceSub, Int.reduceNeg, Int.reduceEq, Nat.reducePow, String.reduceEq, sO, Row.ow, Row.nob, Row.nfz, Row.fz]
        refine text_ok hu (by omega) h1 h2 (by omega) fun its v g1 g2 g3 g4 _ => ?_
        simp only [↓sA, sB, sC, if_true, if_false, forall_const, implies_true, forall_eq', false_imp_iff, oEq, oNe, eqT, oAdd, oNeg, oAbs, oMax2, oMin2, oInt, oLen, oIsN, oNotN, oIn, oNin, inT, eqF, oIsi, oIsi2, oList, oTuple, seqT, zp, enm, two, three, ioFind, ioCount, brOk, Bop.still, Bop.isI, T.ow, T.owl, T.nob, T.nobl, T.nfz, T.nfzl, T.fz, T.fzl, Bop.fit, Bop.res, Bop.bo, List.replicate, big, wipeE, reduceCtorEq, Nat.reduceAdd, Nat.reduceSub, Nat.reduceLT, Nat.reduceLeDiff, Int.reduceLT, Int.reduceLE, Int.reduceMul, Int.reducePow, Int.reduceToNat, Int.reduceAdd, Int.reduceSub, Int.reduceNeg, Int.reduceEq, Nat.reducePow, String.reduceEq, sO, Row.ow, Row.nob, Row.nfz, Row.fz]
        have gl := its_text_len g3 g4
        refine for2 (fun d r e => ∃ o x5 x6, e = [some (.lk (ns.map T.int)), some (.int k), some v, some (.lst o (rs.map Row.t)), some (.str (tx (itText its))), x5, x6]) ⟨_, _, _, rfl⟩ ?_ ?_
        · rintro d n r _ J2 _ ⟨o, x5, x6, rfl⟩ hJ2
          cases o
          all_goals
            simp only [↓sA, sB, sC, if_true, if_false, forall_const, implies_true, forall_eq', false_imp_iff, oEq, oNe, eqT, oAdd, oNeg, oAbs, oMax2, oMin2, oInt, oLen, oIsN, oNotN, oIn, oNin, inT, eqF, oIsi, oIsi2, oList, oTuple, seqT, zp, enm, two, three, ioFind, ioCount, brOk, Bop.still, Bop.isI, T.ow, T.owl, T.nob, T.nobl, T.nfz, T.nfzl, T.fz, T.fzl, Bop.fit, Bop.res, Bop.bo, List.replicate, big, wipeE, reduceCtorEq, Nat.reduceAdd, Nat.reduceSub, Nat.reduceLT, Nat.reduceLeDiff, Int.reduceLT, Int.reduceLE, Int.reduceMul, Int.reducePow, Int.reduceToNat, Int.reduceAdd, Int.reduceSub, Int.reduceNeg, Int.reduceEq, Nat.reducePow, String.reduceEq, sO, Row.ow, Row.nob, Row.nfz, Row.fz]
            refine rowsfrom_ok (out := rs) (by omega) (by rw [its_rows g1, g2]) ?_
            simp only [↓sA, sB, sC, if_true, if_false, forall_const, implies_true, forall_eq', false_imp_iff, oEq, oNe, eqT, oAdd, oNeg, oAbs, oMax2, oMin2, oInt, oLen, oIsN, oNotN, oIn, oNin, inT, eqF, oIsi, oIsi2, oList, oTuple, seqT, zp, enm, two, three, ioFind, ioCount, brOk, Bop.still, Bop.isI, T.ow, T.owl, T.nob, T.nobl, T.nfz, T.nfzl, T.fz, T.fzl, Bop.fit, Bop.res, Bop.bo, List.replicate, big, wipeE, reduceCtorEq, Nat.reduceAdd, Nat.reduceSub, Nat.reduceLT, Nat.reduceLeDiff, Int.reduceLT, Int.reduceLE, Int.reduceMul, Int.reducePow, Int.reduceToNat, Int.reduceAdd, Int.reduceSub, Int.reduceNeg, Int.reduceEq, Nat.reducePow, String.reduceEq, sO, Row.ow, Row.nob, Row.nfz, Row.fz]
            refine same12 (rows_plT (by omega)) ?_
            simp only [↓sA, sB, sC, if_true, if_false, forall_const, implies_true, forall_eq', false_imp_iff, oEq, oNe, eqT, oAdd, oNeg, oAbs, oMax2, oMin2, oInt, oLen, oIsN, oNotN, oIn, oNin, inT, eqF, oIsi, oIsi2, oList, oTuple, seqT, zp, enm, two, three, ioFind, ioCount, brOk, Bop.still, Bop.isI, T.ow, T.owl, T.nob, T.nobl, T.nfz, T.nfzl, T.fz, T.fzl, Bop.fit, Bop.res, Bop.bo, List.replicate, big, wipeE, reduceCtorEq, Nat.reduceAdd, Nat.reduceSub, Nat.reduceLT, Nat.reduceLeDiff, Int.reduceLT, Int.reduceLE, Int.reduceMul, Int.reducePow, Int.reduceToNat, Int.reduceAdd, Int.reduceSub, Int.reduceNeg, Int.reduceEq, Nat.reducePow, String.reduceEq, sO, Row.ow, Row.nob, Row.nfz, Row.fz]
            exact ⟨by omega, hJ2 _ ⟨_, _, _, rfl⟩⟩
        · rintro _ ⟨o, x5, x6, rfl⟩
          simp only [↓sA, sB, sC, if_true, if_false, forall_const, implies_true, forall_eq', false_imp_iff, oEq, oNe, eqT, oAdd, oNeg, oAbs, oMax2, oMin2, oInt, oLen, oIsN, oNotN, oIn, oNin, inT, eqF, oIsi, oIsi2, oList, oTuple, seqT, zp, enm, two, three, ioFind, ioCount, brOk, Bop.still, Bop.isI, T.ow, T.owl, T.nob, T.nobl, T.nfz, T.nfzl, T.fz, T.fzl, Bop.fit, Bop.res, Bop.bo, List.replicate, big, wipeE, reduceCtorEq, Nat.reduceAdd, Nat.reduceSub, Nat.reduceLT, Nat.reduceLeDiff, Int.reduceLT, Int.reduceLE, Int.reduceMul, Int.reducePow, Int.reduceToNat, Int.reduceAdd, Int.reduceSub, Int.reduceNeg, Int.reduceEq, Nat.reducePow, String.reduceEq]
          exact hJ _ ⟨_, _, _, _, _, _, rfl⟩
    have h60 : ∀ r, r ∈ rows → r.ok 60 := fun r hr => (hrows r hr).mono' (by omega)
    split
    · have e : (List.map (fun x : Row => x.t) rows ++ (List.map (fun x : Row => x.t) rows ++ (List.map (fun x : Row => x.t) rows ++ List.map (fun x : Row => x.t) rows))) = (rows ++ (rows ++ (rows ++ rows))).map Row.t := by simp
      rw [e]
      have hm : ∀ r, r ∈ rows ++ (rows ++ (rows ++ rows)) → r ∈ rows := fun r hr => by simpa using hr
      refine ⟨by omega, rest _ true (fun r hr => h60 r (hm r hr)) (fun r hr => (hrows r (hm r hr)).mono' (by simp; omega)) (by simp; omega)⟩
    · exact rest rows true h60 hrows (by omega)
  · rintro _ ⟨x1, x2, x3, x4, x5, x6, rfl⟩
    simp only [↓sA, sB, sC, if_true, if_false, forall_const, implies_true, forall_eq', false_imp_iff, oEq, oNe, eqT, oAdd, oNeg, oAbs, oMax2, oMin2, oInt, oLen, oIsN, oNotN, oIn, oNin, inT, eqF, oIsi, oIsi2, oList, oTuple, seqT, zp, enm, two, three, ioFind, ioCount, brOk, Bop.still, Bop.isI, T.ow, T.owl, T.nob, T.nobl, T.nfz, T.nfzl, T.fz, T.fzl, Bop.fit, Bop.res, Bop.bo, List.replicate, big, wipeE, reduceCtorEq, Nat.reduceAdd, Nat.reduceSub, Nat.reduceLT, Nat.reduceLeDiff, Int.reduceLT, Int.reduceLE, Int.reduceMul, Int.reducePow, Int.reduceToNat, Int.reduceAdd, Int.reduceSub, Int.reduceNeg, Int.reduceEq, Nat.reducePow, String.reduceEq, sO]
    have e1 : Str.ofString "" = tx [] := s_empty
    rw [e1]
    refine rowsfrom_ok (out := []) (by simp) (by rfl) ?_
    simp only [↓sA, sB, sC, if_true, if_false, forall_const, implies_true, forall_eq', false_imp_iff, oEq, oNe, eqT, oAdd, oNeg, oAbs, oMax2, oMin2, oInt, oLen, oIsN, oNotN, oIn, oNin, inT, eqF, oIsi, oIsi2, oList, oTuple, seqT, zp, enm, two, three, ioFind, ioCount, brOk, Bop.still, Bop.isI, T.ow, T.owl, T.nob, T.nobl, T.nfz, T.nfzl, T.fz, T.fzl, Bop.fit, Bop.res, Bop.bo, List.replicate, big, wipeE, reduceCtorEq, Nat.reduceAdd, Nat.reduceSub, Nat.reduceLT, Nat.reduceLeDiff, Int.reduceLT, Int.reduceLE, Int.reduceMul, Int.reducePow, Int.reduceToNat, Int.reduceAdd, Int.reduceSub, Int.reduceNeg, Int.reduceEq, Nat.reducePow, String.reduceEq, sO]
    refine same12 (rows_plT (rows := []) (by simp)) ?_
    simp only [↓sA, sB, sC, if_true, if_false, forall_const, implies_true, forall_eq', false_imp_iff, oEq, oNe, eqT, oAdd, oNeg, oAbs, oMax2, oMin2, oInt, oLen, oIsN, oNotN, oIn, oNin, inT, eqF, oIsi, oIsi2, oList, oTuple, seqT, zp, enm, two, three, ioFind, ioCount, brOk, Bop.still, Bop.isI, T.ow, T.owl, T.nob, T.nobl, T.nfz, T.nfzl, T.fz, T.fzl, Bop.fit, Bop.res, Bop.bo, List.replicate, big, wipeE, reduceCtorEq, Nat.reduceAdd, Nat.reduceSub, Nat.reduceLT, Nat.reduceLeDiff, Int.reduceLT, Int.reduceLE, Int.reduceMul, Int.reducePow, Int.reduceToNat, Int.reduceAdd, Int.reduceSub, Int.reduceNeg, Int.reduceEq, Nat.reducePow, String.reduceEq, sO]
    have e2 : Str.ofString "a:" = tx [97, 58] := by rw [tx_str]; rfl
    rw [e2]
    refine rowsfrom_ok (out := []) (by simp) (by decide) ?_
    simp only [↓sA, sB, sC, if_true, if_false, forall_const, implies_true, forall_eq', false_imp_iff, oEq, oNe, eqT, oAdd, oNeg, oAbs, oMax2, oMin2, oInt, oLen, oIsN, oNotN, oIn, oNin, inT, eqF, oIsi, oIsi2, oList, oTuple, seqT, zp, enm, two, three, ioFind, ioCount, brOk, Bop.still, Bop.isI, T.ow, T.owl, T.nob, T.nobl, T.nfz, T.nfzl, T.fz, T.fzl, Bop.fit, Bop.res, Bop.bo, List.replicate, big, wipeE, reduceCtorEq, Nat.reduceAdd, Nat.reduceSub, Nat.reduceLT, Nat.reduceLeDiff, Int.reduceLT, Int.reduceLE, Int.reduceMul, Int.reducePow, Int.reduceToNat, Int.reduceAdd, Int.reduceSub, Int.reduceNeg, Int.reduceEq, Nat.reducePow, String.reduceEq, sO]
    refine same12 (rows_plT (rows := []) (by simp)) ?_
    simp only [↓sA, sB, sC, if_true, if_false, forall_const, implies_true, forall_eq', false_imp_iff, oEq, oNe, eqT, oAdd, oNeg, oAbs, oMax2, oMin2, oInt, oLen, oIsN, oNotN, oIn, oNin, inT, eqF, oIsi, oIsi2, oList, oTuple, seqT, zp, enm, two, three, ioFind, ioCount, brOk, Bop.still, Bop.isI, T.ow, T.owl, T.nob, T.nobl, T.nfz, T.nfzl, T.fz, T.fzl, Bop.fit, Bop.res, Bop.bo, List.replicate, big, wipeE, reduceCtorEq, Nat.reduceAdd, Nat.reduceSub, Nat.reduceLT, Nat.reduceLeDiff, Int.reduceLT, Int.reduceLE, Int.reduceMul, Int.reducePow, Int.reduceToNat, Int.reduceAdd, Int.reduceSub, Int.reduceNeg, Int.reduceEq, Nat.reducePow, String.reduceEq, sO]
end NP
end
namespace Lk40
open PySem L2 QL NP
structure Tx (K : PySem.W.Frag) (mg : Str → Option Value) : Prop where
  c : SaysQ fa gl fn K
  at_number_word : mg "number_word" = some (.ref (He.ga K "number_word"))
  at_register_word : mg "register_word" = some (.ref (He.ga K "register_word"))
  at_is_label : mg "is_label" = some (.ref (He.ga K "is_label"))
  at_part_word : mg "part_word" = some (.ref (He.ga K "part_word"))
  at_sorts_of : mg "sorts_of" = some (.ref (He.ga K "sorts_of"))
  at_row_read : mg "row_read" = some (.ref (He.ga K "row_read"))
  at_rows_from : mg "rows_from" = some (.ref (He.ga K "rows_from"))
  at__law_cell_at : mg "_law_cell_at" = some (.ref (He.ga K "_law_cell_at"))
  at__law_tape : mg "_law_tape" = some (.ref (He.ga K "_law_tape"))
  at__law_take : mg "_law_take" = some (.ref (He.ga K "_law_take"))
  at__law_great : mg "_law_great" = some (.ref (He.ga K "_law_great"))
  at__law_rows : mg "_law_rows" = some (.ref (He.ga K "_law_rows"))
  at__law_same : mg "_law_same" = some (.ref (He.ga K "_law_same"))
  at__law_labels : mg "_law_labels" = some (.ref (He.ga K "_law_labels"))
  at__law_words : mg "_law_words" = some (.ref (He.ga K "_law_words"))
  at__law_any_labels : mg "_law_any_labels" = some (.ref (He.ga K "_law_any_labels"))
  at__law_text : mg "_law_text" = some (.ref (He.ga K "_law_text"))
  at_law : mg "law" = some (.ref (He.ga K "law"))
  at_Reading : mg "Reading" = some (.ref (He.ga K "Reading"))
  cf_Reading : ∀ al, ClsF ⟨He.ga K, al⟩ K "Reading" ["rows", "spots", "labels"]
  mk_Reading : Mk K (He.ga K "Reading") (He.fAd K ("Reading", some "__init__"))
  me_Reading_read : Meth K (He.ga K "Reading") "read" (He.fAd K ("Reading", some "read"))
  me_Reading_finished : Meth K (He.ga K "Reading") "finished" (He.fAd K ("Reading", some "finished"))
  f_abs : mg "abs" = none
  f_all : mg "all" = none
  f_bool : mg "bool" = none
  f_enumerate : mg "enumerate" = none
  f_int : mg "int" = none
  f_isinstance : mg "isinstance" = none
  f_len : mg "len" = none
  f_list : mg "list" = none
  f_max : mg "max" = none
  f_min : mg "min" = none
  f_range : mg "range" = none
  f_set : mg "set" = none
  f_sorted : mg "sorted" = none
  f_str : mg "str" = none
  f_tuple : mg "tuple" = none
  f_zip : mg "zip" = none
  g_FIGURES : ∀ al, Glb ⟨He.ga K, al⟩ K mg "FIGURES" (.str "0123456789")
  g_JUMPS : ∀ al, Glb ⟨He.ga K, al⟩ K mg "JUMPS" (.tup [(.str "go"), (.str "nil")])
  g_LETTERS : ∀ al, Glb ⟨He.ga K, al⟩ K mg "LETTERS" (.str "abcdefghijklmnopqrstuvwxyz")
  g_MOST_FIGURES : ∀ al, Glb ⟨He.ga K, al⟩ K mg "MOST_FIGURES" (.int 8)
  g_MOST_LETTERS : ∀ al, Glb ⟨He.ga K, al⟩ K mg "MOST_LETTERS" (.int 8)
  g_NAMES : ∀ al, Glb ⟨He.ga K, al⟩ K mg "NAMES" (.str "abcde")
theorem tx_mk {K : PySem.W.Frag} {h : Heap} {mg : Str → Option Value} (X : K.In h) (G : h.Ns mainGlobals mg) (c : SaysQ fa gl fn K) : Tx K mg :=
  ⟨c, He.glo_ok X G (c.fact 0 (f := .glo "number_word")), He.glo_ok X G (c.fact 1 (f := .glo "register_word")), He.glo_ok X G (c.fact 2 (f := .glo "is_label")), He.glo_ok X G (c.fact 3 (f := .glo "part_word")), He.glo_ok X G (c.fact 4 (f := .glo "sorts_of")), He.glo_ok X G (c.fact 5 (f := .glo "row_read")), He.glo_ok X G (c.fact 6 (f := .glo "rows_from")), He.glo_ok X G (c.fact 7 (f := .glo "_law_cell_at")), He.glo_ok X G (c.fact 8 (f := .glo "_law_tape")), He.glo_ok X G (c.fact 9 (f := .glo "_law_take")), He.glo_ok X G (c.fact 10 (f := .glo "_law_great")), He.glo_ok X G (c.fact 11 (f := .glo "_law_rows")), He.glo_ok X G (c.fact 12 (f := .glo "_law_same")), He.glo_ok X G (c.fact 13 (f := .glo "_law_labels")), He.glo_ok X G (c.fact 14 (f := .glo "_law_words")), He.glo_ok X G (c.fact 15 (f := .glo "_law_any_labels")), He.glo_ok X G (c.fact 16 (f := .glo "_law_text")), He.glo_ok X G (c.fact 17 (f := .glo "law")), He.glo_ok X G (c.fact 34 (f := .glo "Reading")), fun _ => ⟨He.cls_ok (c.fact 35 (f := .cls "Reading")), fun f hf => by
    rcases List.mem_cons.mp hf with rfl | hf
    · exact He.noat_ok (c.fact 36 (f := .noat "Reading" "rows"))
    rcases List.mem_cons.mp hf with rfl | hf
    · exact He.noat_ok (c.fact 37 (f := .noat "Reading" "spots"))
    rcases List.mem_cons.mp hf with rfl | hf
    · exact He.noat_ok (c.fact 38 (f := .noat "Reading" "labels"))
    cases hf⟩, He.mkr_ok (c.fact 39 (f := .mkr "Reading")), He.meth_ok (c.fact 40 (f := .meth "Reading" "read")), He.meth_ok (c.fact 41 (f := .meth "Reading" "finished")), He.free_ok X G (c.fact 18 (f := .free "abs")), He.free_ok X G (c.fact 19 (f := .free "all")), He.free_ok X G (c.fact 20 (f := .free "bool")), He.free_ok X G (c.fact 21 (f := .free "enumerate")), He.free_ok X G (c.fact 22 (f := .free "int")), He.free_ok X G (c.fact 23 (f := .free "isinstance")), He.free_ok X G (c.fact 24 (f := .free "len")), He.free_ok X G (c.fact 25 (f := .free "list")), He.free_ok X G (c.fact 26 (f := .free "max")), He.free_ok X G (c.fact 27 (f := .free "min")), He.free_ok X G (c.fact 28 (f := .free "range")), He.free_ok X G (c.fact 29 (f := .free "set")), He.free_ok X G (c.fact 30 (f := .free "sorted")), He.free_ok X G (c.fact 31 (f := .free "str")), He.free_ok X G (c.fact 32 (f := .free "tuple")), He.free_ok X G (c.fact 33 (f := .free "zip")), fun _ => glB_ok X G (c.glob 0 (p := ("FIGURES", .str "0123456789"))), fun _ => glB_ok X G (c.glob 1 (p := ("JUMPS", .tup [(.str "go"), (.str "nil")]))), fun _ => glB_ok X G (c.glob 2 (p := ("LETTERS", .str "abcdefghijklmnopqrstuvwxyz"))), fun _ => glB_ok X G (c.glob 3 (p := ("MOST_FIGURES", .int 8))), fun _ => glB_ok X G (c.glob 4 (p := ("MOST_LETTERS", .int 8))), fun _ => glB_ok X G (c.glob 5 (p := ("NAMES", .str "abcde")))⟩
section
variable {P : Program} {w : World} {K : PySem.W.Frag} {mg : Str → Option Value} {base : Heap} {al : Addr}
theorem sc_number_word : FnScope ["word", "sign"] ["word"] (defScope s_number_word) := ⟨rfl, rfl, rfl, by decide +kernel, rfl, by decide +kernel, by decide +kernel⟩
theorem D_number_word (tx : Tx K mg) : Def ⟨He.ga K, al⟩ P w K mg base 1 "number_word" ["word"] none f_number_word := by
    obtain ⟨fd, F⟩ := tx.c.def_ 0 (d := dGlob "number_word" s_number_word)
    have hN := sc_number_word.nd
    refine def_mk (k := 0) F tx.at_number_word sc_number_word rfl rfl (fun _ _ _ _ _ _ us hl => match us, hl with | [_], _ => rfl) fun cdv A outer s H E hr => ?_
    delta b_number_word
    exact (ss_cons (s_if (md := []) (t_w (w_or (t_not (t_chain (q := fun i j => decide (i ≤ j)) (q' := fun i j => decide (i ≤ j)) op_le op_le (d_int) (d_callB call_len s_len boot_len_ tx.f_len (a_cons (b_v 0) (a_nil))) (d_gl (tx.g_MOST_FIGURES _)))) (w_or1 (t_not (t_val (d_callB (cr_all rfl) s_all boot_all_ tx.f_all (a_cons (b_e (d_lc [("sign", 1)] hN (i_seq (b_v 0)) (by show blkC ["word", "sign"] (defScope s_number_word) _ _ = true; decide +kernel) (fun _ _ _ _ _ => g_name 1 hN) (fun _ _ _ _ _ => c_yes) (fun _ _ _ _ _ => d_cmp op_inA s_in (b_v 1) (b_e (d_gl (tx.g_FIGURES _)))))) (a_nil)))))))) (ss_one (s_ret (md := []) (d_non))) (ss_nil))
    (ss_cons (s_if (md := []) (t_w (w_and (t_cmp (op_eqA hr.toRoom.units) s_eq (b_e (d_ix (b_v 0) (b_e (d_int)))) (b_e (d_str))) (w_and1 (t_cmp (op_neA hr.toRoom.units) s_ne (b_v 0) (b_e (d_str)))))) (ss_one (s_ret (md := []) (d_non))) (ss_nil))
    (ss_one (s_ret (md := []) (d_callTy call_int_str s_intS boot_int_ tx.f_int (a_cons (b_v 0) (a_nil)))))))
theorem sc_register_word : FnScope ["word"] ["word"] (defScope s_register_word) := ⟨rfl, rfl, rfl, by decide +kernel, rfl, by decide +kernel, by decide +kernel⟩
theorem D_register_word (tx : Tx K mg) : Def ⟨He.ga K, al⟩ P w K mg base 1 "register_word" ["word"] none f_register_word := by
    obtain ⟨fd, F⟩ := tx.c.def_ 1 (d := dGlob "register_word" s_register_word)
    have hN := sc_register_word.nd
    refine def_mk (k := 0) F tx.at_register_word sc_register_word rfl rfl (fun _ _ _ _ _ _ us hl => match us, hl with | [_], _ => rfl) fun cdv A outer s H E hr => ?_
    delta b_register_word
    exact (ss_cons (s_if (md := []) (t_w (w_or (t_cmp (op_neA hr.toRoom.units) s_ne (b_e (d_callB call_len s_len boot_len_ tx.f_len (a_cons (b_v 0) (a_nil)))) (b_e (d_int))) (w_or1 (t_cmp op_ninA s_nin (b_v 0) (b_e (d_gl (tx.g_NAMES _))))))) (ss_one (s_ret (md := []) (d_non))) (ss_nil))
    (ss_one (s_ret (md := []) (d_sidx (b_e (d_gl (tx.g_NAMES _))) (b_v 0)))))
theorem sc_is_label : FnScope ["word", "sign"] ["word"] (defScope s_is_label) := ⟨rfl, rfl, rfl, by decide +kernel, rfl, by decide +kernel, by decide +kernel⟩
theorem D_is_label (tx : Tx K mg) : Def ⟨He.ga K, al⟩ P w K mg base 1 "is_label" ["word"] none f_is_label := by
    obtain ⟨fd, F⟩ := tx.c.def_ 2 (d := dGlob "is_label" s_is_label)
    have hN := sc_is_label.nd
    refine def_mk (k := 0) F tx.at_is_label sc_is_label rfl rfl (fun _ _ _ _ _ _ us hl => match us, hl with | [_], _ => rfl) fun cdv A outer s H E hr => ?_
    delta b_is_label
    exact (ss_one (s_ret (md := []) (d_and (d_chain (q := fun i j => decide (i ≤ j)) (q' := fun i j => decide (i ≤ j)) op_le op_le (d_int) (d_callB call_len s_len boot_len_ tx.f_len (a_cons (b_v 0) (a_nil))) (d_gl (tx.g_MOST_LETTERS _))) (d_one (d_callB (cr_all rfl) s_all boot_all_ tx.f_all (a_cons (b_e (d_lc [("sign", 1)] hN (i_seq (b_v 0)) (by show blkC ["word", "sign"] (defScope s_is_label) _ _ = true; decide +kernel) (fun _ _ _ _ _ => g_name 1 hN) (fun _ _ _ _ _ => c_yes) (fun _ _ _ _ _ => d_cmp op_inA s_in (b_v 1) (b_e (d_gl (tx.g_LETTERS _)))))) (a_nil)))))))
theorem sc_part_word : FnScope ["sort", "word"] ["sort", "word"] (defScope s_part_word) := ⟨rfl, rfl, rfl, by decide +kernel, rfl, by decide +kernel, by decide +kernel⟩
theorem D_part_word (tx : Tx K mg) : Def ⟨He.ga K, al⟩ P w K mg base 2 "part_word" ["sort", "word"] none f_part_word := by
    obtain ⟨fd, F⟩ := tx.c.def_ 3 (d := dGlob "part_word" s_part_word)
    have D_register_word := D_register_word (P := P) (w := w) (base := base) (al := al) tx
    have D_number_word := D_number_word (P := P) (w := w) (base := base) (al := al) tx
    have D_is_label := D_is_label (P := P) (w := w) (base := base) (al := al) tx
    have hN := sc_part_word.nd
    refine def_mk (k := 1) F tx.at_part_word sc_part_word rfl rfl (fun _ _ _ _ _ _ us hl => match us, hl with | [_, _], _ => rfl) fun cdv A outer s H E hr => ?_
    delta b_part_word
    exact (ss_cons (s_if (md := []) (t_cmp (op_eqA hr.toRoom.units) s_eq (b_v 0) (b_e (d_str))) (ss_one (s_ret (md := []) (d_call D_register_word hr [] none (a_cons (b_v 1) (a_nil))))) (ss_nil))
    (ss_cons (s_if (md := []) (t_cmp (op_eqA hr.toRoom.units) s_eq (b_v 0) (b_e (d_str))) (ss_one (s_ret (md := []) (d_call D_number_word hr [] none (a_cons (b_v 1) (a_nil))))) (ss_nil))
    (ss_one (s_ret (md := []) (d_if (t_val (d_call D_is_label hr [] none (a_cons (b_v 1) (a_nil)))) (d_var 1) (d_non))))))
theorem sc_sorts_of : FnScope ["word", "sorts"] ["word"] (defScope s_sorts_of) := ⟨rfl, rfl, rfl, by decide +kernel, rfl, by decide +kernel, by decide +kernel⟩
theorem D_sorts_of (tx : Tx K mg) : Def ⟨He.ga K, al⟩ P w K mg base 1 "sorts_of" ["word"] none f_sorts_of := by
    obtain ⟨fd, F⟩ := tx.c.def_ 4 (d := dGlob "sorts_of" s_sorts_of)
    have hN := sc_sorts_of.nd
    refine def_mk (k := 0) F tx.at_sorts_of sc_sorts_of rfl rfl (fun _ _ _ _ _ _ us hl => match us, hl with | [_], _ => rfl) fun cdv A outer s H E hr => ?_
    delta b_sorts_of
    exact (ss_cons (s_set (md := []) 1 hN (d_disp (dp_cons (k := .inr "set") pe_str (d_tup (a_cons (b_e (d_str)) (a_cons (b_e (d_str)) (a_nil)))) (dp_cons (k := .inr "sum") pe_str (d_tup (a_cons (b_e (d_str)) (a_cons (b_e (d_str)) (a_nil)))) (dp_cons (k := .inr "less") pe_str (d_tup (a_cons (b_e (d_str)) (a_cons (b_e (d_str)) (a_nil)))) (dp_nil))))))
    (ss_cons (s_expr (md := [1]) (d_mutD 1 PySem.F.slot_dict_update PySem.F.type_dict_update mt_dupdate s_upd [] (a_cons (b_e (d_disp (dp_cons (k := .inr "tell") pe_str (d_tup (a_cons (b_e (d_str)) (a_nil))) (dp_cons (k := .inr "go") pe_str (d_tup (a_cons (b_e (d_str)) (a_nil))) (dp_cons (k := .inr "nil") pe_str (d_tup (a_cons (b_e (d_str)) (a_cons (b_e (d_str)) (a_nil)))) (dp_cons (k := .inr "stop") pe_str (d_tup (a_nil)) (dp_nil))))))) (a_nil))))
    (ss_one (s_ret (md := []) (d_dget2 (hu_of hr.toRoom) 1 (b_v 0) (b_e (d_non)))))))
theorem sc_row_read : FnScope ["text", "words", "sorts", "parts", "sort", "word"] ["text"] (defScope s_row_read) := ⟨rfl, rfl, rfl, by decide +kernel, rfl, by decide +kernel, by decide +kernel⟩
theorem D_row_read (tx : Tx K mg) : Def ⟨He.ga K, al⟩ P w K mg base 3 "row_read" ["text"] none f_row_read := by
    obtain ⟨fd, F⟩ := tx.c.def_ 5 (d := dGlob "row_read" s_row_read)
    have D_sorts_of := D_sorts_of (P := P) (w := w) (base := base) (al := al) tx
    have D_part_word := D_part_word (P := P) (w := w) (base := base) (al := al) tx
    have hN := sc_row_read.nd
    refine def_mk (k := 2) F tx.at_row_read sc_row_read rfl rfl (fun _ _ _ _ _ _ us hl => match us, hl with | [_], _ => rfl) fun cdv A outer s H E hr => ?_
    delta b_row_read
    exact (ss_cons (s_set (md := []) 1 hN (d_splitV (b_v 0) (b_e (d_str))))
    (ss_cons (s_set (md := []) 2 hN (d_call D_sorts_of hr [] none (a_cons (b_e (d_ix (b_v 1) (b_e (d_int)))) (a_nil))))
    (ss_cons (s_if (md := []) (t_w (w_or (t_cmp op_isN s_isN (b_v 2) (b_e (d_non))) (w_or1 (t_cmp (op_neA hr.toRoom.units) s_ne (b_e (d_callB call_len s_len boot_len_ tx.f_len (a_cons (b_v 2) (a_nil)))) (b_e (d_bin op_sub s_sub (b_e (d_callB call_len s_len boot_len_ tx.f_len (a_cons (b_v 1) (a_nil)))) (b_e (d_int)))))))) (ss_one (s_ret (md := []) (d_non))) (ss_nil))
    (ss_cons (s_setLc (md := [2]) 3 [("sort", 4), ("word", 5)] hN (i_zip tx.f_zip (a_cons (b_e (d_al 2)) (a_cons (b_e (d_sl10 (b_v 1) (b_e (d_int)))) (a_nil)))) (by show blkC ["text", "words", "sorts", "parts", "sort", "word"] (defScope s_row_read) _ _ = true; decide +kernel) (fun _ _ _ _ _ => g_tup (gs_cons (g_name 4 hN) (gs_cons (g_name 5 hN) (gs_nil)))) (fun _ _ _ _ _ => c_yes) (fun _ _ _ _ _ => d_call D_part_word hr [] none (a_cons (b_v 4) (a_cons (b_v 5) (a_nil)))) (sw_true rfl rfl rfl (by decide +kernel)))
    (ss_one (s_ret (md := []) (d_if (t_cmp op_inA s_in (b_e (d_non)) (b_v 3)) (d_non) (d_bin op_addA s_add (b_e (d_tup (a_cons (b_e (d_ix (b_v 1) (b_e (d_int)))) (a_nil)))) (b_e (d_callTy call_tupleN s_tuple boot_tuple_ tx.f_tuple (a_cons (b_v 3) (a_nil))))))))))))
theorem sc_Reading_init : FnScope ["self"] ["self"] (defScope s_Reading_init) := ⟨rfl, rfl, rfl, by decide +kernel, rfl, by decide +kernel, by decide +kernel⟩
theorem D_Reading_init (tx : Tx K mg) : Mkr ⟨He.ga K, al⟩ P w K mg base 1 "Reading" ["self"] f_Reading_init := by
    obtain ⟨fd, F⟩ := tx.c.def_ 6 (d := dMeth "Reading" "__init__" s_Reading_init)
    have hN := sc_Reading_init.nd
    refine (fun GB => ⟨⟨_, fd, tx.mk_Reading, GB⟩, tx.at_Reading⟩) (fn_ok (ca := ⟨He.ga K, al⟩) (P := P) (w := w) (mg := mg) (base := base) (k := 0) (body := b_Reading_init) F sc_Reading_init rfl rfl (fun _ _ _ _ _ _ us hl => match us, hl with | [_], _ => rfl) fun cdv A outer s H E hr => ?_)
    delta b_Reading_init
    exact (ss_cons (s_fld (md := []) 0 (tx.cf_Reading _) (d_lst (a_nil)))
    (ss_cons (s_fld (md := []) 0 (tx.cf_Reading _) (d_lst (a_nil)))
    (ss_one (s_fld (md := []) 0 (tx.cf_Reading _) (d_dnew)))))
theorem sc_Reading_read : FnScope ["self", "text", "spot", "label", "row"] ["self", "text", "spot"] (defScope s_Reading_read) := ⟨rfl, rfl, rfl, by decide +kernel, rfl, by decide +kernel, by decide +kernel⟩
theorem D_Reading_read (tx : Tx K mg) : Mth ⟨He.ga K, al⟩ P w K mg base 4 "Reading" "read" ["self", "text", "spot"] f_Reading_read := by
    obtain ⟨fd, F⟩ := tx.c.def_ 7 (d := dMeth "Reading" "read" s_Reading_read)
    have D_row_read := fun al => D_row_read (P := P) (w := w) (base := base) (al := al) tx
    have D_is_label := fun al => D_is_label (P := P) (w := w) (base := base) (al := al) tx
    have hN := sc_Reading_read.nd
    refine (fun GB => ⟨_, fd, (tx.cf_Reading al).cls, tx.me_Reading_read, GB⟩) (fn_ok (ca := ⟨He.ga K, al⟩) (P := P) (w := w) (mg := mg) (base := base) (k := 3) (body := b_Reading_read) F sc_Reading_read rfl rfl (fun _ _ _ _ _ _ us hl => match us, hl with | [_, _, _], _ => rfl) fun cdv A outer s H E hr => ?_)
    delta b_Reading_read
    exact (ss_cons (s_set (md := []) 3 hN (d_sl01 (b_v 1) (b_e (d_un un_neg s_neg (b_e (d_int))))))
    (ss_cons (s_if (md := [3]) (t_w (w_and (t_cmp (op_eqA hr.toRoom.units) s_eq (b_e (d_sl10 (b_v 1) (b_e (d_un un_neg s_neg (b_e (d_int)))))) (b_e (d_str))) (w_and1 (t_val (d_call (D_is_label _) hr [3] none (a_cons (b_e (d_al 3)) (a_nil))))))) (ss_cons (s_if (md := []) (t_din (hu_of hr.toRoom) (b_v 3) (b_p (p_fd (tx.cf_Reading _) (p_name 0)))) (ss_one (s_raise)) (ss_nil))
    (ss_cons (s_setkyP (md := []) (hu_of hr.toRoom) (p_fd (tx.cf_Reading _) (p_name 0)) (d_var 3) (d_callB call_len s_len boot_len_ tx.f_len (a_cons (b_p (p_fd (tx.cf_Reading _) (p_name 0))) (a_nil))))
    (ss_one (s_retN)))) (ss_nil))
    (ss_cons (s_set (md := []) 4 hN (d_call (D_row_read _) hr [] none (a_cons (b_v 1) (a_nil))))
    (ss_cons (s_if (md := []) (t_cmp op_isN s_isN (b_v 4) (b_e (d_non))) (ss_one (s_raise)) (ss_nil))
    (ss_cons (s_expr (md := [0, 4]) (d_mutP PySem.F.slot_list_append PySem.F.type_list_append mt_append s_append [4] (p_fd (tx.cf_Reading _) (p_name 0)) (a_cons (b_e (d_al 4)) (a_nil))))
    (ss_one (s_expr (md := [0]) (d_mutP PySem.F.slot_list_append PySem.F.type_list_append mt_append s_append [] (p_fd (tx.cf_Reading _) (p_name 0)) (a_cons (b_e (d_var 2)) (a_nil))))))))))
theorem sc_Reading_finished : FnScope ["self", "told", "row", "spot"] ["self"] (defScope s_Reading_finished) := ⟨rfl, rfl, rfl, by decide +kernel, rfl, by decide +kernel, by decide +kernel⟩
theorem D_Reading_finished (tx : Tx K mg) : Mth ⟨He.ga K, al⟩ P w K mg base 1 "Reading" "finished" ["self"] f_Reading_finished := by
    obtain ⟨fd, F⟩ := tx.c.def_ 8 (d := dMeth "Reading" "finished" s_Reading_finished)
    have hN := sc_Reading_finished.nd
    refine (fun GB => ⟨_, fd, (tx.cf_Reading al).cls, tx.me_Reading_finished, GB⟩) (fn_ok (ca := ⟨He.ga K, al⟩) (P := P) (w := w) (mg := mg) (base := base) (k := 0) (body := b_Reading_finished) F sc_Reading_finished rfl rfl (fun _ _ _ _ _ _ us hl => match us, hl with | [_], _ => rfl) fun cdv A outer s H E hr => ?_)
    delta b_Reading_finished
    exact (ss_cons (s_set (md := []) 1 hN (d_lst (a_nil)))
    (ss_cons (s_for (md := [0]) [2, 3] PassesOwn.never (i_zip tx.f_zip (a_cons (b_e (d_alP (p_fd (tx.cf_Reading _) (p_name 0)))) (a_cons (b_e (d_alP (p_fd (tx.cf_Reading _) (p_name 0)))) (a_nil)))) (g_tup (gs_cons (g_name 2 hN) (gs_cons (g_name 3 hN) (gs_nil))))
    (ss_cons (s_if (md := []) (t_cmp op_inA s_in (b_e (d_ix (b_v 2) (b_e (d_int)))) (b_e (d_gl (tx.g_JUMPS _)))) (ss_cons (s_if (md := []) (t_dnin (hu_of hr.toRoom) (b_e (d_ix (b_v 2) (b_e (d_un un_neg s_neg (b_e (d_int)))))) (b_p (p_fd (tx.cf_Reading _) (p_name 0)))) (ss_one (s_raise)) (ss_nil))
    (ss_one (s_set (md := []) 2 hN (d_bin op_addA s_add (b_e (d_sl01 (b_v 2) (b_e (d_un un_neg s_neg (b_e (d_int)))))) (b_e (d_tup (a_cons (b_e (d_dix (hu_of hr.toRoom) (b_p (p_fd (tx.cf_Reading _) (p_name 0))) (b_e (d_ix (b_v 2) (b_e (d_un un_neg s_neg (b_e (d_int)))))))) (a_nil)))))))) (ss_nil))
    (ss_one (s_expr (md := [1, 2]) (d_mut 1 PySem.F.slot_list_append PySem.F.type_list_append mt_append s_append [2] (a_cons (b_e (d_al 2)) (a_nil)))))))
    (ss_one (s_ret (md := [1]) (d_mv 1)))))
theorem sc_rows_from : FnScope ["text", "reading", "spot", "row"] ["text"] (defScope s_rows_from) := ⟨rfl, rfl, rfl, by decide +kernel, rfl, by decide +kernel, by decide +kernel⟩
theorem D_rows_from (tx : Tx K mg) : Def ⟨He.ga K, al⟩ P w K mg base 5 "rows_from" ["text"] none f_rows_from := by
    obtain ⟨fd, F⟩ := tx.c.def_ 9 (d := dGlob "rows_from" s_rows_from)
    have D_Reading_init := D_Reading_init (P := P) (w := w) (base := base) (al := al) tx
    have D_Reading_finished := D_Reading_finished (P := P) (w := w) (base := base) (al := al) tx
    have D_Reading_read := D_Reading_read (P := P) (w := w) (base := base) (al := al) tx
    have hN := sc_rows_from.nd
    refine def_mk (k := 4) F tx.at_rows_from sc_rows_from rfl rfl (fun _ _ _ _ _ _ us hl => match us, hl with | [_], _ => rfl) fun cdv A outer s H E hr => ?_
    delta b_rows_from
    exact (ss_cons (s_set (md := []) 1 hN (d_make0 D_Reading_init hr))
    (ss_cons (s_for (md := []) [2, 3] PassesOwn.never (i_enum tx.f_enumerate (a_cons (b_e (d_if (t_cmp (op_neA hr.toRoom.units) s_ne (b_v 0) (b_e (d_str))) (d_splitV (b_v 0) (b_e (d_str))) (d_lst (a_nil)))) (a_nil))) (g_tup (gs_cons (g_name 2 hN) (gs_cons (g_name 3 hN) (gs_nil))))
    (ss_one (s_expr (md := [1]) (d_meth D_Reading_read hr [] 1 (a_cons (b_v 3) (a_cons (b_v 2) (a_nil)))))))
    (ss_one (s_ret (md := [1]) (d_meth0 D_Reading_finished hr 1)))))
theorem sc__law_cell_at : FnScope ["_law_script", "_law_k"] ["_law_script", "_law_k"] (defScope s__law_cell_at) := ⟨rfl, rfl, rfl, by decide +kernel, rfl, by decide +kernel, by decide +kernel⟩
theorem D__law_cell_at (tx : Tx K mg) : Def ⟨He.ga K, al⟩ P w K mg base 1 "_law_cell_at" ["_law_script", "_law_k"] none f__law_cell_at := by
    obtain ⟨fd, F⟩ := tx.c.def_ 10 (d := dGlob "_law_cell_at" s__law_cell_at)
    have hN := sc__law_cell_at.nd
    refine def_mk (k := 0) F tx.at__law_cell_at sc__law_cell_at rfl rfl (fun _ _ _ _ _ _ us hl => match us, hl with | [_, _], _ => rfl) fun cdv A outer s H E hr => ?_
    delta b__law_cell_at
    exact (ss_one (s_ret (md := []) (d_if (t_cmp op_lt s_lt (b_v 1) (b_e (d_callB call_len s_len boot_len_ tx.f_len (a_cons (b_v 0) (a_nil))))) (d_ix (b_v 0) (b_v 1)) (d_int))))
theorem sc__law_tape : FnScope ["_law_script", "_law_k", "_law_cell"] ["_law_script", "_law_k"] (defScope s__law_tape) := ⟨rfl, rfl, rfl, by decide +kernel, rfl, by decide +kernel, by decide +kernel⟩
theorem D__law_tape (tx : Tx K mg) : Def ⟨He.ga K, al⟩ P w K mg base 2 "_law_tape" ["_law_script", "_law_k"] none f__law_tape := by
    obtain ⟨fd, F⟩ := tx.c.def_ 11 (d := dGlob "_law_tape" s__law_tape)
    have D__law_cell_at := D__law_cell_at (P := P) (w := w) (base := base) (al := al) tx
    have hN := sc__law_tape.nd
    refine def_mk (k := 1) F tx.at__law_tape sc__law_tape rfl rfl (fun _ _ _ _ _ _ us hl => match us, hl with | [_, _], _ => rfl) fun cdv A outer s H E hr => ?_
    delta b__law_tape
    exact (ss_cons (s_set (md := []) 2 hN (d_call D__law_cell_at hr [] none (a_cons (b_v 0) (a_cons (b_v 1) (a_nil)))))
    (ss_one (s_ret (md := []) (d_lst (a_cons (b_e (d_bin op_mulA s_mul (b_e (d_callB call_abs s_abs boot_abs_ tx.f_abs (a_cons (b_v 2) (a_nil)))) (b_e (d_callTy call_int1 s_int boot_int_ tx.f_int (a_cons (b_e (d_cmp op_ge s_ge (b_e (d_callB call_abs s_abs boot_abs_ tx.f_abs (a_cons (b_v 2) (a_nil)))) (b_e (d_bin op_pow s_pow (b_e (d_int)) (b_e (d_int)))))) (a_nil)))))) (a_cons (b_e (d_bin op_mod s_mod (b_e (d_bin op_mulA s_mul (b_e (d_bin op_addA s_add (b_e (d_bin op_addA s_add (b_e (d_bin op_mod s_mod (b_v 2) (b_e (d_int)))) (b_e (d_bin op_mulA s_mul (b_e (d_int)) (b_v 1))))) (b_e (d_int)))) (b_e (d_int)))) (b_e (d_int)))) (a_cons (b_e (d_int)) (a_nil))))))))
theorem sc__law_take : FnScope ["_law_tape_here", "_law_many", "_law_once", "_law_found"] ["_law_tape_here", "_law_many"] (defScope s__law_take) := ⟨rfl, rfl, rfl, by decide +kernel, rfl, by decide +kernel, by decide +kernel⟩
theorem D__law_take (tx : Tx K mg) : Def ⟨He.ga K, al⟩ P w K mg base 1 "_law_take" ["_law_tape_here", "_law_many"] (some 0) f__law_take := by
    obtain ⟨fd, F⟩ := tx.c.def_ 12 (d := dGlob "_law_take" s__law_take)
    have hN := sc__law_take.nd
    refine def_mk (k := 0) F tx.at__law_take sc__law_take rfl rfl (fun _ _ _ _ _ _ us hl => match us, hl with | [_, _], _ => rfl) fun cdv A outer s H E hr => ?_
    delta b__law_take
    exact (ss_cons (s_if (md := []) (t_cmp op_gt s_gt (b_e (d_ix (b_v 0) (b_e (d_int)))) (b_e (d_int))) (ss_cons (s_set (md := []) 3 hN (d_bin op_mod s_mod (b_e (d_ix (b_v 0) (b_e (d_int)))) (b_v 1)))
    (ss_cons (s_setix (md := []) 0 (d_int) (d_bin op_fdiv s_fdiv (b_e (d_ix (b_v 0) (b_e (d_int)))) (b_v 1)))
    (ss_one (s_ret (md := []) (d_var 3))))) (ss_nil))
    (ss_cons (s_setix (md := []) 0 (d_int) (d_bin op_addA s_add (b_e (d_ix (b_v 0) (b_e (d_int)))) (b_e (d_int))))
    (ss_cons (s_set (md := []) 2 hN (d_bin op_mod s_mod (b_e (d_bin op_mulA s_mul (b_e (d_bin op_addA s_add (b_e (d_ix (b_v 0) (b_e (d_int)))) (b_e (d_bin op_mulA s_mul (b_e (d_int)) (b_e (d_ix (b_v 0) (b_e (d_int)))))))) (b_e (d_bin op_addA s_add (b_e (d_int)) (b_e (d_ix (b_v 0) (b_e (d_int)))))))) (b_e (d_int))))
    (ss_cons (s_setix (md := []) 0 (d_int) (d_bin op_mod s_mod (b_e (d_bin op_addA s_add (b_e (d_bin op_mulA s_mul (b_v 2) (b_e (d_bin op_addA s_add (b_e (d_bin op_mod s_mod (b_v 2) (b_e (d_int)))) (b_e (d_int)))))) (b_e (d_ix (b_v 0) (b_e (d_int)))))) (b_e (d_int))))
    (ss_one (s_ret (md := []) (d_bin op_mod s_mod (b_e (d_bin op_fdiv s_fdiv (b_e (d_bin op_mod s_mod (b_e (d_bin op_mulA s_mul (b_e (d_ix (b_v 0) (b_e (d_int)))) (b_e (d_bin op_addA s_add (b_e (d_bin op_mod s_mod (b_e (d_ix (b_v 0) (b_e (d_int)))) (b_e (d_int)))) (b_e (d_int)))))) (b_e (d_int)))) (b_e (d_int)))) (b_v 1))))))))
theorem sc__law_great : FnScope ["_law_tape_here", "_law_way", "_law_any_one"] ["_law_tape_here"] (defScope s__law_great) := ⟨rfl, rfl, rfl, by decide +kernel, rfl, by decide +kernel, by decide +kernel⟩
theorem D__law_great (tx : Tx K mg) : Def ⟨He.ga K, al⟩ P w K mg base 2 "_law_great" ["_law_tape_here"] (some 0) f__law_great := by
    obtain ⟨fd, F⟩ := tx.c.def_ 13 (d := dGlob "_law_great" s__law_great)
    have D__law_take := D__law_take (P := P) (w := w) (base := base) (al := al) tx
    have hN := sc__law_great.nd
    refine def_mk (k := 1) F tx.at__law_great sc__law_great rfl rfl (fun _ _ _ _ _ _ us hl => match us, hl with | [_], _ => rfl) fun cdv A outer s H E hr => ?_
    delta b__law_great
    exact (ss_cons (s_set (md := [0]) 1 hN (d_call D__law_take hr [] (some 0) (a_cons (b_io 0) (a_cons (b_e (d_int)) (a_nil)))))
    (ss_cons (s_set (md := [0]) 2 hN (d_bin op_addA s_add (b_e (d_int)) (b_e (d_call D__law_take hr [] (some 0) (a_cons (b_io 0) (a_cons (b_e (d_int)) (a_nil)))))))
    (ss_one (s_ret (md := [0]) (d_ix (b_e (d_lst (a_cons (b_e (d_ix (b_e (d_lst (a_cons (b_e (d_int)) (a_cons (b_e (d_int)) (a_cons (b_e (d_int)) (a_cons (b_e (d_int)) (a_cons (b_e (d_int)) (a_nil)))))))) (b_e (d_call D__law_take hr [] (some 0) (a_cons (b_io 0) (a_cons (b_e (d_int)) (a_nil))))))) (a_cons (b_e (d_bin op_addA s_add (b_e (d_int)) (b_e (d_call D__law_take hr [] (some 0) (a_cons (b_io 0) (a_cons (b_e (d_int)) (a_nil))))))) (a_cons (b_e (d_var 2)) (a_cons (b_e (d_int)) (a_nil))))))) (b_v 1))))))
theorem sc__law_rows : FnScope ["_law_tape_here", "_law_many", "_law_share", "_law_made_rows", "_law_number", "_law_way", "_law_near", "_law_some", "_law_r", "_law_s", "_law_t"] ["_law_tape_here"] (defScope s__law_rows) := ⟨rfl, rfl, rfl, by decide +kernel, rfl, by decide +kernel, by decide +kernel⟩
theorem D__law_rows (tx : Tx K mg) : Def ⟨He.ga K, al⟩ P w K mg base 3 "_law_rows" ["_law_tape_here"] (some 0) f__law_rows := by
    obtain ⟨fd, F⟩ := tx.c.def_ 14 (d := dGlob "_law_rows" s__law_rows)
    have D__law_take := D__law_take (P := P) (w := w) (base := base) (al := al) tx
    have D__law_great := D__law_great (P := P) (w := w) (base := base) (al := al) tx
    have hN := sc__law_rows.nd
    refine def_mk (k := 2) F tx.at__law_rows sc__law_rows rfl rfl (fun _ _ _ _ _ _ us hl => match us, hl with | [_], _ => rfl) fun cdv A outer s H E hr => ?_
    delta b__law_rows
    exact (ss_cons (s_set (md := [0]) 1 hN (d_if (t_cmp (op_eqA hr.toRoom.units) s_eq (b_e (d_call D__law_take hr [] (some 0) (a_cons (b_io 0) (a_cons (b_e (d_int)) (a_nil))))) (b_e (d_int))) (d_bin op_addA s_add (b_e (d_int)) (b_e (d_call D__law_take hr [] (some 0) (a_cons (b_io 0) (a_cons (b_e (d_int)) (a_nil)))))) (d_call D__law_take hr [] (some 0) (a_cons (b_io 0) (a_cons (b_e (d_int)) (a_nil))))))
    (ss_cons (s_set (md := [0]) 2 hN (d_ix (b_e (d_lst (a_cons (b_e (d_int)) (a_cons (b_e (d_int)) (a_cons (b_e (d_int)) (a_nil)))))) (b_e (d_call D__law_take hr [] (some 0) (a_cons (b_io 0) (a_cons (b_e (d_int)) (a_nil)))))))
    (ss_cons (s_set (md := []) 3 hN (d_lst (a_nil)))
    (ss_cons (s_for (md := []) [4] PassesOwn.never (i_rng1 tx.f_range (a_cons (b_v 1) (a_nil))) (g_name 4 hN)
    (ss_cons (s_par (md := [0]) 5 8 hN (a_cons (b_e (d_call D__law_take hr [] (some 0) (a_cons (b_io 0) (a_cons (b_e (d_int)) (a_nil))))) (a_cons (b_e (d_call D__law_take hr [] (some 0) (a_cons (b_io 0) (a_cons (b_e (d_int)) (a_nil))))) (a_nil))))
    (ss_cons (s_if (md := []) (t_cmp op_lt s_lt (b_v 5) (b_v 2)) (ss_cons (s_expr (md := [0, 3]) (d_mut 3 PySem.F.slot_list_append PySem.F.type_list_append mt_append s_append [0] (a_cons (b_e (d_tup (a_cons (b_e (d_str)) (a_cons (b_e (d_var 8)) (a_cons (b_e (d_call D__law_great hr [] (some 0) (a_cons (b_io 0) (a_nil)))) (a_nil)))))) (a_nil))))
    (ss_one (s_cont))) (ss_nil))
    (ss_cons (s_set (md := [0]) 5 hN (d_call D__law_take hr [] (some 0) (a_cons (b_io 0) (a_cons (b_e (d_int)) (a_nil)))))
    (ss_cons (s_par (md := [0]) 9 10 hN (a_cons (b_e (d_call D__law_take hr [] (some 0) (a_cons (b_io 0) (a_cons (b_e (d_int)) (a_nil))))) (a_cons (b_e (d_call D__law_take hr [] (some 0) (a_cons (b_io 0) (a_cons (b_e (d_bin op_addA s_add (b_v 1) (b_e (d_int)))) (a_nil))))) (a_nil))))
    (ss_cons (s_set (md := [0]) 6 hN (d_callB (call_max2 rfl) s_max2 boot_max_ tx.f_max (a_cons (b_e (d_int)) (a_cons (b_e (d_callB (call_min2 rfl) s_min2 boot_min_ tx.f_min (a_cons (b_v 1) (a_cons (b_e (d_bin op_sub s_sub (b_e (d_bin op_addA s_add (b_v 4) (b_e (d_call D__law_take hr [] (some 0) (a_cons (b_io 0) (a_cons (b_e (d_int)) (a_nil))))))) (b_e (d_int)))) (a_nil))))) (a_nil)))))
    (ss_cons (s_set (md := [0]) 7 hN (d_lst (a_cons (b_e (d_tup (a_cons (b_e (d_str)) (a_cons (b_e (d_var 8)) (a_cons (b_e (d_call D__law_take hr [] (some 0) (a_cons (b_io 0) (a_cons (b_e (d_int)) (a_nil))))) (a_nil)))))) (a_cons (b_e (d_tup (a_cons (b_e (d_str)) (a_cons (b_e (d_var 8)) (a_cons (b_e (d_var 9)) (a_nil)))))) (a_cons (b_e (d_tup (a_cons (b_e (d_str)) (a_cons (b_e (d_var 8)) (a_cons (b_e (d_var 9)) (a_nil)))))) (a_cons (b_e (d_tup (a_cons (b_e (d_str)) (a_cons (b_e (d_var 8)) (a_nil))))) (a_cons (b_e (d_tup (a_cons (b_e (d_str)) (a_cons (b_e (d_var 6)) (a_nil))))) (a_nil))))))))
    (ss_cons (s_set (md := [0]) 7 hN (d_bin op_addA s_add (b_v 7) (b_e (d_lst (a_cons (b_e (d_tup (a_cons (b_e (d_str)) (a_cons (b_e (d_var 8)) (a_cons (b_e (d_var 6)) (a_nil)))))) (a_cons (b_e (d_tup (a_cons (b_e (d_str)) (a_cons (b_e (d_var 8)) (a_cons (b_e (d_var 10)) (a_nil)))))) (a_cons (b_e (d_tup (a_cons (b_e (d_str)) (a_cons (b_e (d_var 8)) (a_nil))))) (a_cons (b_e (d_ix (b_e (d_lst (a_cons (b_e (d_tup (a_cons (b_e (d_str)) (a_cons (b_e (d_var 10)) (a_nil))))) (a_cons (b_e (d_tup (a_cons (b_e (d_str)) (a_nil)))) (a_nil))))) (b_e (d_call D__law_take hr [] (some 0) (a_cons (b_io 0) (a_cons (b_e (d_int)) (a_nil))))))) (a_nil)))))))))
    (ss_one (s_expr (md := [3]) (d_mut 3 PySem.F.slot_list_append PySem.F.type_list_append mt_append s_append [] (a_cons (b_e (d_ix (b_v 7) (b_v 5))) (a_nil)))))))))))))
    (ss_one (s_ret (md := [3]) (d_mv 3)))))))
theorem sc__law_same : FnScope ["_law_found", "_law_due", "_law_one", "_law_other"] ["_law_found", "_law_due"] (defScope s__law_same) := ⟨rfl, rfl, rfl, by decide +kernel, rfl, by decide +kernel, by decide +kernel⟩
theorem D__law_same (tx : Tx K mg) : ∀ k : Nat, Def ⟨He.ga K, al⟩ P w K mg base (1 + k) "_law_same" ["_law_found", "_law_due"] none (f__law_same k)
  | 0 => by
    obtain ⟨fd, F⟩ := tx.c.def_ 15 (d := dGlob "_law_same" s__law_same)
    exact def_stk F tx.at__law_same (fun _ _ _ _ _ _ us hl => match us, hl with | [_, _], _ => rfl)
  | k + 1 => by
    obtain ⟨fd, F⟩ := tx.c.def_ 15 (d := dGlob "_law_same" s__law_same)
    have Drec := D__law_same tx k
    have hN := sc__law_same.nd
    refine def_mk (k := 1 + k) F tx.at__law_same sc__law_same rfl rfl (fun _ _ _ _ _ _ us hl => match us, hl with | [_, _], _ => rfl) fun cdv A outer s H E hr => ?_
    delta b__law_same
    exact (ss_cons (s_if (md := []) (t_val (d_isi2 .list .tuple tx.f_isinstance tx.f_list tx.f_tuple (by decide +kernel) (by decide +kernel) (b_v 1))) (ss_cons (s_if (md := []) (t_w (w_or (t_cmp (op_neA hr.toRoom.units) s_ne (b_e (d_isi .list tx.f_isinstance tx.f_list (by decide +kernel) (b_v 0))) (b_e (d_isi .list tx.f_isinstance tx.f_list (by decide +kernel) (b_v 1)))) (w_or1 (t_cmp (op_neA hr.toRoom.units) s_ne (b_e (d_isi .tuple tx.f_isinstance tx.f_tuple (by decide +kernel) (b_v 0))) (b_e (d_isi .tuple tx.f_isinstance tx.f_tuple (by decide +kernel) (b_v 1))))))) (ss_one (s_ret (md := []) (d_bl))) (ss_nil))
    (ss_cons (s_if (md := []) (t_cmp (op_neA hr.toRoom.units) s_ne (b_e (d_callB call_len s_len boot_len_ tx.f_len (a_cons (b_v 0) (a_nil)))) (b_e (d_callB call_len s_len boot_len_ tx.f_len (a_cons (b_v 1) (a_nil))))) (ss_one (s_ret (md := []) (d_bl))) (ss_nil))
    (ss_one (s_ret (md := []) (d_callB (cr_all rfl) s_all boot_all_ tx.f_all (a_cons (b_e (d_lc [("_law_one", 2), ("_law_other", 3)] hN (i_zip tx.f_zip (a_cons (b_v 0) (a_cons (b_v 1) (a_nil)))) (by show blkC ["_law_found", "_law_due", "_law_one", "_law_other"] (defScope s__law_same) _ _ = true; decide +kernel) (fun _ _ _ _ _ => g_tup (gs_cons (g_name 2 hN) (gs_cons (g_name 3 hN) (gs_nil)))) (fun _ _ _ _ _ => c_yes) (fun _ _ _ _ _ => d_call Drec hr [] none (a_cons (b_v 2) (a_cons (b_v 3) (a_nil)))))) (a_nil))))))) (ss_nil))
    (ss_cons (s_if (md := []) (t_w (w_or (t_cmp op_isN s_isN (b_v 1) (b_e (d_non))) (w_or1 (t_val (d_isi .str tx.f_isinstance tx.f_str (by decide +kernel) (b_v 1)))))) (ss_one (s_ret (md := []) (d_and (d_cmp (op_eqA hr.toRoom.units) s_eq (b_v 0) (b_v 1)) (d_one (d_cmp (op_eqA hr.toRoom.units) s_eq (b_e (d_isi .str tx.f_isinstance tx.f_str (by decide +kernel) (b_v 0))) (b_e (d_isi .str tx.f_isinstance tx.f_str (by decide +kernel) (b_v 1)))))))) (ss_nil))
    (ss_cons (s_if (md := []) (t_val (d_isi .bool tx.f_isinstance tx.f_bool (by decide +kernel) (b_v 1))) (ss_one (s_ret (md := []) (d_and (d_isi .bool tx.f_isinstance tx.f_bool (by decide +kernel) (b_v 0)) (d_one (d_cmp (op_eqA hr.toRoom.units) s_eq (b_v 0) (b_v 1)))))) (ss_nil))
    (ss_one (s_ret (md := []) (d_and (d_isi .int tx.f_isinstance tx.f_int (by decide +kernel) (b_v 0)) (d_and (d_not (d_isi .bool tx.f_isinstance tx.f_bool (by decide +kernel) (b_v 0))) (d_one (d_cmp (op_eqA hr.toRoom.units) s_eq (b_v 0) (b_v 1))))))))))
theorem sc__law_labels : FnScope ["_law_tape_here", "_law_many", "_law_letters", "_law_stem", "_law_at", "_law_pairs", "_law_way", "_law_first", "_law_k", "_law_pair", "_law_sign"] ["_law_tape_here", "_law_many"] (defScope s__law_labels) := ⟨rfl, rfl, rfl, by decide +kernel, rfl, by decide +kernel, by decide +kernel⟩
theorem D__law_labels (tx : Tx K mg) : Def ⟨He.ga K, al⟩ P w K mg base 2 "_law_labels" ["_law_tape_here", "_law_many"] (some 0) f__law_labels := by
    obtain ⟨fd, F⟩ := tx.c.def_ 16 (d := dGlob "_law_labels" s__law_labels)
    have D__law_take := D__law_take (P := P) (w := w) (base := base) (al := al) tx
    have hN := sc__law_labels.nd
    refine def_mk (k := 1) F tx.at__law_labels sc__law_labels rfl rfl (fun _ _ _ _ _ _ us hl => match us, hl with | [_, _], _ => rfl) fun cdv A outer s H E hr => ?_
    delta b__law_labels
    exact (ss_cons (s_set (md := []) 2 hN (d_str))
    (ss_cons (s_asg (md := [0]) [6, 7] (d_tup (a_cons (b_e (d_call D__law_take hr [] (some 0) (a_cons (b_io 0) (a_cons (b_e (d_int)) (a_nil))))) (a_cons (b_e (d_call D__law_take hr [] (some 0) (a_cons (b_io 0) (a_cons (b_e (d_int)) (a_nil))))) (a_nil)))) (g_tup (gs_cons (g_name 6 hN) (gs_cons (g_name 7 hN) (gs_nil)))))
    (ss_cons (s_if (md := []) (t_w (w_and (t_cmp (op_eqA hr.toRoom.units) s_eq (b_v 6) (b_e (d_int))) (w_and1 (t_cmp op_le s_le (b_v 1) (b_e (d_int)))))) (ss_one (s_ret (md := []) (d_lc [("_law_k", 8)] hN (i_rng1 tx.f_range (a_cons (b_v 1) (a_nil))) (by show blkC ["_law_tape_here", "_law_many", "_law_letters", "_law_stem", "_law_at", "_law_pairs", "_law_way", "_law_first", "_law_k", "_law_pair", "_law_sign"] (defScope s__law_labels) _ _ = true; decide +kernel) (fun _ _ _ _ _ => g_name 8 hN) (fun _ _ _ _ _ => c_yes) (fun _ _ _ _ _ => d_ix (b_v 2) (b_e (d_bin op_mod s_mod (b_e (d_bin op_addA s_add (b_v 7) (b_e (d_bin op_mulA s_mul (b_e (d_int)) (b_v 8))))) (b_e (d_int)))))))) (ss_nil))
    (ss_cons (s_set (md := [0]) 3 hN (d_joinV (b_e (d_str)) (b_e (d_lc [("_law_sign", 10)] hN (i_rng1 tx.f_range (a_cons (b_e (d_call D__law_take hr [] (some 0) (a_cons (b_io 0) (a_cons (b_e (d_int)) (a_nil))))) (a_nil))) (by show blkC ["_law_tape_here", "_law_many", "_law_letters", "_law_stem", "_law_at", "_law_pairs", "_law_way", "_law_first", "_law_k", "_law_pair", "_law_sign"] (defScope s__law_labels) _ _ = true; decide +kernel) (fun _ _ _ _ _ => g_name 10 hN) (fun _ _ _ _ _ => c_yes) (fun _ _ _ _ _ => d_ix (b_v 2) (b_e (d_call D__law_take hr [] (some 0) (a_cons (b_io 0) (a_cons (b_e (d_int)) (a_nil))))))))))
    (ss_cons (s_set (md := [0]) 4 hN (d_call D__law_take hr [] (some 0) (a_cons (b_io 0) (a_cons (b_e (d_bin op_addA s_add (b_e (d_callB call_len s_len boot_len_ tx.f_len (a_cons (b_v 3) (a_nil)))) (b_e (d_int)))) (a_nil)))))
    (ss_cons (s_setLc (md := []) 5 [("_law_k", 8)] hN (i_rng1 tx.f_range (a_cons (b_v 1) (a_nil))) (by show blkC ["_law_tape_here", "_law_many", "_law_letters", "_law_stem", "_law_at", "_law_pairs", "_law_way", "_law_first", "_law_k", "_law_pair", "_law_sign"] (defScope s__law_labels) _ _ = true; decide +kernel) (fun _ _ _ _ _ => g_name 8 hN) (fun _ _ _ _ _ => c_yes) (fun _ _ _ _ _ => d_bin op_addA s_add (b_e (d_ix (b_v 2) (b_e (d_bin op_mod s_mod (b_e (d_bin op_addA s_add (b_v 7) (b_e (d_bin op_fdiv s_fdiv (b_v 8) (b_e (d_int)))))) (b_e (d_int)))))) (b_e (d_ix (b_v 2) (b_e (d_bin op_mod s_mod (b_v 8) (b_e (d_int))))))) (sw_true rfl rfl rfl (by decide +kernel)))
    (ss_one (s_ret (md := [5]) (d_lc [("_law_pair", 9)] hN (i_seq (b_e (d_al 5))) (by show blkC ["_law_tape_here", "_law_many", "_law_letters", "_law_stem", "_law_at", "_law_pairs", "_law_way", "_law_first", "_law_k", "_law_pair", "_law_sign"] (defScope s__law_labels) _ _ = true; decide +kernel) (fun _ _ _ _ _ => g_name 9 hN) (fun _ _ _ _ _ => c_yes) (fun _ _ _ _ _ => d_bin op_addA s_add (b_e (d_bin op_addA s_add (b_e (d_sl01 (b_v 3) (b_v 4))) (b_v 9))) (b_e (d_sl10 (b_v 3) (b_v 4)))))))))))))
theorem sc__law_words : FnScope ["_law_row", "_law_label", "_law_words_here", "_law_r"] ["_law_row", "_law_label"] (defScope s__law_words) := ⟨rfl, rfl, rfl, by decide +kernel, rfl, by decide +kernel, by decide +kernel⟩
theorem D__law_words (tx : Tx K mg) : Def ⟨He.ga K, al⟩ P w K mg base 1 "_law_words" ["_law_row", "_law_label"] none f__law_words := by
    obtain ⟨fd, F⟩ := tx.c.def_ 17 (d := dGlob "_law_words" s__law_words)
    have hN := sc__law_words.nd
    refine def_mk (k := 0) F tx.at__law_words sc__law_words rfl rfl (fun _ _ _ _ _ _ us hl => match us, hl with | [_, _], _ => rfl) fun cdv A outer s H E hr => ?_
    delta b__law_words
    exact (ss_cons (s_set (md := []) 2 hN (d_lst (a_cons (b_e (d_ix (b_v 0) (b_e (d_int)))) (a_nil))))
    (ss_cons (s_if (md := []) (t_w (w_and (t_cmp (op_neA hr.toRoom.units) s_ne (b_e (d_ix (b_v 0) (b_e (d_int)))) (b_e (d_str))) (w_and1 (t_cmp op_gt s_gt (b_e (d_callB call_len s_len boot_len_ tx.f_len (a_cons (b_v 0) (a_nil)))) (b_e (d_int)))))) (ss_one (s_expr (md := [2]) (d_mut 2 PySem.F.slot_list_append PySem.F.type_list_append mt_append s_append [] (a_cons (b_e (d_ix (b_e (d_str)) (b_e (d_ix (b_v 0) (b_e (d_int)))))) (a_nil))))) (ss_nil))
    (ss_cons (s_if (md := []) (t_cmp op_inA s_in (b_e (d_ix (b_v 0) (b_e (d_int)))) (b_e (d_tup (a_cons (b_e (d_str)) (a_cons (b_e (d_str)) (a_nil)))))) (ss_one (s_ret (md := []) (d_bin op_addA s_add (b_v 2) (b_e (d_lst (a_cons (b_e (d_var 1)) (a_nil))))))) (ss_nil))
    (ss_cons (s_if (md := []) (t_cmp (op_eqA hr.toRoom.units) s_eq (b_e (d_ix (b_v 0) (b_e (d_int)))) (b_e (d_str))) (ss_one (s_ret (md := []) (d_bin op_addA s_add (b_v 2) (b_e (d_lst (a_cons (b_e (d_callTy (call_strD hr) s_str boot_str_ tx.f_str (a_cons (b_e (d_ix (b_v 0) (b_e (d_int)))) (a_nil)))) (a_nil))))))) (ss_nil))
    (ss_one (s_ret (md := []) (d_bin op_addA s_add (b_v 2) (b_e (d_lc [("_law_r", 3)] hN (i_seq (b_e (d_sl10 (b_v 0) (b_e (d_int))))) (by show blkC ["_law_row", "_law_label", "_law_words_here", "_law_r"] (defScope s__law_words) _ _ = true; decide +kernel) (fun _ _ _ _ _ => g_name 3 hN) (fun _ _ _ _ _ => c_yes) (fun _ _ _ _ _ => d_ix (b_e (d_str)) (b_v 3)))))))))))
theorem sc__law_any_labels : FnScope ["_law_tape_here", "_law_many", "_law_words_here", "_law_drawn", "_law_label"] ["_law_tape_here", "_law_many"] (defScope s__law_any_labels) := ⟨rfl, rfl, rfl, by decide +kernel, rfl, by decide +kernel, by decide +kernel⟩
theorem D__law_any_labels (tx : Tx K mg) : Def ⟨He.ga K, al⟩ P w K mg base 3 "_law_any_labels" ["_law_tape_here", "_law_many"] (some 0) f__law_any_labels := by
    obtain ⟨fd, F⟩ := tx.c.def_ 18 (d := dGlob "_law_any_labels" s__law_any_labels)
    have D__law_labels := D__law_labels (P := P) (w := w) (base := base) (al := al) tx
    have D__law_take := D__law_take (P := P) (w := w) (base := base) (al := al) tx
    have hN := sc__law_any_labels.nd
    refine def_mk (k := 2) F tx.at__law_any_labels sc__law_any_labels rfl rfl (fun _ _ _ _ _ _ us hl => match us, hl with | [_, _], _ => rfl) fun cdv A outer s H E hr => ?_
    delta b__law_any_labels
    exact (ss_cons (s_set (md := [0]) 2 hN (d_if (t_cmp (op_eqA hr.toRoom.units) s_eq (b_e (d_call D__law_take hr [] (some 0) (a_cons (b_io 0) (a_cons (b_e (d_int)) (a_nil))))) (b_e (d_int))) (d_split (by decide +kernel) (by decide +kernel) (by decide +kernel)) (d_lst (a_nil))))
    (ss_cons (s_set (md := [0]) 3 hN (d_call D__law_labels hr [] (some 0) (a_cons (b_io 0) (a_cons (b_e (d_bin op_addA s_add (b_v 1) (b_e (d_callB call_len s_len boot_len_ tx.f_len (a_cons (b_v 2) (a_nil)))))) (a_nil)))))
    (ss_one (s_ret (md := [3]) (d_sl01 (b_e (d_bin op_addA s_add (b_v 2) (b_e (d_lc [("_law_label", 4)] hN (i_seq (b_e (d_al 3))) (by show blkC ["_law_tape_here", "_law_many", "_law_words_here", "_law_drawn", "_law_label"] (defScope s__law_any_labels) _ _ = true; decide +kernel) (fun _ _ _ _ _ => g_name 4 hN) (fun _ _ _ _ _ => c_if (t_cmp op_ninA s_nin (b_v 4) (b_v 2))) (fun _ _ _ _ _ => d_var 4))))) (b_v 1))))))
theorem sc__law_text : FnScope ["_law_tape_here", "_law_rows_here", "_law_goals", "_law_more", "_law_labels_here", "_law_spots", "_law_lines", "_law_number", "_law_here", "_law_goal", "_law_at", "_law_turn", "_law_label", "_law_spot", "_law_row"] ["_law_tape_here", "_law_rows_here"] (defScope s__law_text) := ⟨rfl, rfl, rfl, by decide +kernel, rfl, by decide +kernel, by decide +kernel⟩
theorem D__law_text (tx : Tx K mg) : Def ⟨He.ga K, al⟩ P w K mg base 4 "_law_text" ["_law_tape_here", "_law_rows_here"] (some 0) f__law_text := by
    obtain ⟨fd, F⟩ := tx.c.def_ 19 (d := dGlob "_law_text" s__law_text)
    have D__law_take := D__law_take (P := P) (w := w) (base := base) (al := al) tx
    have D__law_any_labels := D__law_any_labels (P := P) (w := w) (base := base) (al := al) tx
    have D__law_words := D__law_words (P := P) (w := w) (base := base) (al := al) tx
    have hN := sc__law_text.nd
    refine def_mk (k := 3) F tx.at__law_text sc__law_text rfl rfl (fun _ _ _ _ _ _ us hl => match us, hl with | [_, _], _ => rfl) fun cdv A outer s H E hr => ?_
    delta b__law_text
    exact (ss_cons (s_set (md := []) 2 hN (d_sortSet tx.f_sorted tx.f_set (a_cons (b_e (d_lc [("_law_row", 14)] hN (i_seq (b_v 1)) (by show blkC ["_law_tape_here", "_law_rows_here", "_law_goals", "_law_more", "_law_labels_here", "_law_spots", "_law_lines", "_law_number", "_law_here", "_law_goal", "_law_at", "_law_turn", "_law_label", "_law_spot", "_law_row"] (defScope s__law_text) _ _ = true; decide +kernel) (fun _ _ _ _ _ => g_name 14 hN) (fun _ _ _ _ _ => c_if (t_cmp op_inA s_in (b_e (d_ix (b_v 14) (b_e (d_int)))) (b_e (d_tup (a_cons (b_e (d_str)) (a_cons (b_e (d_str)) (a_nil))))))) (fun _ _ _ _ _ => d_ix (b_v 14) (b_e (d_un un_neg s_neg (b_e (d_int))))))) (a_nil))))
    (ss_cons (s_set (md := [0]) 3 hN (d_call D__law_take hr [] (some 0) (a_cons (b_io 0) (a_cons (b_e (d_int)) (a_nil)))))
    (ss_cons (s_set (md := [0]) 4 hN (d_call D__law_any_labels hr [] (some 0) (a_cons (b_io 0) (a_cons (b_e (d_bin op_addA s_add (b_e (d_bin op_mulA s_mul (b_e (d_int)) (b_e (d_callB call_len s_len boot_len_ tx.f_len (a_cons (b_v 2) (a_nil)))))) (b_v 3))) (a_nil)))))
    (ss_cons (s_set (md := [0]) 5 hN (d_bin op_addA s_add (b_e (d_bin op_addA s_add (b_v 2) (b_v 2))) (b_e (d_lc [("_law_turn", 11)] hN (i_rng1 tx.f_range (a_cons (b_v 3) (a_nil))) (by show blkC ["_law_tape_here", "_law_rows_here", "_law_goals", "_law_more", "_law_labels_here", "_law_spots", "_law_lines", "_law_number", "_law_here", "_law_goal", "_law_at", "_law_turn", "_law_label", "_law_spot", "_law_row"] (defScope s__law_text) _ _ = true; decide +kernel) (fun _ _ _ _ _ => g_name 11 hN) (fun _ _ _ _ _ => c_yes) (fun _ _ _ _ _ => d_call D__law_take hr [] (some 0) (a_cons (b_io 0) (a_cons (b_e (d_bin op_addA s_add (b_e (d_callB call_len s_len boot_len_ tx.f_len (a_cons (b_v 1) (a_nil)))) (b_e (d_int)))) (a_nil))))))))
    (ss_cons (s_set (md := []) 6 hN (d_lst (a_nil)))
    (ss_cons (s_for (md := []) [7] PassesOwn.never (i_rng1 tx.f_range (a_cons (b_e (d_bin op_addA s_add (b_e (d_callB call_len s_len boot_len_ tx.f_len (a_cons (b_v 1) (a_nil)))) (b_e (d_int)))) (a_nil))) (g_name 7 hN)
    (ss_cons (s_setLc (md := [4, 5]) 8 [("_law_label", 12), ("_law_spot", 13)] hN (i_zip tx.f_zip (a_cons (b_e (d_al 4)) (a_cons (b_e (d_al 5)) (a_nil)))) (by show blkC ["_law_tape_here", "_law_rows_here", "_law_goals", "_law_more", "_law_labels_here", "_law_spots", "_law_lines", "_law_number", "_law_here", "_law_goal", "_law_at", "_law_turn", "_law_label", "_law_spot", "_law_row"] (defScope s__law_text) _ _ = true; decide +kernel) (fun _ _ _ _ _ => g_tup (gs_cons (g_name 12 hN) (gs_cons (g_name 13 hN) (gs_nil)))) (fun _ _ _ _ _ => c_if (t_cmp (op_eqA hr.toRoom.units) s_eq (b_v 13) (b_v 7))) (fun _ _ _ _ _ => d_var 12) (sw_true rfl rfl rfl (by decide +kernel)))
    (ss_cons (s_if (md := [0]) (t_w (w_and (t_cmp op_inA s_in (b_v 7) (b_v 2)) (w_and1 (t_cmp (op_eqA hr.toRoom.units) s_eq (b_e (d_call D__law_take hr [] (some 0) (a_cons (b_io 0) (a_cons (b_e (d_int)) (a_nil))))) (b_e (d_int)))))) (ss_one (s_set (md := []) 8 hN (d_rev (b_v 8)))) (ss_nil))
    (ss_cons (s_expr (md := [6, 8]) (d_mut 6 PySem.F.slot_list_extend PySem.F.type_list_extend mt_extend s_extend [8] (a_cons (b_e (d_lc [("_law_label", 12)] hN (i_seq (b_e (d_al 8))) (by show blkC ["_law_tape_here", "_law_rows_here", "_law_goals", "_law_more", "_law_labels_here", "_law_spots", "_law_lines", "_law_number", "_law_here", "_law_goal", "_law_at", "_law_turn", "_law_label", "_law_spot", "_law_row"] (defScope s__law_text) _ _ = true; decide +kernel) (fun _ _ _ _ _ => g_name 12 hN) (fun _ _ _ _ _ => c_yes) (fun _ _ _ _ _ => d_bin op_addA s_add (b_v 12) (b_e (d_str))))) (a_nil))))
    (ss_one (s_if (md := []) (t_cmp op_lt s_lt (b_v 7) (b_e (d_callB call_len s_len boot_len_ tx.f_len (a_cons (b_v 1) (a_nil))))) (ss_cons (s_set (md := []) 9 hN (d_str))
    (ss_cons (s_if (md := []) (t_w (w_and (t_cmp op_inA s_in (b_e (d_ix (b_e (d_ix (b_v 1) (b_v 7))) (b_e (d_un un_neg s_neg (b_e (d_int)))))) (b_v 2)) (w_and1 (t_cmp op_inA s_in (b_e (d_ix (b_e (d_ix (b_v 1) (b_v 7))) (b_e (d_int)))) (b_e (d_tup (a_cons (b_e (d_str)) (a_cons (b_e (d_str)) (a_nil))))))))) (ss_cons (s_set (md := []) 10 hN (d_lidx (b_v 2) (b_e (d_ix (b_e (d_ix (b_v 1) (b_v 7))) (b_e (d_un un_neg s_neg (b_e (d_int))))))))
    (ss_one (s_set (md := [0, 4]) 9 hN (d_ix (b_e (d_lst (a_cons (b_e (d_ix (b_e (d_al 4)) (b_v 10))) (a_cons (b_e (d_ix (b_e (d_al 4)) (b_e (d_bin op_addA s_add (b_e (d_callB call_len s_len boot_len_ tx.f_len (a_cons (b_v 2) (a_nil)))) (b_v 10))))) (a_nil))))) (b_e (d_call D__law_take hr [] (some 0) (a_cons (b_io 0) (a_cons (b_e (d_int)) (a_nil))))))))) (ss_nil))
    (ss_one (s_expr (md := [6, 9]) (d_mut 6 PySem.F.slot_list_append PySem.F.type_list_append mt_append s_append [9] (a_cons (b_e (d_joinV (b_e (d_str)) (b_e (d_call D__law_words hr [9] none (a_cons (b_e (d_ix (b_v 1) (b_v 7))) (a_cons (b_e (d_al 9)) (a_nil))))))) (a_nil))))))) (ss_nil)))))))
    (ss_one (s_ret (md := []) (d_joinV (b_e (d_str)) (b_v 6))))))))))
theorem sc_law : FnScope ["_law_script", "_law_k", "_law_tape_here", "_law_rows_here", "_law_text_here", "_law_turn", "_law_found"] ["_law_script"] (defScope s_law) := ⟨rfl, rfl, rfl, by decide +kernel, rfl, by decide +kernel, by decide +kernel⟩
theorem D_law (tx : Tx K mg) : Def ⟨He.ga K, al⟩ P w K mg base 14 "law" ["_law_script"] none f_law_k40 := by
    obtain ⟨fd, F⟩ := tx.c.def_ 20 (d := dGlob "law" s_law)
    have D__law_tape := D__law_tape (P := P) (w := w) (base := base) (al := al) tx
    have D__law_rows := D__law_rows (P := P) (w := w) (base := base) (al := al) tx
    have D__law_text := D__law_text (P := P) (w := w) (base := base) (al := al) tx
    have D__law_same := D__law_same (P := P) (w := w) (base := base) (al := al) tx 12
    have D__law_take := D__law_take (P := P) (w := w) (base := base) (al := al) tx
    have D_rows_from := D_rows_from (P := P) (w := w) (base := base) (al := al) tx
    have hN := sc_law.nd
    refine def_mk (k := 13) F tx.at_law sc_law rfl rfl (fun _ _ _ _ _ _ us hl => match us, hl with | [_], _ => rfl) fun cdv A outer s H E hr => ?_
    delta b_law_k40
    exact (ss_cons (s_for (md := []) [1] PassesOwn.never (i_rng1 tx.f_range (a_cons (b_e (d_bin op_addA s_add (b_e (d_int)) (b_e (d_callB (call_min2 rfl) s_min2 boot_min_ tx.f_min (a_cons (b_e (d_int)) (a_cons (b_e (d_callB call_len s_len boot_len_ tx.f_len (a_cons (b_v 0) (a_nil)))) (a_nil))))))) (a_nil))) (g_name 1 hN)
    (ss_cons (s_set (md := []) 2 hN (d_call D__law_tape hr [] none (a_cons (b_v 0) (a_cons (b_v 1) (a_nil)))))
    (ss_cons (s_set (md := [2]) 3 hN (d_call D__law_rows hr [] (some 2) (a_cons (b_io 2) (a_nil))))
    (ss_cons (s_if (md := [2]) (t_cmp (op_eqA hr.toRoom.units) s_eq (b_e (d_call D__law_take hr [] (some 2) (a_cons (b_io 2) (a_cons (b_e (d_int)) (a_nil))))) (b_e (d_int))) (ss_one (s_set (md := []) 3 hN (d_bin op_mulA s_mul (b_v 3) (b_e (d_int))))) (ss_nil))
    (ss_cons (s_set (md := [2, 3]) 4 hN (d_call D__law_text hr [3] (some 2) (a_cons (b_io 2) (a_cons (b_e (d_al 3)) (a_nil)))))
    (ss_one (s_for (md := []) [5] PassesOwn.never (i_rng1 tx.f_range (a_cons (b_e (d_int)) (a_nil))) (g_name 5 hN)
    (ss_cons (s_set (md := [4]) 6 hN (d_call D_rows_from hr [4] none (a_cons (b_e (d_al 4)) (a_nil))))
    (ss_cons (s_if (md := [3]) (t_not (t_val (d_call D__law_same hr [3] none (a_cons (b_v 6) (a_cons (b_e (d_al 3)) (a_nil)))))) (ss_one (s_ret (md := []) (d_bl))) (ss_nil))
    (ss_one (s_expr (md := [6]) (d_mut 6 PySem.F.slot_list_append PySem.F.type_list_append mt_append s_append [] (a_cons (b_e (d_tup (a_cons (b_e (d_str)) (a_nil)))) (a_nil))))))))))))))
    (ss_one (s_ret (md := []) (d_and (d_call D__law_same hr [] none (a_cons (b_e (d_call D_rows_from hr [] none (a_cons (b_e (d_str)) (a_nil)))) (a_cons (b_e (d_lst (a_nil))) (a_nil)))) (d_one (d_call D__law_same hr [] none (a_cons (b_e (d_call D_rows_from hr [] none (a_cons (b_e (d_str)) (a_nil)))) (a_cons (b_e (d_lst (a_nil))) (a_nil)))))))))
end
end Lk40
set_option maxHeartbeats 0
open PySem PySem.W PySem.Calls PyProof.Rows
theorem PySem.Challenge.cw_nearpool_k40_texts_read_holds : PySem.Challenge.rw_nearpool_k40_texts_read.Holds := by
  w_on; o_law
  refine HandSHeadRun.head_any (r := OpenLaw.row PySem.Challenge.rw_nearpool_k40_texts_read) (q := view (OpenLaw.row PySem.Challenge.rw_nearpool_k40_texts_read).prog [29]) (H := Lk40.hk) (ob := Lk40.ob) (M := 6000) (loose := Lk40.names) (d := HandSHeadRun.topDef (OpenLaw.row PySem.Challenge.rw_nearpool_k40_texts_read).prog 29) (kwd := []) Lk40.ob_eq
    (by kernel_rfl) (fun s => by kernel_rfl) Lk40.run (by kernel_rfl) (by kernel_rfl) (by kernel_rfl) (by rfl) (by first | assumption | decide +kernel) (by decide +kernel) ⟨rfl, rfl, rfl, rfl, rfl, by decide +kernel⟩ ?hw ?hc
  case hw => w_witness2
  case hc =>
    refine QL.walk_ofG (l := PySem.Challenge.rw_nearpool_k40_texts_read) (n := 63) (k := 14) (x := "_law_script") rfl (by decide) (by kernel_rfl) ⟨rfl, by decide, by decide⟩ ?F
    intro w mg fa h Y G hmg0
    obtain ⟨K, KX, c⟩ := Y
    have hmg : mg ("law" : PySem.Str) = some (.ref fa) := by
      have e : (HandSHeadRun.topDef (OpenLaw.row PySem.Challenge.rw_nearpool_k40_texts_read).prog 29).name = ("law" : PySem.Str) := by kernel_rfl
      rw [← e]
      exact hmg0
    have tx := Lk40.tx_mk KX G c
    have ef := hmg.symm.trans tx.at_law
    cases ef
    obtain ⟨fd, F⟩ := tx.c.def_ 20 (d := Lk40.dGlob "law" Lk40.s_law)
    have b := L2.FunD.bindsA (ps := ["_law_script"]) F fun _ _ _ _ _ _ us hl => match us, hl with | [_], _ => rfl
    refine ⟨K, fd, QL.spOf K ⟨He.ga K, 0⟩ none NP.f_law_k40, KX, fun s v => b s [v] rfl, fun H a ns hl _ hS => QL.law_sp hS (NP.law_true ns hl), fun base _ _ => ?_⟩
    exact (Lk40.D_law (P := (PySem.Challenge.rw_nearpool_k40_texts_read).prog) (w := w) (base := base) (al := 0) tx).of F
