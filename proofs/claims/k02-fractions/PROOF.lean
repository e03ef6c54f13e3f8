import PyProof.Rows.All
import HandS.ForMost
import HandS.ForExc
import HandS.Wide
import HandS.WideBits
import HandS.Gcd
import HandS.IsInst
import HandS.CallSlots
import HandS.CallLocal
import HandS.TupAny
import HandS.Deep
import HandS.SortInts
import HandS.Rev
import HandS.ExcOwn
import PySem.Challenge.RW_whobetter_k02_fractions
/-! MBase -/
set_option Elab.async false
set_option linter.all false
set_option maxRecDepth 100000
set_option maxHeartbeats 4000000
/-! M3: data, what they are in the heap, the state of a def's frame, the judgements -/
namespace M3
open PySem PySem.Spec PyProof.Rows L2

abbrev Fg := PySem.W.Frag

/-! ### data -/
inductive D where
  | non
  | bl (b : Bool)
  | int (i : Int)
  | str (x : Str)
  | lst (l : List D)
  | tup (l : List D)
  | dct (ks : List Key) (l : List D)
  | fro (l : List D)
  | val (u : V)

/-- a tuple: tracked, or of the written part -/
def TpL (K : Fg) (H : Hp) (a : Addr) (xs : List V) : Prop :=
  H a = some (.tup xs) ∨ ∃ (o : Obj) (its : Array Value) (n : Nat), K.lookup a = some o ∧ o.cls = .type "tuple" ∧ o.data = .seq its n ∧ its.size ≤ sizeLine ∧ Vals xs its.toList
theorem TpL.t {K : Fg} {H : Hp} {a : Addr} {xs : List V} (h : TpL K H a xs) : SqT K H a xs := by
  rcases h with h | h
  · exact .inl (.inl h)
  · exact .inr h
mutual
/-- the value stands for the datum -/
def Rp (K : Fg) (H : Hp) : D → V → Prop
  | .non, v => v = .non
  | .bl b, v => v = .bl b
  | .int i, v => v = .int i
  | .str x, v => v = .str x
  | .lst l, v => ∃ a xs, v = .ref a ∧ H a = some (.lst xs) ∧ Rps K H l xs
  | .tup l, v => ∃ a xs, v = .ref a ∧ TpL K H a xs ∧ Rps K H l xs
  | .dct ks l, v => ∃ a xs, v = .ref a ∧ H a = some (.dK (ks.zip xs)) ∧ ks.length = l.length ∧ Rps K H l xs
  | .fro l, v => ∃ a xs, v = .ref a ∧ SqL K H a xs ∧ Rps K H l xs
  | .val u, v => v = u
def Rps (K : Fg) (H : Hp) : List D → List V → Prop
  | [], xs => xs = []
  | d :: l, xs => ∃ x r, xs = x :: r ∧ Rp K H d x ∧ Rps K H l r
end

/-! ### heaps -/
def Ex (H H' : Hp) : Prop := ∀ a o, H a = some o → H' a = some o
theorem Ex.rfl' (H : Hp) : Ex H H := fun _ _ e => e
theorem Ex.trn {H H1 H2 : Hp} (a : Ex H H1) (b : Ex H1 H2) : Ex H H2 := fun c o e => b c o (a c o e)
theorem Ex.new {H : Hp} {p : Addr} {o : HO} (h : H p = none) : Ex H (upd H p o) := fun a u e => by
  rw [upd_ne (ne_of_none e h)]; exact e
theorem Ex.non {H H' : Hp} {p : Addr} (e : Ex H H') (h : H' p = none) : H p = none := by
  cases q : H p with
  | none => rfl
  | some o => rw [e p o q] at h; cases h
theorem ex_rd {H H' : Hp} {a : Addr} {u : HO} (e : Ex H H') (h : Rd H a u) : Rd H' a u := by
  rcases h with h | ⟨o, h⟩
  · exact .inl (e _ _ h)
  · exact .inr ⟨o, e _ _ h⟩
theorem ex_l {K : Fg} {H H' : Hp} {a : Addr} {xs : List V} (e : Ex H H') (h : SqL K H a xs) : SqL K H' a xs := by
  rcases h with h | h
  · exact .inl (ex_rd e h)
  · exact .inr h
theorem ex_p {K : Fg} {H H' : Hp} {a : Addr} {xs : List V} (e : Ex H H') (h : TpL K H a xs) : TpL K H' a xs := by
  rcases h with h | h
  · exact .inl (e _ _ h)
  · exact .inr h
theorem ex_t {K : Fg} {H H' : Hp} {a : Addr} {xs : List V} (e : Ex H H') (h : SqT K H a xs) : SqT K H' a xs := by
  rcases h with h | h
  · exact .inl (ex_rd e h)
  · exact .inr h

mutual
theorem Rp.ex {K : Fg} {H H' : Hp} (e : Ex H H') : ∀ (d : D) {v : V}, Rp K H d v → Rp K H' d v
  | .non, _, h => h
  | .bl _, _, h => h
  | .int _, _, h => h
  | .str _, _, h => h
  | .lst l, _, ⟨a, xs, h1, h2, h3⟩ => ⟨a, xs, h1, e _ _ h2, Rps.ex e l h3⟩
  | .fro l, _, ⟨a, xs, h1, h2, h3⟩ => ⟨a, xs, h1, ex_l e h2, Rps.ex e l h3⟩
  | .tup l, _, ⟨a, xs, h1, h2, h3⟩ => ⟨a, xs, h1, ex_p e h2, Rps.ex e l h3⟩
  | .dct _ l, _, ⟨a, xs, h1, h2, hk, h3⟩ => ⟨a, xs, h1, e _ _ h2, hk, Rps.ex e l h3⟩
  | .val _, _, h => h
theorem Rps.ex {K : Fg} {H H' : Hp} (e : Ex H H') : ∀ (l : List D) {xs : List V}, Rps K H l xs → Rps K H' l xs
  | [], _, h => h
  | d :: l, _, ⟨x, r, h1, h2, h3⟩ => ⟨x, r, h1, Rp.ex e d h2, Rps.ex e l h3⟩
end

section
variable {K : Fg} {H : Hp}
theorem Rps.len : ∀ {l : List D} {xs : List V}, Rps K H l xs → xs.length = l.length
  | [], _, h => by rw [show _ = _ from h]; rfl
  | d :: l, _, h => by
    obtain ⟨x, r, rfl, _, h3⟩ := h
    simp [h3.len]
theorem Rps.get : ∀ {l : List D} {xs : List V} {i : Nat} {d : D}, Rps K H l xs → l[i]? = some d → ∃ x, xs[i]? = some x ∧ Rp K H d x
  | [], _, _, _, _, e => by simp at e
  | d :: l, _, 0, d', h, e => by
    obtain ⟨x, r, rfl, h2, h3⟩ := h
    simp at e; subst e
    exact ⟨x, rfl, h2⟩
  | d :: l, _, i + 1, d', h, e => by
    obtain ⟨x, r, rfl, h2, h3⟩ := h
    obtain ⟨y, e1, h4⟩ := h3.get (i := i) (by simpa using e)
    exact ⟨y, by simpa using e1, h4⟩
theorem Rps.app : ∀ {l m : List D} {xs ys : List V}, Rps K H l xs → Rps K H m ys → Rps K H (l ++ m) (xs ++ ys)
  | [], _, _, _, h, k => by
    rw [show _ = _ from h]; exact k
  | d :: l, _, _, _, h, k => by
    obtain ⟨x, r, rfl, h2, h3⟩ := h
    exact ⟨x, _, rfl, h2, h3.app k⟩
theorem Rps.one {d : D} {x : V} (h : Rp K H d x) : Rps K H [d] [x] := ⟨x, [], rfl, h, rfl⟩
theorem Rps.take : ∀ {l : List D} {xs : List V} (n : Nat), Rps K H l xs → Rps K H (l.take n) (xs.take n)
  | [], _, n, h => by
    rw [show _ = _ from h]; cases n <;> rfl
  | d :: l, _, 0, h => rfl
  | d :: l, _, n + 1, h => by
    obtain ⟨x, r, rfl, h2, h3⟩ := h
    exact ⟨x, _, rfl, h2, h3.take n⟩
theorem Rps.drop : ∀ {l : List D} {xs : List V} (n : Nat), Rps K H l xs → Rps K H (l.drop n) (xs.drop n)
  | [], _, n, h => by
    rw [show _ = _ from h]; cases n <;> rfl
  | d :: l, _, 0, h => h
  | d :: l, _, n + 1, h => by
    obtain ⟨x, r, rfl, h2, h3⟩ := h
    exact h3.drop n
theorem Rps.set : ∀ {l : List D} {xs : List V} (n : Nat) {d : D} {x : V}, Rps K H l xs → Rp K H d x → Rps K H (l.set n d) (xs.set n x)
  | [], _, n, _, _, h, _ => by
    rw [show _ = _ from h]; cases n <;> rfl
  | d :: l, _, 0, _, _, h, k => by
    obtain ⟨x, r, rfl, h2, h3⟩ := h
    exact ⟨_, _, rfl, k, h3⟩
  | d :: l, _, n + 1, _, _, h, k => by
    obtain ⟨x, r, rfl, h2, h3⟩ := h
    exact ⟨x, _, rfl, h2, h3.set n k⟩
theorem Rps.rev : ∀ {l : List D} {xs : List V}, Rps K H l xs → Rps K H l.reverse xs.reverse
  | [], _, h => by
    rw [show _ = _ from h]; rfl
  | d :: l, _, h => by
    obtain ⟨x, r, rfl, h2, h3⟩ := h
    rw [List.reverse_cons, List.reverse_cons]
    exact h3.rev.app (.one h2)
end

/-! ### hidden addresses -/
def hid (H : Hp) (F : List Addr) : Hp := fun a => if a ∈ F then none else H a
section
variable {H H' : Hp} {F G : List Addr} {p : Addr} {o : HO}
theorem hid_in (h : p ∈ F) : hid H F p = none := if_pos h
theorem hid_out (h : p ∉ F) : hid H F p = H p := if_neg h
theorem hid_le : Ex (hid H F) H := fun a o e => by
  by_cases h : a ∈ F
  · rw [hid_in h] at e; cases e
  · rwa [hid_out h] at e
theorem hid_sub (h : ∀ a ∈ G, a ∈ F) : Ex (hid H F) (hid H G) := fun a o e => by
  by_cases k : a ∈ F
  · rw [hid_in k] at e; cases e
  · rw [hid_out k] at e
    rw [hid_out fun z => k (h a z)]; exact e
theorem hid_ex (e : Ex H H') : Ex (hid H F) (hid H' F) := fun a o q => by
  by_cases k : a ∈ F
  · rw [hid_in k] at q; cases q
  · rw [hid_out k] at q ⊢
    exact e _ _ q
theorem hid_nil : hid H [] = H := by
  funext a; exact hid_out (by simp)
/-- outside of F nothing is changed -/
theorem hid_chg (h : ∀ a, a ∉ F → H' a = H a) : hid H' F = hid H F := by
  funext a
  by_cases k : a ∈ F
  · rw [hid_in k, hid_in k]
  · rw [hid_out k, hid_out k, h a k]
theorem hid_same (h : ∀ a, a ∈ F ↔ a ∈ G) : hid H F = hid H G := by
  funext a
  by_cases k : a ∈ F
  · rw [hid_in k, hid_in ((h a).mp k)]
  · rw [hid_out k, hid_out fun z => k ((h a).mpr z)]
end

/-! ### owned data -/
def All3 (P : D → V → List Addr → Prop) : List D → List V → List (List Addr) → Prop
  | [], [], [] => True
  | d :: l, x :: xs, f :: fs => P d x f ∧ All3 P l xs fs
  | _, _, _ => False

def Own (K : Fg) (Hm H : Hp) : Nat → D → V → List Addr → Prop
  | 0, d, v, fp => fp = [] ∧ Rp K Hm d v
  | n + 1, d, v, fp => ∃ a xs fps, v = .ref a ∧ fp = a :: fps.flatten ∧
      ((∃ l, d = .lst l ∧ H a = some (.lst xs) ∧ All3 (Own K Hm H n) l xs fps) ∨
       (∃ ks l, d = .dct ks l ∧ H a = some (.dK (ks.zip xs)) ∧ ks.length = l.length ∧ All3 (Own K Hm H n) l xs fps))

theorem All3.imp {P Q : D → V → List Addr → Prop} : ∀ {l : List D} {xs : List V} {fs : List (List Addr)}, (∀ d x f, f ∈ fs → P d x f → Q d x f) → All3 P l xs fs → All3 Q l xs fs
  | [], [], [], _, _ => trivial
  | d :: l, x :: xs, f :: fs, g, ⟨h1, h2⟩ => ⟨g _ _ _ List.mem_cons_self h1, h2.imp fun d x f' m => g d x f' (List.mem_cons_of_mem _ m)⟩
  | [], [], _ :: _, _, h => h.elim
  | [], _ :: _, _, _, h => h.elim
  | _ :: _, [], _, _, h => h.elim
  | _ :: _, _ :: _, [], _, h => h.elim
theorem All3.len {P : D → V → List Addr → Prop} : ∀ {l : List D} {xs : List V} {fs : List (List Addr)}, All3 P l xs fs → xs.length = l.length ∧ fs.length = l.length
  | [], [], [], _ => ⟨rfl, rfl⟩
  | d :: l, x :: xs, f :: fs, ⟨_, h2⟩ => by
    have := h2.len
    simp [this]
  | [], [], _ :: _, h => h.elim
  | [], _ :: _, _, h => h.elim
  | _ :: _, [], _, h => h.elim
  | _ :: _, _ :: _, [], h => h.elim
theorem All3.app {P : D → V → List Addr → Prop} : ∀ {l m : List D} {xs ys : List V} {fs gs : List (List Addr)}, All3 P l xs fs → All3 P m ys gs → All3 P (l ++ m) (xs ++ ys) (fs ++ gs)
  | [], _, [], _, [], _, _, k => k
  | d :: l, _, x :: xs, _, f :: fs, _, ⟨h1, h2⟩, k => ⟨h1, h2.app k⟩
  | [], _, [], _, _ :: _, _, h, _ => h.elim
  | [], _, _ :: _, _, _, _, h, _ => h.elim
  | _ :: _, _, [], _, _, _, h, _ => h.elim
  | _ :: _, _, _ :: _, _, [], _, h, _ => h.elim
theorem All3.get {P : D → V → List Addr → Prop} : ∀ {l : List D} {xs : List V} {fs : List (List Addr)} {i : Nat} {d : D}, All3 P l xs fs → l[i]? = some d → ∃ x f, xs[i]? = some x ∧ fs[i]? = some f ∧ P d x f
  | [], [], [], _, _, _, e => by simp at e
  | d :: l, x :: xs, f :: fs, 0, _, ⟨h1, _⟩, e => by
    simp at e; subst e
    exact ⟨x, f, rfl, rfl, h1⟩
  | d :: l, x :: xs, f :: fs, i + 1, _, ⟨_, h2⟩, e => by
    obtain ⟨y, g, e1, e2, h⟩ := h2.get (i := i) (by simpa using e)
    exact ⟨y, g, by simpa using e1, by simpa using e2, h⟩
  | [], [], _ :: _, _, _, h, _ => h.elim
  | [], _ :: _, _, _, _, h, _ => h.elim
  | _ :: _, [], _, _, _, h, _ => h.elim
  | _ :: _, _ :: _, [], _, _, h, _ => h.elim
theorem All3.set {P : D → V → List Addr → Prop} : ∀ {l : List D} {xs : List V} {fs : List (List Addr)} (i : Nat) {d : D} {x : V} {f : List Addr}, All3 P l xs fs → P d x f → All3 P (l.set i d) (xs.set i x) (fs.set i f)
  | [], [], [], i, _, _, _, _, _ => by cases i <;> exact trivial
  | d :: l, x :: xs, f :: fs, 0, _, _, _, ⟨_, h2⟩, k => ⟨k, h2⟩
  | d :: l, x :: xs, f :: fs, i + 1, _, _, _, ⟨h1, h2⟩, k => ⟨h1, h2.set i k⟩
  | [], [], _ :: _, _, _, _, _, h, _ => h.elim
  | [], _ :: _, _, _, _, _, _, h, _ => h.elim
  | _ :: _, [], _, _, _, _, _, h, _ => h.elim
  | _ :: _, _ :: _, [], _, _, _, _, h, _ => h.elim
theorem All3.erase {P : D → V → List Addr → Prop} : ∀ {l : List D} {xs : List V} {fs : List (List Addr)} (i : Nat), All3 P l xs fs → All3 P (l.eraseIdx i) (xs.eraseIdx i) (fs.eraseIdx i)
  | [], [], [], i, _ => by cases i <;> exact trivial
  | d :: l, x :: xs, f :: fs, 0, ⟨_, h2⟩ => h2
  | d :: l, x :: xs, f :: fs, i + 1, ⟨h1, h2⟩ => ⟨h1, h2.erase i⟩
  | [], [], _ :: _, _, h => h.elim
  | [], _ :: _, _, _, h => h.elim
  | _ :: _, [], _, _, h => h.elim
  | _ :: _, _ :: _, [], _, h => h.elim
theorem mem_flat_of {f : List Addr} {fs : List (List Addr)} {a : Addr} (h : f ∈ fs) (k : a ∈ f) : a ∈ fs.flatten := List.mem_flatten.mpr ⟨f, h, k⟩

section
variable {K : Fg} {Hm Hm' H H' : Hp}
/-- the owned objects unchanged, the others kept -/
theorem Own.frame (e : Ex Hm Hm') : ∀ (n : Nat) {d : D} {v : V} {fp : List Addr}, (∀ a ∈ fp, H' a = H a) → Own K Hm H n d v fp → Own K Hm' H' n d v fp
  | 0, d, v, fp, _, ⟨h1, h2⟩ => ⟨h1, Rp.ex e d h2⟩
  | n + 1, d, v, fp, k, ⟨a, xs, fps, h1, h2, h3⟩ => by
    have ka : H' a = H a := k a (by rw [h2]; exact List.mem_cons_self)
    have kf : ∀ f ∈ fps, ∀ b ∈ f, H' b = H b := fun f m b mb => k b (by rw [h2]; exact List.mem_cons_of_mem _ (mem_flat_of m mb))
    refine ⟨a, xs, fps, h1, h2, ?_⟩
    rcases h3 with ⟨l, q1, q2, q3⟩ | ⟨ks, l, q1, q2, q3, q4⟩
    · exact .inl ⟨l, q1, by rw [ka]; exact q2, q3.imp fun d x f m h => Own.frame e n (kf f m) h⟩
    · exact .inr ⟨ks, l, q1, by rw [ka]; exact q2, q3, q4.imp fun d x f m h => Own.frame e n (kf f m) h⟩
theorem Own.pres : ∀ (n : Nat) {d : D} {v : V} {fp : List Addr}, Own K Hm H n d v fp → ∀ a ∈ fp, ∃ o, H a = some o
  | 0, _, _, _, ⟨h1, _⟩, a, m => by rw [h1] at m; cases m
  | n + 1, d, v, fp, ⟨a, xs, fps, h1, h2, h3⟩, b, m => by
    rw [h2] at m
    have inner : ∀ {l : List D} {xs : List V} {fps : List (List Addr)}, All3 (Own K Hm H n) l xs fps → b ∈ fps.flatten → ∃ o, H b = some o := by
      intro l xs fps
      induction l generalizing xs fps with
      | nil => cases xs <;> cases fps <;> intro h <;> first | exact h.elim | (intro m; simp at m)
      | cons d l ih =>
        cases xs <;> cases fps <;> intro h <;> first | exact h.elim | skip
        intro m
        rw [List.flatten_cons, List.mem_append] at m
        rcases m with m | m
        · exact Own.pres n h.1 b m
        · exact ih h.2 m
    rcases List.mem_cons.mp m with rfl | m
    · rcases h3 with ⟨l, _, q2, _⟩ | ⟨ks, l, _, q2, _, _⟩
      · exact ⟨_, q2⟩
      · exact ⟨_, q2⟩
    · rcases h3 with ⟨l, _, _, q3⟩ | ⟨ks, l, _, _, _, q3⟩
      · exact inner q3 m
      · exact inner q3 m
/-- what is owned may be shared: in any heap that has the rest and the owned objects -/
theorem Own.share (e : Ex Hm Hm') : ∀ (n : Nat) {d : D} {v : V} {fp : List Addr}, (∀ a ∈ fp, ∀ o, H a = some o → Hm' a = some o) → Own K Hm H n d v fp → Rp K Hm' d v
  | 0, d, v, fp, _, ⟨_, h2⟩ => Rp.ex e d h2
  | n + 1, d, v, fp, k, ⟨a, xs, fps, h1, h2, h3⟩ => by
    have ka := k a (by rw [h2]; exact List.mem_cons_self)
    have inner : ∀ {l : List D} {xs : List V} {fps : List (List Addr)}, All3 (Own K Hm H n) l xs fps → (∀ b ∈ fps.flatten, ∀ o, H b = some o → Hm' b = some o) → Rps K Hm' l xs := by
      intro l xs fps
      induction l generalizing xs fps with
      | nil => cases xs <;> cases fps <;> intro h <;> first | exact h.elim | (intro _; rfl)
      | cons d l ih =>
        cases xs <;> cases fps <;> intro h <;> first | exact h.elim | skip
        intro m
        refine ⟨_, _, rfl, Own.share e n (fun b mb => m b (by rw [List.flatten_cons]; exact List.mem_append_left _ mb)) h.1, ih h.2 fun b mb => m b (by rw [List.flatten_cons]; exact List.mem_append_right _ mb)⟩
    have kb : ∀ b ∈ fps.flatten, ∀ o, H b = some o → Hm' b = some o := fun b m => k b (by rw [h2]; exact List.mem_cons_of_mem _ m)
    rcases h3 with ⟨l, q1, q2, q3⟩ | ⟨ks, l, q1, q2, q3, q4⟩
    · subst q1
      exact ⟨a, xs, h1, ka _ q2, inner q3 kb⟩
    · subst q1
      exact ⟨a, xs, h1, ka _ q2, q3, inner q4 kb⟩
end
end M3

/-! MSt -/
set_option Elab.async false
set_option linter.all false
set_option maxRecDepth 100000
set_option maxHeartbeats 4000000
namespace M3
open PySem PySem.Spec PyProof.Rows L2

/-! ### borrowed data: down to the depth n anywhere in the heap, below that shared -/
def All2 (P : D → V → Prop) : List D → List V → Prop
  | [], [] => True
  | d :: l, x :: xs => P d x ∧ All2 P l xs
  | _, _ => False
def Bor (K : Fg) (Hm H : Hp) : Nat → D → V → Prop
  | 0, d, v => Rp K Hm d v
  | n + 1, d, v => Rp K Hm d v ∨ ∃ a xs, v = .ref a ∧
      ((∃ l, d = .lst l ∧ H a = some (.lst xs) ∧ All2 (Bor K Hm H n) l xs) ∨
       (∃ ks l, d = .dct ks l ∧ H a = some (.dK (ks.zip xs)) ∧ ks.length = l.length ∧ All2 (Bor K Hm H n) l xs))
theorem All2.imp {P Q : D → V → Prop} (g : ∀ d x, P d x → Q d x) : ∀ {l : List D} {xs : List V}, All2 P l xs → All2 Q l xs
  | [], [], _ => trivial
  | d :: l, x :: xs, ⟨h1, h2⟩ => ⟨g _ _ h1, h2.imp g⟩
  | [], _ :: _, h => h.elim
  | _ :: _, [], h => h.elim
theorem All2.rps {K : Fg} {H : Hp} : ∀ {l : List D} {xs : List V}, All2 (Rp K H) l xs → Rps K H l xs
  | [], [], _ => rfl
  | d :: l, x :: xs, ⟨h1, h2⟩ => ⟨_, _, rfl, h1, h2.rps⟩
  | [], _ :: _, h => h.elim
  | _ :: _, [], h => h.elim
theorem All2.of_rps {K : Fg} {H : Hp} : ∀ {l : List D} {xs : List V}, Rps K H l xs → All2 (Rp K H) l xs
  | [], xs, h => by rw [show xs = [] from h]; exact trivial
  | d :: l, xs, h => by
    obtain ⟨x, r, rfl, h1, h2⟩ := h
    exact ⟨h1, All2.of_rps h2⟩
theorem All2.of3 {P : D → V → List Addr → Prop} {Q : D → V → Prop} (g : ∀ d x f, P d x f → Q d x) : ∀ {l : List D} {xs : List V} {fs : List (List Addr)}, All3 P l xs fs → All2 Q l xs
  | [], [], [], _ => trivial
  | d :: l, x :: xs, f :: fs, ⟨h1, h2⟩ => ⟨g _ _ _ h1, All2.of3 g h2⟩
  | [], [], _ :: _, h => h.elim
  | [], _ :: _, _, h => h.elim
  | _ :: _, [], _, h => h.elim
  | _ :: _, _ :: _, [], h => h.elim
theorem All2.len {P : D → V → Prop} : ∀ {l : List D} {xs : List V}, All2 P l xs → xs.length = l.length
  | [], [], _ => rfl
  | d :: l, x :: xs, ⟨_, h2⟩ => by simp [h2.len]
  | [], _ :: _, h => h.elim
  | _ :: _, [], h => h.elim
theorem All2.get {P : D → V → Prop} : ∀ {l : List D} {xs : List V} {i : Nat} {d : D}, All2 P l xs → l[i]? = some d → ∃ x, xs[i]? = some x ∧ P d x
  | [], [], _, _, _, e => by simp at e
  | d :: l, x :: xs, 0, _, ⟨h1, _⟩, e => by
    simp at e; subst e
    exact ⟨x, rfl, h1⟩
  | d :: l, x :: xs, i + 1, _, ⟨_, h2⟩, e => by
    obtain ⟨y, e1, h⟩ := h2.get (i := i) (by simpa using e)
    exact ⟨y, by simpa using e1, h⟩
  | [], _ :: _, _, _, h, _ => h.elim
  | _ :: _, [], _, _, h, _ => h.elim
section
variable {K : Fg} {Hm Hm' H H' : Hp}
theorem Bor.mono (e : Ex Hm Hm') : ∀ (n : Nat) {d : D} {v : V}, (n = 0 ∨ Ex H H') → Bor K Hm H n d v → Bor K Hm' H' n d v
  | 0, d, v, _, h => Rp.ex e d h
  | n + 1, d, v, k, h => by
    have k' : Ex H H' := k.resolve_left (by omega)
    rcases h with h | ⟨a, xs, h1, ⟨l, q1, q2, q3⟩ | ⟨ks, l, q1, q2, q3, q4⟩⟩
    · exact .inl (Rp.ex e d h)
    · exact .inr ⟨a, xs, h1, .inl ⟨l, q1, k' _ _ q2, q3.imp fun _ _ h => Bor.mono e n (.inr k') h⟩⟩
    · exact .inr ⟨a, xs, h1, .inr ⟨ks, l, q1, k' _ _ q2, q3, q4.imp fun _ _ h => Bor.mono e n (.inr k') h⟩⟩
theorem Bor.rp (e : Ex Hm H) : ∀ (n : Nat) {d : D} {v : V}, Bor K Hm H n d v → Rp K H d v
  | 0, d, v, h => Rp.ex e d h
  | n + 1, d, v, h => by
    rcases h with h | ⟨a, xs, h1, ⟨l, q1, q2, q3⟩ | ⟨ks, l, q1, q2, q3, q4⟩⟩
    · exact Rp.ex e d h
    · subst q1
      exact ⟨a, xs, h1, q2, (q3.imp fun _ _ h => Bor.rp e n h).rps⟩
    · subst q1
      exact ⟨a, xs, h1, q2, q3, (q4.imp fun _ _ h => Bor.rp e n h).rps⟩
theorem Own.bor : ∀ (n : Nat) {d : D} {v : V} {fp : List Addr}, Own K Hm H n d v fp → Bor K Hm H n d v
  | 0, _, _, _, ⟨_, h⟩ => h
  | n + 1, _, _, _, ⟨a, xs, fps, h1, _, h3⟩ => by
    rcases h3 with ⟨l, q1, q2, q3⟩ | ⟨ks, l, q1, q2, q3, q4⟩
    · exact .inr ⟨a, xs, h1, .inl ⟨l, q1, q2, All2.of3 (fun _ _ _ h => Own.bor n h) q3⟩⟩
    · exact .inr ⟨a, xs, h1, .inr ⟨ks, l, q1, q2, q3, All2.of3 (fun _ _ _ h => Own.bor n h) q4⟩⟩
theorem Bor.up : ∀ (n : Nat) {d : D} {v : V}, Rp K Hm d v → Bor K Hm H n d v
  | 0, _, _, h => h
  | _ + 1, _, _, h => .inl h
/-- a list, its items one depth down -/
theorem Bor.list (e : Ex Hm H) {n : Nat} {l : List D} {v : V} (h : Bor K Hm H n (.lst l) v) : ∃ a xs, v = .ref a ∧ H a = some (.lst xs) ∧ All2 (Bor K Hm H n.pred) l xs := by
  cases n with
  | zero =>
    obtain ⟨a, xs, h1, h2, h3⟩ := h
    exact ⟨a, xs, h1, e _ _ h2, (All2.of_rps h3)⟩
  | succ n =>
    rcases h with h | ⟨a, xs, h1, ⟨l', q1, q2, q3⟩ | ⟨ks, l', q1, q2, q3, q4⟩⟩
    · obtain ⟨a, xs, h1, h2, h3⟩ := h
      exact ⟨a, xs, h1, e _ _ h2, (All2.of_rps h3).imp fun _ _ h => Bor.up n h⟩
    · cases q1
      exact ⟨a, xs, h1, q2, q3⟩
    · cases q1
theorem Bor.tuple (e : Ex Hm H) {n : Nat} {l : List D} {v : V} (h : Bor K Hm H n (.tup l) v) : ∃ a xs, v = .ref a ∧ TpL K H a xs ∧ Rps K Hm l xs := by
  cases n with
  | zero =>
    obtain ⟨a, xs, h1, h2, h3⟩ := h
    exact ⟨a, xs, h1, ex_p e h2, h3⟩
  | succ n =>
    rcases h with h | ⟨a, xs, h1, ⟨l', q1, q2, q3⟩ | ⟨ks, l', q1, q2, q3, q4⟩⟩
    · obtain ⟨a, xs, h1, h2, h3⟩ := h
      exact ⟨a, xs, h1, ex_p e h2, h3⟩
    · cases q1
    · cases q1
theorem Bor.dict (e : Ex Hm H) {n : Nat} {ks : List Key} {l : List D} {v : V} (h : Bor K Hm H n (.dct ks l) v) : ∃ a xs, v = .ref a ∧ H a = some (.dK (ks.zip xs)) ∧ ks.length = l.length ∧ All2 (Bor K Hm H n.pred) l xs := by
  cases n with
  | zero =>
    obtain ⟨a, xs, h1, h2, hk, h3⟩ := h
    exact ⟨a, xs, h1, e _ _ h2, hk, (All2.of_rps h3)⟩
  | succ n =>
    rcases h with h | ⟨a, xs, h1, ⟨l', q1, q2, q3⟩ | ⟨ks', l', q1, q2, q3, q4⟩⟩
    · obtain ⟨a, xs, h1, h2, hk, h3⟩ := h
      exact ⟨a, xs, h1, e _ _ h2, hk, (All2.of_rps h3).imp fun _ _ h => Bor.up n h⟩
    · cases q1
    · cases q1
      exact ⟨a, xs, h1, q2, q3, q4⟩
end

/-! ### the state -/
abbrev Sl := List (Option D)
structure Bc where
  B : Hp
  pv : Nat → V
  pf : Nat → List Addr
  R : List Addr
  hR : Hp
abbrev msk (F : List (List Addr)) (G : List Addr) : List Addr := F.flatten ++ G
structure Stt (K : Fg) (P O : List Nat) (β : Bc) (F : List (List Addr)) (G : List Addr) (env : Sl) (σ : L2.St) (H : Hp) : Prop where
  len : σ.length = env.length
  olen : O.length = env.length
  flen : F.length = env.length
  nd : (msk F G).Nodup
  pres : ∀ a ∈ msk F G, ∃ o, H a = some o
  base : Ex β.B (hid H (msk F G))
  slot : ∀ i d, env[i]? = some (some d) → ∃ v, σ[i]? = some (some v) ∧ Own K (hid H (msk F G)) H (O.getD i 0) d v (F.getD i [])
  pin : ∀ i ∈ P, σ[i]? = some (some (β.pv i)) ∧ F.getD i [] = β.pf i
  z : ∀ i, O.getD i 0 = 0 → F.getD i [] = []
  rr : ∀ a ∈ β.R, a ∈ G ∧ H a = β.hR a

section
variable {K : Fg} {P O : List Nat} {β : Bc} {F : List (List Addr)} {G : List Addr} {env : Sl} {σ : L2.St} {H H' : Hp}
theorem getD_mem_flat {F : List (List Addr)} {i : Nat} {a : Addr} (h : a ∈ F.getD i []) : a ∈ F.flatten := by
  rw [List.getD_eq_getElem?_getD] at h
  cases e : F[i]? with
  | none => rw [e] at h; cases h
  | some f =>
    rw [e] at h
    exact mem_flat_of (List.mem_of_getElem? e) h
theorem Stt.fresh (S : Stt K P O β F G env σ H) {p : Addr} (h : H p = none) : p ∉ msk F G := fun m => by
  obtain ⟨o, e⟩ := S.pres p m
  rw [h] at e; cases e
/-- the heap grows, what is owned stands -/
theorem Stt.grow (S : Stt K P O β F G env σ H) (e : Ex (hid H (msk F G)) (hid H' (msk F G))) (k : ∀ a ∈ msk F G, H' a = H a) : Stt K P O β F G env σ H' := by
  refine ⟨S.len, S.olen, S.flen, S.nd, fun a m => by rw [k a m]; exact S.pres a m, S.base.trn e, fun i d h => ?_, S.pin, S.z, fun a m => ⟨(S.rr a m).1, by rw [k a (List.mem_append_right _ (S.rr a m).1)]; exact (S.rr a m).2⟩⟩
  obtain ⟨v, h1, h2⟩ := S.slot i d h
  exact ⟨v, h1, h2.frame e _ fun a m => k a (List.mem_append_left _ (getD_mem_flat m))⟩
theorem Stt.ext (S : Stt K P O β F G env σ H) (e : Ex H H') : Stt K P O β F G env σ H' :=
  S.grow (hid_ex e) fun a m => by
    obtain ⟨o, h⟩ := S.pres a m
    rw [h, e a o h]
theorem hid_new0 {p : Addr} {o : HO} (np : p ∉ msk F G) (h : H p = none) : hid (upd H p o) (msk F (p :: G)) = hid H (msk F G) := by
  funext a
  by_cases e : a = p
  · subst e
    rw [hid_in (List.mem_append_right _ List.mem_cons_self), hid_out np, h]
  · by_cases k : a ∈ msk F G
    · rw [hid_in k, hid_in]
      rcases List.mem_append.mp k with k | k
      · exact List.mem_append_left _ k
      · exact List.mem_append_right _ (List.mem_cons_of_mem _ k)
    · rw [hid_out k, hid_out, upd_ne e]
      intro z
      rcases List.mem_append.mp z with z | z
      · exact k (List.mem_append_left _ z)
      · rcases List.mem_cons.mp z with z | z
        · exact e z
        · exact k (List.mem_append_right _ z)
/-- a new owned object in flight -/
theorem Stt.newG (S : Stt K P O β F G env σ H) {p : Addr} {o : HO} (h : H p = none) : Stt K P O β F (p :: G) env σ (upd H p o) := by
  have np := S.fresh h
  have hs : hid (upd H p o) (msk F (p :: G)) = hid H (msk F G) := hid_new0 np h
  refine ⟨S.len, S.olen, S.flen, ?_, fun a m => ?_, by rw [hs]; exact S.base, fun i d q => ?_, S.pin, S.z, fun a m => ⟨List.mem_cons_of_mem _ (S.rr a m).1, (upd_ne fun z => np (by rw [← z]; exact List.mem_append_right _ (S.rr a m).1)).trans (S.rr a m).2⟩⟩
  · have h1 : (msk F (p :: G)).Perm (p :: msk F G) := List.perm_middle
    exact h1.nodup_iff.mpr (List.nodup_cons.mpr ⟨np, S.nd⟩)
  · by_cases e : a = p
    · subst e; exact ⟨_, upd_same⟩
    · rw [upd_ne e]
      refine S.pres a ?_
      rcases List.mem_append.mp m with m | m
      · exact List.mem_append_left _ m
      · rcases List.mem_cons.mp m with m | m
        · exact absurd m e
        · exact List.mem_append_right _ m
  · obtain ⟨v, h1, h2⟩ := S.slot i d q
    refine ⟨v, h1, ?_⟩
    rw [hs]
    refine h2.frame (Ex.rfl' _) _ fun a m => upd_ne fun z => ?_
    subst z
    exact np (List.mem_append_left _ (getD_mem_flat m))
theorem hid_newG (S : Stt K P O β F G env σ H) {p : Addr} {o : HO} (h : H p = none) : hid (upd H p o) (msk F (p :: G)) = hid H (msk F G) := hid_new0 (S.fresh h) h
/-- an object in flight is changed -/
theorem Stt.updG (S : Stt K P O β F G env σ H) {p : Addr} {o : HO} (h : p ∈ G) (hp : p ∉ β.R) : Stt K P O β F G env σ (upd H p o) := by
  have hm : p ∈ msk F G := List.mem_append_right _ h
  have hs : hid (upd H p o) (msk F G) = hid H (msk F G) := hid_chg fun a k => upd_ne fun z => k (z ▸ hm)
  refine ⟨S.len, S.olen, S.flen, S.nd, fun a m => ?_, by rw [hs]; exact S.base, fun i d q => ?_, S.pin, S.z, fun a m => ⟨(S.rr a m).1, (upd_ne fun z => hp (by rw [← z]; exact m)).trans (S.rr a m).2⟩⟩
  · by_cases e : a = p
    · subst e; exact ⟨_, upd_same⟩
    · rw [upd_ne e]; exact S.pres a m
  · obtain ⟨v, h1, h2⟩ := S.slot i d q
    refine ⟨v, h1, ?_⟩
    rw [hs]
    refine h2.frame (Ex.rfl' _) _ fun a m => upd_ne fun z => ?_
    subst z
    exact (List.nodup_append.mp S.nd).2.2 _ (getD_mem_flat m) _ h rfl
theorem hid_updG {p : Addr} {o : HO} (h : p ∈ G) : hid (upd H p o) (msk F G) = hid H (msk F G) := hid_chg fun a k => upd_ne fun z => k (z ▸ List.mem_append_right _ h)
/-- what is in flight lands: shared from now on -/
theorem Stt.dropG (S : Stt K P O β F G env σ H) {G' : List Addr} (hs : G'.Sublist G) (hR : ∀ a ∈ β.R, a ∈ G') : Stt K P O β F G' env σ H := by
  have sb : ∀ a ∈ msk F G', a ∈ msk F G := fun a m => by
    rcases List.mem_append.mp m with m | m
    · exact List.mem_append_left _ m
    · exact List.mem_append_right _ (hs.subset m)
  have e : Ex (hid H (msk F G)) (hid H (msk F G')) := hid_sub sb
  refine ⟨S.len, S.olen, S.flen, S.nd.sublist (List.Sublist.append (List.Sublist.refl _) hs), fun a m => S.pres a (sb a m), S.base.trn e, fun i d q => ?_, S.pin, S.z, fun a m => ⟨hR a m, (S.rr a m).2⟩⟩
  obtain ⟨v, h1, h2⟩ := S.slot i d q
  exact ⟨v, h1, h2.frame e _ fun _ _ => rfl⟩
theorem hid_dropG {G' : List Addr} (hs : ∀ a ∈ G', a ∈ G) : Ex (hid H (msk F G)) (hid H (msk F G')) := hid_sub fun a m => by
    rcases List.mem_append.mp m with m | m
    · exact List.mem_append_left _ m
    · exact List.mem_append_right _ (hs a m)
/-- owned data in flight, landed, are shared -/
theorem own_land {fp : List Addr} {n : Nat} {d : D} {v : V} (hn : (msk F (fp ++ G)).Nodup) (h : Own K (hid H (msk F (fp ++ G))) H n d v fp) : Rp K (hid H (msk F G)) d v := by
  refine h.share (hid_dropG fun a m => List.mem_append_right _ m) n fun a m o q => ?_
  rw [hid_out fun z => ?_]
  · exact q
  · have h1 := (List.nodup_append.mp hn)
    rcases List.mem_append.mp z with z | z
    · exact h1.2.2 _ z _ (List.mem_append_left _ m) rfl
    · exact (List.nodup_append.mp h1.2.1).2.2 _ m _ z rfl
end
/-- from one heap on to another: what is shared is kept, what is in flight is as it was -/
structure Fw (F : List (List Addr)) (G : List Addr) (H H' : Hp) : Prop where
  ex : Ex (hid H (msk F G)) (hid H' (msk F G))
  gs : ∀ a ∈ G, H' a = H a
theorem Fw.rfl' {F : List (List Addr)} {G : List Addr} {H : Hp} : Fw F G H H := ⟨Ex.rfl' _, fun _ _ => rfl⟩
theorem Fw.trn {F : List (List Addr)} {G : List Addr} {H H1 H2 : Hp} (a : Fw F G H H1) (b : Fw F G H1 H2) : Fw F G H H2 := ⟨a.ex.trn b.ex, fun x m => (b.gs x m).trans (a.gs x m)⟩
theorem Fw.of {K : Fg} {P O : List Nat} {β : Bc} {F : List (List Addr)} {G : List Addr} {env : Sl} {σ : L2.St} {H H' : Hp} (S : Stt K P O β F G env σ H) (e : Ex H H') : Fw F G H H' := ⟨hid_ex e, fun a m => by
  obtain ⟨o, h⟩ := S.pres a (List.mem_append_right _ m)
  rw [h, e a o h]⟩
/-- .. and something new in flight -/
structure Fo (F : List (List Addr)) (G fp : List Addr) (H H' : Hp) : Prop where
  ex : Ex (hid H (msk F G)) (hid H' (msk F (fp ++ G)))
  gs : ∀ a ∈ G, H' a = H a
theorem Fw.tro {F : List (List Addr)} {G fp : List Addr} {H H1 H2 : Hp} (a : Fw F G H H1) (b : Fo F G fp H1 H2) : Fo F G fp H H2 := ⟨a.ex.trn b.ex, fun x m => (b.gs x m).trans (a.gs x m)⟩
end M3

/-! MJ -/
set_option Elab.async false
set_option linter.all false
set_option maxRecDepth 100000
set_option maxHeartbeats 4000000
namespace M3
open PySem PySem.Spec PyProof.Rows L2

/-- what a mirror's step comes to -/
inductive Rs (α : Type) where
  | ok (a : α) (e : Sl)
  | exc (c : Addr) (x : D) (e : Sl)
  | bad
def Rs.bind {α γ : Type} (r : Rs α) (k : α → Sl → Rs γ) : Rs γ :=
  match r with
  | .ok a e => k a e
  | .exc c x e => .exc c x e
  | .bad => .bad
abbrev Mi (α : Type) := Sl → Rs α
abbrev M := Mi D

section
variable (X : Cx) (P O : List Nat) (W : WX) (β : Bc) (F : List (List Addr)) (G : List Addr) (σ : L2.St) (H : Hp)
def ExcW (c : Addr) (x : D) (env' : Sl) : Prop := ∀ dx v H', Stt X.K P O β F G env' σ H' → Ex (hid H (msk F G)) (hid H' (msk F G)) → H' dx = some (.xd [("value", v)]) → Rp X.K (hid H' (msk F G)) x v → W (.ref c) (some dx) σ H'
/-- what must hold of a step's outcome: R of it and the heap behind -/
def Pst {α : Type} (b : Bool) (env : Sl) (R : α → Hp → Prop) : Rs α → Prop
  | .ok a env' => ∀ H', Stt X.K P O β F G env' σ H' → Fw F G H H' → (b = true → env' = env ∧ Ex H H') → R a H'
  | .exc c x env' => ExcW X P O W β F G σ H c x env'
  | .bad => False
end

section
variable {X : Cx} {P O : List Nat} {W : WX} {β : Bc} {F : List (List Addr)} {G : List Addr} {σ : L2.St} {H : Hp} {α γ : Type} {b b1 b2 : Bool} {env : Sl}
theorem Pst.imp {R R' : α → Hp → Prop} {r : Rs α} (h : Pst X P O W β F G σ H b env R r) (g : ∀ a H', R a H' → R' a H') : Pst X P O W β F G σ H b env R' r := by
  cases r with
  | ok a e => exact fun H' S x p => g _ _ (h H' S x p)
  | exc c x e => exact h
  | bad => exact h
theorem Pst.weak {R : α → Hp → Prop} {r : Rs α} (h : Pst X P O W β F G σ H b env R r) (hb : b = true → b1 = true) : Pst X P O W β F G σ H b1 env R r := by
  cases r with
  | ok a e => exact fun H' S x p => h H' S x fun q => p (hb q)
  | exc c x e => exact h
  | bad => exact h
/-- one step, then the rest -/
theorem Pst.bind {R : γ → Hp → Prop} {R1 : α → Hp → Prop} {r : Rs α} {k : α → Sl → Rs γ} (h : Pst X P O W β F G σ H (b1 && b2) env R (r.bind k))
    (step : ∀ a env1 H1, Stt X.K P O β F G env1 σ H1 → Fw F G H H1 → (b1 = true → env1 = env ∧ Ex H H1) → Pst X P O W β F G σ H1 b2 env1 R (k a env1) → R1 a H1) : Pst X P O W β F G σ H b1 env R1 r := by
  cases r with
  | ok a e =>
    intro H1 S1 x1 p1
    refine step a e H1 S1 x1 p1 ?_
    have h' : Pst X P O W β F G σ H (b1 && b2) env R (k a e) := h
    cases q : k a e with
    | ok a2 e2 =>
      rw [q] at h'
      intro H2 S2 x2 p2
      refine h' H2 S2 (x1.trn x2) fun hb => ?_
      rw [Bool.and_eq_true] at hb
      obtain ⟨e1, g1⟩ := p1 hb.1
      obtain ⟨e2, g2⟩ := p2 hb.2
      exact ⟨e2.trans e1, g1.trn g2⟩
    | exc c x e2 =>
      rw [q] at h'
      exact fun dx v H2 S2 x2 => h' dx v H2 S2 (x1.ex.trn x2)
    | bad => rw [q] at h'; exact h'
  | exc c x e => exact h
  | bad => exact h
end

/-! ### the judgements -/
/-- an expression: n the depth to which it is borrowed, b: it changes nothing -/
structure ME (X : Cx) (P O : List Nat) (W : WX) (n : Nat) (b : Bool) (e : Expr) (m : M) : Prop where
  run : ∃ t, PE X e t ∧ ∀ β F G env σ H Q, Stt X.K P O β F G env σ H →
    Pst X P O W β F G σ H b env (fun d H' => ∀ v, Bor X.K (hid H' (msk F G)) H' n d v → Q v H') (m env) → t σ H Q
/-- a test -/
structure MT (X : Cx) (P O : List Nat) (W : WX) (b : Bool) (e : Expr) (m : M) : Prop where
  run : ∃ t, PT X e t ∧ ∀ β F G env σ H Q, Stt X.K P O β F G env σ H →
    Pst X P O W β F G σ H b env (fun d H' => ∃ c, d = .bl c ∧ Q c H') (m env) → t σ H Q
structure MW (X : Cx) (P O : List Nat) (W : WX) (b : Bool) (e : Expr) (m : M) : Prop where
  run : ∃ t, PW X e t ∧ ∀ β F G env σ H Q, Stt X.K P O β F G env σ H →
    Pst X P O W β F G σ H b env (fun d H' => ∃ c, d = .bl c ∧ Q c H') (m env) → t σ H Q
theorem MW.mt {X : Cx} {P O : List Nat} {W : WX} {b : Bool} {e : Expr} {m : M} (h : MW X P O W b e m) : MT X P O W b e m := by
  obtain ⟨t, h1, h2⟩ := h.run
  exact ⟨t, h1.pt, h2⟩
/-- arguments, shared each -/
structure MA (X : Cx) (P O : List Nat) (W : WX) (b : Bool) (es : List Expr) (m : Mi (List D)) : Prop where
  run : ∃ t, PA X es t ∧ ∀ β F G env σ H Q, Stt X.K P O β F G env σ H →
    Pst X P O W β F G σ H b env (fun ds H' => ∀ vs, Rps X.K (hid H' (msk F G)) ds vs → Q vs H') (m env) → t σ H Q
/-- arguments of a built-in, borrowed to any depth: all that follow the first change nothing -/
structure MAB (X : Cx) (P O : List Nat) (W : WX) (n : Nat) (b : Bool) (es : List Expr) (m : Mi (List D)) : Prop where
  run : ∃ t, PA X es t ∧ ∀ β F G env σ H Q, Stt X.K P O β F G env σ H →
    Pst X P O W β F G σ H b env (fun ds H' => ∀ vs, All2 (Bor X.K (hid H' (msk F G)) H' n) ds vs → Q vs H') (m env) → t σ H Q
/-- of a step that makes a new thing, owned to the depth n -/
def PstO (X : Cx) (P O : List Nat) (W : WX) (β : Bc) (F : List (List Addr)) (G : List Addr) (σ : L2.St) (H : Hp) (n : Nat) (b : Bool) (env : Sl) (Q : VK) : Rs D → Prop
  | .ok d env' => ∀ v H' fp, Stt X.K P O β F (fp ++ G) env' σ H' → Fo F G fp H H' → (b = true → env' = env ∧ Ex H H') → Own X.K (hid H' (msk F (fp ++ G))) H' n d v fp → Q v H'
  | .exc c x env' => ExcW X P O W β F G σ H c x env'
  | .bad => False
/-- an expression that makes a new thing, owned to the depth n -/
structure MO (X : Cx) (P O : List Nat) (W : WX) (n : Nat) (b : Bool) (e : Expr) (m : M) : Prop where
  run : ∃ t, PE X e t ∧ ∀ β F G env σ H Q, Stt X.K P O β F G env σ H →
    PstO X P O W β F G σ H n b env Q (m env) → t σ H Q

/-! ### outcomes of operations -/
/-- the datum is flat, v its value -/
def Flat : D → V → Prop
  | .non, v => v = .non
  | .bl b, v => v = .bl b
  | .int i, v => v = .int i
  | .str x, v => v = .str x
  | .val u, v => v = u
  | _, _ => False
theorem Flat.rp {K : Fg} {H : Hp} : ∀ {d : D} {v : V}, Flat d v → Rp K H d v
  | .non, _, h => h
  | .bl _, _, h => h
  | .int _, _, h => h
  | .str _, _, h => h
  | .val _, _, h => h
  | .lst _, _, h => h.elim
  | .tup _, _, h => h.elim
  | .dct _ _, _, h => h.elim
  | .fro _, _, h => h.elim
/-- something shared as it lies, or a new list or tuple of shared things -/
def Out (K : Fg) (Hs H H' : Hp) (d : D) (v : V) : Prop :=
  (H' = H ∧ Rp K Hs d v) ∨ ∃ p, H p = none ∧ v = .ref p ∧ ((∃ l xs, d = .lst l ∧ H' = upd H p (.lst xs) ∧ Rps K Hs l xs) ∨ (∃ l xs, d = .tup l ∧ H' = upd H p (.tup xs) ∧ Rps K Hs l xs))
theorem Out.flat {K : Fg} {Hs H : Hp} {d : D} {v : V} (h : Flat d v) : Out K Hs H H d v := .inl ⟨rfl, h.rp⟩

section
variable {K : Fg} {P O : List Nat} {β : Bc} {F : List (List Addr)} {G : List Addr} {env : Sl} {σ : L2.St} {H H' : Hp} {d : D} {v : V}
theorem Out.ex (h : Out K (hid H (msk F G)) H H' d v) : Ex H H' := by
  rcases h with ⟨rfl, _⟩ | ⟨p, hp, _, ⟨l, xs, _, rfl, _⟩ | ⟨l, xs, _, rfl, _⟩⟩
  · exact Ex.rfl' _
  · exact Ex.new hp
  · exact Ex.new hp
theorem Out.rp (S : Stt K P O β F G env σ H) (h : Out K (hid H (msk F G)) H H' d v) : Rp K (hid H' (msk F G)) d v := by
  have e := h.ex
  rcases h with ⟨rfl, r⟩ | ⟨p, hp, rfl, ⟨l, xs, rfl, rfl, r⟩ | ⟨l, xs, rfl, rfl, r⟩⟩
  · exact r
  · refine ⟨p, xs, rfl, ?_, Rps.ex (hid_ex e) _ r⟩
    rw [hid_out (S.fresh hp), upd_same]
  · refine ⟨p, xs, rfl, .inl ?_, Rps.ex (hid_ex e) _ r⟩
    rw [hid_out (S.fresh hp), upd_same]
end

/-- an operation of two things, its outcome flat -/
def OpS (X : Cx) (g : Value → Value → Sem Value) (f : D → D → Option D) : Prop :=
  ∃ r, OpR X g r ∧ ∀ H d1 d2 v1 v2 d Q, f d1 d2 = some d → Rp X.K H d1 v1 → Rp X.K H d2 v2 → (∀ v, Flat d v → Q v H) → r v1 v2 H Q
/-- an operation of two things, its outcome new or flat -/
def OpG (X : Cx) (g : Value → Value → Sem Value) (f : D → D → Option D) : Prop :=
  ∃ r, OpR X g r ∧ ∀ Hs H d1 d2 v1 v2 d Q, Ex Hs H → f d1 d2 = some d → Bor X.K Hs H 1 d1 v1 → Bor X.K Hs H 1 d2 v2 → (∀ v H', Out X.K Hs H H' d v → Q v H') → r v1 v2 H Q
def UnS (X : Cx) (g : Value → Sem Value) (f : D → Option D) : Prop :=
  ∃ r, UnR X g r ∧ ∀ H d1 v1 d Q, f d1 = some d → Rp X.K H d1 v1 → (∀ v, Flat d v → Q v H) → r v1 H Q
/-- a call of a built-in -/
def CallS (X : Cx) (g : Value) (f : List D → Option D) : Prop :=
  ∃ r, CallR X g r ∧ ∀ H ds vs d Q, f ds = some d → Rps X.K H ds vs → (∀ v, Flat d v → Q v H) → r vs H Q
def CallG (X : Cx) (g : Value) (f : List D → Option D) : Prop :=
  ∃ r, CallR X g r ∧ ∀ Hs H ds vs d Q, Ex Hs H → f ds = some d → All2 (Bor X.K Hs H 1) ds vs → (∀ v H', Out X.K Hs H H' d v → Q v H') → r vs H Q

/-! ### mirrors of expressions -/
def liftO {α : Type} (o : Option α) (e : Sl) : Rs α := match o with | some a => .ok a e | none => .bad
def mVar (i : Nat) : M := fun e => match e[i]? with | some (some d) => .ok d e | _ => .bad
def mC (d : D) : M := fun e => .ok d e
def m1 (f : D → Option D) (a : M) : M := fun e => (a e).bind fun x e1 => liftO (f x) e1
def m2 (f : D → D → Option D) (a b : M) : M := fun e => (a e).bind fun x e1 => (b e1).bind fun y e2 => liftO (f x y) e2
def mf (f : List D → Option D) (a : Mi (List D)) : M := fun e => (a e).bind fun x e1 => liftO (f x) e1
def mNil : Mi (List D) := fun e => .ok [] e
def mCons (a : M) (r : Mi (List D)) : Mi (List D) := fun e => (a e).bind fun x e1 => (r e1).bind fun xs e2 => .ok (x :: xs) e2
def mIf (c a b : M) : M := fun e => (c e).bind fun x e1 => match x with | .bl true => a e1 | .bl false => b e1 | _ => .bad
def mNot (c : M) : M := fun e => (c e).bind fun x e1 => match x with | .bl k => .ok (.bl !k) e1 | _ => .bad
def mAnd (a b : M) : M := fun e => (a e).bind fun x e1 => match x with | .bl true => b e1 | .bl false => .ok (.bl false) e1 | _ => .bad
def mOr (a b : M) : M := fun e => (a e).bind fun x e1 => match x with | .bl true => .ok (.bl true) e1 | .bl false => b e1 | _ => .bad

section
variable {X : Cx} {P O : List Nat} {W : WX} {n k n1 n2 : Nat} {b b1 b2 b3 : Bool} {e a c : Expr} {m ma mb mc : M} {pos : Pos} {es : List Expr} {ms : Mi (List D)}

theorem Pst.lift {α : Type} {β : Bc} {F : List (List Addr)} {G : List Addr} {σ : L2.St} {H : Hp} {env : Sl} {R : α → Hp → Prop} {o : Option α} (h : Pst X P O W β F G σ H b env R (liftO o env)) : ∃ a, o = some a ∧ Pst X P O W β F G σ H b env R (.ok a env) := by
  cases o with
  | none => exact h.elim
  | some a => exact ⟨a, rfl, h⟩

theorem ME.weak (h : ME X P O W n b e m) (hb : b1 = true → b = true := by intro h; exact h) : ME X P O W n b1 e m := by
  obtain ⟨t, h1, h2⟩ := h.run
  exact ⟨t, h1, fun β F G env σ H Q S p => h2 β F G env σ H Q S (p.weak hb)⟩
theorem ME.up (h : ME X P O W 0 b e m) : ME X P O W n b e m := by
  obtain ⟨t, h1, h2⟩ := h.run
  exact ⟨t, h1, fun β F G env σ H Q S p => h2 β F G env σ H Q S (p.imp fun d H' q v hv => q v (Bor.up n hv))⟩

theorem me_var (i : Nat) {x : Str} {O : List Nat} (hO : O.getD i 0 = n := by rfl) (hN : X.N[i]? = some x := by rfl) (hv : Vis X.env.scope x := by first | exact Or.inl rfl | exact Or.inr (Or.inl rfl) | exact Or.inr (Or.inr rfl)) (hd : (x == ("__debug__" : Str)) = false := by decide)
    (hcd : (x == ("__classdict__" : Str)) = false := by decide) : ME X P O W n true (.Name x pos) (mVar i) := by
  refine ⟨_, pe_var hN hv hd hcd, fun β F G env σ H Q S p => ?_⟩
  cases q : env[i]? with
  | none =>
    have : mVar i env = .bad := by unfold mVar; rw [q]
    rw [this] at p; exact p.elim
  | some o =>
    cases o with
    | none =>
      have : mVar i env = .bad := by unfold mVar; rw [q]
      rw [this] at p; exact p.elim
    | some d =>
      have e : mVar i env = .ok d env := by unfold mVar; rw [q]
      rw [e] at p
      obtain ⟨v, h1, h2⟩ := S.slot i d q
      rw [hO] at h2
      exact ⟨v, h1, p H S Fw.rfl' (fun _ => ⟨rfl, Ex.rfl' _⟩) v h2.bor⟩
theorem me_c {t : TE} {d : D} {v : V} (h : PE X e (tC v)) (hf : Flat d v) : ME X P O W 0 true e (mC d) :=
  ⟨_, h, fun β F G env σ H Q S p => p H S Fw.rfl' (fun _ => ⟨rfl, Ex.rfl' _⟩) v hf.rp⟩
theorem me_int {i j} : ME X P O W 0 true (.Constant (.int i) j pos) (mC (.int i)) := me_c (t := tC .non) pe_int rfl
theorem me_bl {i j} : ME X P O W 0 true (.Constant (.bool i) j pos) (mC (.bl i)) := me_c (t := tC .non) pe_bl rfl
theorem me_non {j} : ME X P O W 0 true (.Constant .none j pos) (mC .non) := me_c (t := tC .non) pe_non rfl
theorem me_str {i j} : ME X P O W 0 true (.Constant (.str i) j pos) (mC (.str i)) := me_c (t := tC .non) pe_str rfl
/-- a module's name that holds a flat thing -/
theorem me_glob {x : Str} {d : D} {v : V} {u : Value} (hg : Gl X x) (hm : X.mg x = some u) (r : RelV v u) (hf : Flat d v) (hd : (x == ("__debug__" : Str)) = false := by decide) : ME X P O W 0 true (.Name x pos) (mC d) :=
  me_c (t := tC .non) (pe_glob hg hm r hd) hf

/-- two operands -/
theorem me_2S {op : Expr} {f : D → D → Option D} {tt : R2 → TE → TE → TE} {r : R2} (hr : ∀ H d1 d2 v1 v2 d Q, f d1 d2 = some d → Rp X.K H d1 v1 → Rp X.K H d2 v2 → (∀ v, Flat d v → Q v H) → r v1 v2 H Q)
    (hp : ∀ ta tb, PE X a ta → PE X c tb → PE X op (tOp r ta tb)) (ha : ME X P O W n1 b1 a ma) (hb : ME X P O W n2 b2 c mb) (hm : (n1 == 0 || b2) = true) : ME X P O W 0 (b1 && b2) op (m2 f ma mb) := by
  obtain ⟨ta, pa, ha⟩ := ha.run
  obtain ⟨tb, pb, hb⟩ := hb.run
  refine ⟨_, hp _ _ pa pb, fun β F G env σ H Q S p => ?_⟩
  refine ha β F G env σ H _ S (p.bind fun d1 env1 H1 S1 x1 p1 q v1 r1 => ?_)
  have q' : Pst X P O W β F G σ H1 (b2 && true) env1 (fun d H' => ∀ v, Bor X.K (hid H' (msk F G)) H' 0 d v → Q v H') ((mb env1).bind fun y e2 => liftO (f d1 y) e2) := by rw [Bool.and_true]; exact q
  refine hb β F G env1 σ H1 _ S1 (q'.bind fun d2 env2 H2 S2 x2 p2 q2 v2 r2 => ?_)
  obtain ⟨d, e, q3⟩ := q2.lift
  have r1' : Bor X.K (hid H2 (msk F G)) H2 n1 d1 v1 := r1.mono x2.ex _ (by
    rcases Bool.or_eq_true _ _ ▸ hm with h | h
    · exact .inl (by simpa using h)
    · exact .inr (p2 h).2)
  exact hr H2 d1 d2 v1 v2 d _ e (r1'.rp hid_le) (r2.rp hid_le) fun v hv => q3 H2 S2 Fw.rfl' (fun _ => ⟨rfl, Ex.rfl' _⟩) v hv.rp
theorem me_bin {op : Operator} {f : D → D → Option D} (ho : OpS X (binaryOp op) f) (ha : ME X P O W n1 b1 a ma) (hb : ME X P O W n2 b2 c mb) (hm : (n1 == 0 || b2) = true := by rfl) : ME X P O W 0 (b1 && b2) (.BinOp a op c pos) (m2 f ma mb) := by
  obtain ⟨r, h1, h2⟩ := ho
  exact me_2S (tt := tOp) h2 (fun ta tb => pe_op h1) ha hb hm
theorem me_cmp {op : CmpOp} {f : D → D → Option D} (ho : OpS X (compareOp op) f) (ha : ME X P O W n1 b1 a ma) (hb : ME X P O W n2 b2 c mb) (hk : behindInMarks op c = false := by first | exact nomark _ | rfl) (hm : (n1 == 0 || b2) = true := by rfl) : ME X P O W 0 (b1 && b2) (.Compare a [op] [c] pos) (m2 f ma mb) := by
  obtain ⟨r, h1, h2⟩ := ho
  exact me_2S (tt := tOp) h2 (fun ta tb pa pb => pe_cmpR h1 pa pb hk) ha hb hm
theorem me_un {op : UnaryOp} {f : D → Option D} (ho : UnS X (unaryOp op) f) (ha : ME X P O W n1 b1 a ma) : ME X P O W 0 b1 (.UnaryOp op a pos) (m1 f ma) := by
  obtain ⟨r, h1, h2⟩ := ho
  obtain ⟨ta, pa, ha⟩ := ha.run
  refine ⟨_, pe_un h1 pa, fun β F G env σ H Q S p => ?_⟩
  have p' : Pst X P O W β F G σ H (b1 && true) env (fun d H' => ∀ v, Bor X.K (hid H' (msk F G)) H' 0 d v → Q v H') ((ma env).bind fun x e1 => liftO (f x) e1) := by rw [Bool.and_true]; exact p
  refine ha β F G env σ H _ S (p'.bind fun d1 env1 H1 S1 x1 p1 q v1 r1 => ?_)
  obtain ⟨d, e, q3⟩ := q.lift
  exact h2 H1 d1 v1 d _ e (r1.rp hid_le) fun v hv => q3 H1 S1 Fw.rfl' (fun _ => ⟨rfl, Ex.rfl' _⟩) v hv.rp
end
end M3

/-! MX -/
set_option Elab.async false
set_option linter.all false
set_option maxRecDepth 100000
set_option maxHeartbeats 4000000
namespace M3
open PySem PySem.Spec PyProof.Rows L2

/-! ### whole numbers, sums of texts and of lists -/
@[irreducible] def bigN : Nat := 2 ^ 400000
@[irreducible] def divN : Nat := 2 ^ 8000
theorem bigN_e : bigN = 2 ^ 400000 := by unfold bigN; rfl
theorem divN_e : divN = 2 ^ 8000 := by unfold divN; rfl
def lim : Nat := 1000000
theorem lim_le {n : Nat} (h : n ≤ lim) : n ≤ sizeLine := Nat.le_trans h (by decide)
theorem lim_lt {n : Nat} (h : n < lim) : n < sizeLine := Nat.lt_of_lt_of_le h (by decide)
theorem log2_of {n a : Nat} (h : n < 2 ^ a) (ha : 0 < a) : n.log2 < a := PySem.Flt.log2_lt_of ha h

def D.add : D → D → Option D
  | .int i, .int j => some (.int (i + j))
  | .str x, .str y => if x.length + y.length ≤ lim then some (.str (x ++ y)) else none
  | .lst l, .lst m => if l.length + m.length ≤ lim then some (.lst (l ++ m)) else none
  | .tup l, .tup m => if l.length + m.length ≤ lim then some (.tup (l ++ m)) else none
  | _, _ => none
def D.sub : D → D → Option D
  | .int i, .int j => some (.int (i - j))
  | .bl i, .bl j => some (.int (b2i i - b2i j))
  | _, _ => none
def D.mul : D → D → Option D
  | .int i, .int j => if i.natAbs < bigN ∧ j.natAbs < bigN then some (.int (i * j)) else none
  | .lst l, .int k => if l.length * k.toNat ≤ lim ∧ -1000000 ≤ k ∧ k ≤ 1000000 then some (.lst (List.replicate k.toNat l).flatten) else none
  | _, _ => none
def D.fdiv : D → D → Option D
  | .int i, .int j => if j ≠ 0 ∧ j.natAbs < divN then some (.int (i.fdiv j)) else none
  | _, _ => none
def D.fmod : D → D → Option D
  | .int i, .int j => if j ≠ 0 then some (.int (i.fmod j)) else none
  | _, _ => none
def D.pow : D → D → Option D
  | .int i, .int j => if 0 ≤ j ∧ j ≤ 1000 ∧ i.natAbs < 2 ^ 1000 then some (.int (i ^ j.toNat)) else none
  | _, _ => none
def D.neg : D → Option D
  | .int i => some (.int (-i))
  | _ => none

section
variable {X : Cx}
theorem Rps.bor {K : Fg} {Hs H : Hp} : ∀ {l : List D} {xs : List V}, All2 (Bor K Hs H 0) l xs → Rps K Hs l xs := fun h => All2.rps h
theorem oAdd : OpG X (binaryOp .Add) D.add := by
  refine ⟨_, op_add.or (op_add_str.or (op_cat.or op_catA)), fun Hs H d1 d2 v1 v2 d Q e hf r1 r2 q => ?_⟩
  cases d1 with
  | int i =>
    cases d2 with
    | int j =>
      cases hf
      obtain rfl := (r1.rp e : v1 = _); obtain rfl := (r2.rp e : v2 = _)
      exact .inl ⟨i, j, rfl, rfl, q _ _ (.flat rfl)⟩
    | _ => cases hf
  | str x =>
    cases d2 with
    | str y =>
      obtain rfl := (r1.rp e : v1 = _); obtain rfl := (r2.rp e : v2 = _)
      dsimp only [D.add] at hf
      split at hf
      · cases hf
        exact .inr (.inl ⟨x, y, rfl, rfl, lim_le (by assumption), q _ _ (.flat rfl)⟩)
      · cases hf
    | _ => cases hf
  | lst l =>
    cases d2 with
    | lst m =>
      obtain ⟨a, xs, rfl, h1, h2⟩ := r1.list e
      obtain ⟨b, ys, rfl, h3, h4⟩ := r2.list e
      dsimp only [D.add] at hf
      split at hf
      · rename_i hl
        cases hf
        refine .inr (.inr (.inl ⟨a, b, xs, ys, rfl, rfl, h1, h3, ?_, fun p hp => q _ _ (.inr ⟨p, hp, rfl, .inl ⟨_, _, rfl, rfl, (All2.rps h2).app (All2.rps h4)⟩⟩)⟩))
        rw [h2.len, h4.len]; exact lim_le hl
      · cases hf
    | _ => cases hf
  | tup l =>
    cases d2 with
    | tup m =>
      obtain ⟨a, xs, rfl, h1, h2⟩ := r1.tuple e
      obtain ⟨b, ys, rfl, h3, h4⟩ := r2.tuple e
      dsimp only [D.add] at hf
      split at hf
      · rename_i hl
        cases hf
        refine .inr (.inr (.inr ⟨a, b, xs, ys, rfl, rfl, h1.t, h3.t, ?_, fun z => ?_, fun _ z => ?_, fun _ _ p hp => q _ _ (.inr ⟨p, hp, rfl, .inr ⟨_, _, rfl, rfl, h2.app h4⟩⟩)⟩))
        · rw [h2.len, h4.len]; exact lim_le hl
        · have zl : l = [] := List.eq_nil_of_length_eq_zero (by rw [← h2.len, z]; rfl)
          subst zl
          refine q _ _ (.inl ⟨rfl, ?_⟩)
          cases r2 with
          | inl h => exact h
          | inr h =>
            obtain ⟨_, _, _, ⟨_, z, _⟩ | ⟨_, _, z, _⟩⟩ := h <;> cases z
        · have zl : m = [] := List.eq_nil_of_length_eq_zero (by rw [← h4.len, z]; rfl)
          subst zl
          rw [List.append_nil] at q
          refine q _ _ (.inl ⟨rfl, ?_⟩)
          cases r1 with
          | inl h => exact h
          | inr h =>
            obtain ⟨_, _, _, ⟨_, z, _⟩ | ⟨_, _, z, _⟩⟩ := h <;> cases z
      · cases hf
    | _ => cases hf
  | _ => cases d2 <;> cases hf
theorem op_sub_bb : OpR X (binaryOp .Sub) (fun x y H Q => ∃ i j, x = .bl i ∧ y = .bl j ∧ Q (.int (b2i i - b2i j)) H) := by
  intro pins s σ H x y v u Q I rx ry h
  obtain ⟨i, j, rfl, rfl, q⟩ := h
  cases rx
  cases ry
  exact sub_bool ⟨.int _, H, I.tok _, ⟨_, rfl⟩, q⟩
theorem oSub : OpS X (binaryOp .Sub) D.sub := by
  refine ⟨_, op_sub.or op_sub_bb, fun H d1 d2 v1 v2 d Q hf r1 r2 q => ?_⟩
  cases d1 with
  | int i =>
    cases d2 with
    | int j =>
      cases hf
      obtain rfl := (r1 : v1 = _); obtain rfl := (r2 : v2 = _)
      exact .inl ⟨i, j, rfl, rfl, q _ rfl⟩
    | _ => cases hf
  | bl i =>
    cases d2 with
    | bl j =>
      cases hf
      obtain rfl := (r1 : v1 = _); obtain rfl := (r2 : v2 = _)
      exact .inr ⟨i, j, rfl, rfl, q _ rfl⟩
    | _ => cases hf
  | _ => cases d2 <;> cases hf
set_option exponentiation.threshold 500000 in
theorem mulW_of {i j : Int} (h : i.natAbs < bigN ∧ j.natAbs < bigN) : CMulW i j := by
  have g1 : i.natAbs < 2 ^ 400000 := bigN_e ▸ h.1
  have g2 : j.natAbs < 2 ^ 400000 := bigN_e ▸ h.2
  have h1 : i.natAbs.log2 < 400000 := log2_of g1 (by decide)
  have h2 : j.natAbs.log2 < 400000 := log2_of g2 (by decide)
  unfold CMulW
  omega
theorem oMul : OpG X (binaryOp .Mult) D.mul := by
  refine ⟨_, op_mulW.or op_rep, fun Hs H d1 d2 v1 v2 d Q e hf r1 r2 q => ?_⟩
  cases d1 with
  | int i =>
    cases d2 with
    | int j =>
      obtain rfl := (r1.rp e : v1 = _); obtain rfl := (r2.rp e : v2 = _)
      dsimp only [D.mul] at hf
      split at hf
      · cases hf
        exact .inl ⟨i, j, rfl, rfl, mulW_of (by assumption), q _ _ (.flat rfl)⟩
      · cases hf
    | _ => cases hf
  | lst l =>
    cases d2 with
    | int k =>
      obtain ⟨a, xs, rfl, h1, h2⟩ := r1.list e
      obtain rfl := (r2.rp e : v2 = _)
      dsimp only [D.mul] at hf
      split at hf
      · rename_i hl
        cases hf
        refine .inr ⟨a, k, xs, rfl, rfl, h1, by omega, by omega, ?_, fun p hp => q _ _ (.inr ⟨p, hp, rfl, .inl ⟨_, _, rfl, rfl, ?_⟩⟩)⟩
        · rw [h2.len]; exact lim_le hl.1
        · have h3 : Rps X.K Hs l xs := All2.rps h2
          generalize k.toNat = n
          induction n with
          | zero => rfl
          | succ n ih =>
            rw [List.replicate_succ, List.replicate_succ, List.flatten_cons, List.flatten_cons]
            exact h3.app ih
      · cases hf
    | _ => cases hf
  | _ => cases d2 <;> cases hf
set_option exponentiation.threshold 500000 in
theorem op_fdivZ : OpR X (binaryOp .FloorDiv) (rI (fun _ j => j ≠ 0 ∧ j.natAbs < divN) fun i j => .int (i.fdiv j)) :=
  opI fun _ _ _ _ _ _ _ hc q => floordiv_int hc.1 q (.inl (PyProof.noPylong_of_log2 (Nat.lt_trans (log2_of (a := 8000) (divN_e ▸ hc.2) (by decide)) (by decide))))
theorem oFdiv : OpS X (binaryOp .FloorDiv) D.fdiv := by
  refine ⟨_, op_fdivZ, fun H d1 d2 v1 v2 d Q hf r1 r2 q => ?_⟩
  cases d1 with
  | int i =>
    cases d2 with
    | int j =>
      obtain rfl := (r1 : v1 = _); obtain rfl := (r2 : v2 = _)
      dsimp only [D.fdiv] at hf
      split at hf
      · cases hf
        exact ⟨i, j, rfl, rfl, by assumption, q _ rfl⟩
      · cases hf
    | _ => cases hf
  | _ => cases d2 <;> cases hf
theorem oFmod : OpS X (binaryOp .Mod) D.fmod := by
  refine ⟨_, op_modN, fun H d1 d2 v1 v2 d Q hf r1 r2 q => ?_⟩
  cases d1 with
  | int i =>
    cases d2 with
    | int j =>
      obtain rfl := (r1 : v1 = _); obtain rfl := (r2 : v2 = _)
      dsimp only [D.fmod] at hf
      split at hf
      · cases hf
        exact ⟨i, j, rfl, rfl, by assumption, q _ rfl⟩
      · cases hf
    | _ => cases hf
  | _ => cases d2 <;> cases hf
theorem op_powZ : OpR X (binaryOp .Pow) (rI (fun i j => 0 ≤ j ∧ j ≤ 1000 ∧ i.natAbs < 2 ^ 1000) fun i j => .int (i ^ j.toNat)) :=
  opI fun i j _ _ _ _ _ hc q => pow_int hc.1 (by
    have h1 : i.natAbs.log2 < 1000 := log2_of hc.2.2 (by decide)
    have h2 : (Builtin.Int.intBits i : Int) ≤ 1001 := by
      unfold Builtin.Int.intBits
      split <;> omega
    have h3 : (Builtin.Int.intBits i : Int) * j ≤ 1001 * 1000 := Int.mul_le_mul h2 hc.2.1 hc.1 (by omega)
    omega) q
theorem oPow : OpS X (binaryOp .Pow) D.pow := by
  refine ⟨_, op_powZ, fun H d1 d2 v1 v2 d Q hf r1 r2 q => ?_⟩
  cases d1 with
  | int i =>
    cases d2 with
    | int j =>
      obtain rfl := (r1 : v1 = _); obtain rfl := (r2 : v2 = _)
      dsimp only [D.pow] at hf
      split at hf
      · cases hf
        exact ⟨i, j, rfl, rfl, by assumption, q _ rfl⟩
      · cases hf
    | _ => cases hf
  | _ => cases d2 <;> cases hf
theorem oNeg : UnS X (unaryOp .USub) D.neg := by
  refine ⟨_, un_neg, fun H d1 v1 d Q hf r1 q => ?_⟩
  cases d1 with
  | int i =>
    cases hf
    obtain rfl := (r1 : v1 = _)
    exact ⟨i, rfl, q _ rfl⟩
  | _ => cases hf

/-! ### comparisons -/
def cmpI (p : Int → Int → Bool) : D → D → Option D
  | .int i, .int j => some (.bl (p i j))
  | _, _ => none
abbrev D.lt := cmpI fun i j => decide (i < j)
abbrev D.le := cmpI fun i j => decide (i ≤ j)
abbrev D.gt := cmpI fun i j => decide (j < i)
abbrev D.ge := cmpI fun i j => decide (j ≤ i)
theorem oCmp {g : Value → Value → Sem Value} {p : Int → Int → Bool} (h : OpR X g (rI0 fun i j => .bl (p i j))) : OpS X g (cmpI p) := by
  refine ⟨_, h, fun H d1 d2 v1 v2 d Q hf r1 r2 q => ?_⟩
  cases d1 with
  | int i =>
    cases d2 with
    | int j =>
      cases hf
      obtain rfl := (r1 : v1 = _); obtain rfl := (r2 : v2 = _)
      exact ⟨i, j, rfl, rfl, q _ rfl⟩
    | _ => cases hf
  | _ => cases d2 <;> cases hf
theorem oLt : OpS X (compareOp .Lt) D.lt := oCmp op_lt
theorem oLe : OpS X (compareOp .LtE) D.le := oCmp op_le
theorem oGt : OpS X (compareOp .Gt) D.gt := oCmp op_gt
theorem oGe : OpS X (compareOp .GtE) D.ge := oCmp op_ge

mutual
def D.py : D → Option PyData
  | .non => some .none
  | .bl b => some (.bool b)
  | .int i => some (.int i)
  | .str x => some (.str x)
  | .lst l => (D.pys l).map .list
  | .tup l => (D.pys l).map .tuple
  | .dct _ _ => none
  | .fro _ => none
  | .val _ => none
def D.pys : List D → Option (List PyData)
  | [] => some []
  | d :: l => match D.py d, D.pys l with | some a, some r => some (a :: r) | _, _ => none
end
mutual
theorem D.dp {K : Fg} {H : Hp} : ∀ (d : D) {v : V} {p : PyData}, D.py d = some p → Rp K H d v → Dp K H v p
  | .non, _, _, e, h => by cases e; cases (h : _ = _); exact .non
  | .bl _, _, _, e, h => by cases e; cases (h : _ = _); exact .bl _
  | .int _, _, _, e, h => by cases e; cases (h : _ = _); exact .int _
  | .str _, _, _, e, h => by cases e; cases (h : _ = _); exact .str _
  | .lst l, _, _, e, ⟨a, xs, h1, h2, h3⟩ => by
    unfold D.py at e
    cases q : D.pys l with
    | none => rw [q] at e; cases e
    | some r =>
      rw [q] at e; cases e; subst h1
      exact .lst (SqL.of h2) (D.dps l q h3)
  | .tup l, _, _, e, ⟨a, xs, h1, h2, h3⟩ => by
    unfold D.py at e
    cases q : D.pys l with
    | none => rw [q] at e; cases e
    | some r =>
      rw [q] at e; cases e; subst h1
      exact .tup h2.t (D.dps l q h3)
  | .dct _ _, _, _, e, _ => by cases e
  | .fro _, _, _, e, _ => by cases e
  | .val _, _, _, e, _ => by cases e
theorem D.dps {K : Fg} {H : Hp} : ∀ (l : List D) {xs : List V} {ps : List PyData}, D.pys l = some ps → Rps K H l xs → DpAll K H xs ps
  | [], _, _, e, h => by cases e; rw [show _ = _ from h]; exact .nil
  | d :: l, _, _, e, ⟨x, r, h1, h2, h3⟩ => by
    unfold D.pys at e
    cases q1 : D.py d with
    | none => rw [q1] at e; cases e
    | some a =>
      cases q2 : D.pys l with
      | none => rw [q1, q2] at e; cases e
      | some rr =>
        rw [q1, q2] at e; cases e; subst h1
        exact .cons (D.dp d q1 h2) (D.dps l q2 h3)
end
/-- the data that == takes -/
def D.shaped (d : D) : Option PyData := match D.py d with | some p => if SeqAt.shaped p = true then some p else none | none => none
def D.beq (d e : D) : Option Bool := match D.shaped d, D.shaped e with | some p, some q => some (PyData.eqv p q) | _, _ => none
def D.eq (d e : D) : Option D := (D.beq d e).map .bl
def D.ne (d e : D) : Option D := (D.beq d e).map fun b => .bl !b
theorem D.shaped_dp {K : Fg} {H : Hp} {d : D} {v : V} {p : PyData} (h : D.shaped d = some p) (r : Rp K H d v) : Dp K H v p ∧ SeqAt.shaped p = true := by
  unfold D.shaped at h
  cases q : D.py d with
  | none => rw [q] at h; cases h
  | some p' =>
    rw [q] at h
    dsimp only at h
    split at h
    · cases h; exact ⟨D.dp d q r, by assumption⟩
    · cases h
theorem oEq (hu : X.A.units + 64 < cLine) : OpS X (compareOp .Eq) D.eq := by
  refine ⟨_, op_eqD hu, fun H d1 d2 v1 v2 d Q hf r1 r2 q => ?_⟩
  unfold D.eq D.beq at hf
  cases e1 : D.shaped d1 with
  | none => rw [e1] at hf; cases hf
  | some p1 =>
    cases e2 : D.shaped d2 with
    | none => rw [e1, e2] at hf; cases hf
    | some p2 =>
      rw [e1, e2] at hf; cases hf
      exact ⟨p1, p2, (D.shaped_dp e1 r1).1, (D.shaped_dp e2 r2).1, (D.shaped_dp e1 r1).2, (D.shaped_dp e2 r2).2, q _ rfl⟩
theorem oNe (hu : X.A.units + 64 < cLine) : OpS X (compareOp .NotEq) D.ne := by
  refine ⟨_, op_neD hu, fun H d1 d2 v1 v2 d Q hf r1 r2 q => ?_⟩
  unfold D.ne D.beq at hf
  cases e1 : D.shaped d1 with
  | none => rw [e1] at hf; cases hf
  | some p1 =>
    cases e2 : D.shaped d2 with
    | none => rw [e1, e2] at hf; cases hf
    | some p2 =>
      rw [e1, e2] at hf; cases hf
      exact ⟨p1, p2, (D.shaped_dp e1 r1).1, (D.shaped_dp e2 r2).1, (D.shaped_dp e1 r1).2, (D.shaped_dp e2 r2).2, q _ rfl⟩
/-- is None, is True, is False -/
def D.okIs : D → Bool
  | .val u => (match u with | .ref _ => true | .ty _ => true | _ => false)
  | _ => true
def D.isNon : D → Bool
  | .non => true
  | _ => false
def D.isBl (b : Bool) : D → Bool
  | .bl c => c == b
  | _ => false
theorem Rp.isNon {K : Fg} {H : Hp} : ∀ {d : D} {v : V}, Rp K H d v → d.okIs = true → decide (v = .non) = d.isNon
  | .non, _, h, _ => by cases (h : _ = _); rfl
  | .bl _, _, h, _ => by cases (h : _ = _); rfl
  | .int _, _, h, _ => by cases (h : _ = _); rfl
  | .str _, _, h, _ => by cases (h : _ = _); rfl
  | .lst _, _, ⟨_, _, h, _⟩, _ => by subst h; rfl
  | .tup _, _, ⟨_, _, h, _⟩, _ => by subst h; rfl
  | .dct _ _, _, ⟨_, _, h, _⟩, _ => by subst h; rfl
  | .fro _, _, ⟨_, _, h, _⟩, _ => by subst h; rfl
  | .val u, _, h, g => by
    cases (h : _ = _)
    cases u <;> first | rfl | cases g
theorem Rp.isBl {K : Fg} {H : Hp} {b : Bool} : ∀ {d : D} {v : V}, Rp K H d v → d.okIs = true → decide (v = .bl b) = d.isBl b
  | .non, _, h, _ => by cases (h : _ = _); rfl
  | .bl c, _, h, _ => by cases (h : _ = _); cases c <;> cases b <;> rfl
  | .int _, _, h, _ => by cases (h : _ = _); rfl
  | .str _, _, h, _ => by cases (h : _ = _); rfl
  | .lst _, _, ⟨_, _, h, _⟩, _ => by subst h; rfl
  | .tup _, _, ⟨_, _, h, _⟩, _ => by subst h; rfl
  | .dct _ _, _, ⟨_, _, h, _⟩, _ => by subst h; rfl
  | .fro _, _, ⟨_, _, h, _⟩, _ => by subst h; rfl
  | .val u, _, h, g => by
    cases (h : _ = _)
    cases u <;> first | rfl | cases g
def D.is (neg : Bool) (d e : D) : Option D :=
  if d.okIs = true then
    match e with
    | .non => some (.bl (if neg then !d.isNon else d.isNon))
    | .bl b => some (.bl (if neg then !d.isBl b else d.isBl b))
    | _ => none
  else none
section
variable {M : Model} {A : Around} {E : Value → Shared → Prop} {s : Shared} {Q : Value → Shared → Prop}
theorem is_bool_gen {x : V} {v : Value} {b : Bool} (r : RelV x v) (h : Q (.bool (v == .bool b)) s) : wpAny M A (compareOp .Is v (.bool b)) Q E s := by
  cases x <;> first
    | (obtain rfl := (r : v = _); exact wpAny_pure h)
    | (obtain ⟨t, rfl⟩ := (r : ∃ t, _); exact wpAny_pure h)
theorem isnot_bool_gen {x : V} {v : Value} {b : Bool} (r : RelV x v) (h : Q (.bool (!(v == .bool b))) s) : wpAny M A (compareOp .IsNot v (.bool b)) Q E s := by
  cases x <;> first
    | (obtain rfl := (r : v = _); exact wpAny_pure h)
    | (obtain ⟨t, rfl⟩ := (r : ∃ t, _); exact wpAny_pure h)
end
theorem relV_bool {x : V} {v : Value} {b : Bool} (r : RelV x v) : (v == Value.bool b) = decide (x = .bl b) := by
  cases x with
  | bl c =>
    obtain rfl := (r : v = _)
    cases c <;> cases b <;> rfl
  | non => obtain rfl := (r : v = _); rfl
  | int i => obtain ⟨t, rfl⟩ := (r : ∃ t, _); rfl
  | str i => obtain ⟨t, rfl⟩ := (r : ∃ t, _); rfl
  | byt i => obtain ⟨t, rfl⟩ := (r : ∃ t, _); rfl
  | flt i => obtain ⟨t, rfl⟩ := (r : ∃ t, _); rfl
  | ref a => obtain rfl := (r : v = _); rfl
  | ty n => obtain rfl := (r : v = _); rfl
theorem op_isB2 : OpR X (compareOp .Is) (fun x y H Q => ∃ b, y = .bl b ∧ Q (.bl (decide (x = .bl b))) H) := by
  intro pins s σ H x y v u Q I rx ry h
  obtain ⟨b, rfl, q⟩ := h
  cases ry
  exact is_bool_gen rx ⟨.bl _, H, I, rfl, by rw [relV_bool rx]; exact q⟩
theorem op_notB2 : OpR X (compareOp .IsNot) (fun x y H Q => ∃ b, y = .bl b ∧ Q (.bl (!decide (x = .bl b))) H) := by
  intro pins s σ H x y v u Q I rx ry h
  obtain ⟨b, rfl, q⟩ := h
  cases ry
  exact isnot_bool_gen rx ⟨.bl _, H, I, rfl, by rw [relV_bool rx]; exact q⟩
theorem oIs : OpS X (compareOp .Is) (D.is false) := by
  refine ⟨_, op_isN.or op_isB2, fun H d1 d2 v1 v2 d Q hf r1 r2 q => ?_⟩
  unfold D.is at hf
  split at hf
  · rename_i hk
    cases d2 with
    | non =>
      cases hf
      exact .inl ⟨r2, q _ (congrArg V.bl (r1.isNon hk))⟩
    | bl b =>
      cases hf
      exact .inr ⟨b, r2, q _ (congrArg V.bl (r1.isBl hk))⟩
    | _ => cases hf
  · cases hf
theorem oIsNot : OpS X (compareOp .IsNot) (D.is true) := by
  refine ⟨_, op_notN.or op_notB2, fun H d1 d2 v1 v2 d Q hf r1 r2 q => ?_⟩
  unfold D.is at hf
  split at hf
  · rename_i hk
    cases d2 with
    | non =>
      cases hf
      exact .inl ⟨r2, q _ (congrArg (fun b => V.bl (!b)) (r1.isNon hk))⟩
    | bl b =>
      cases hf
      exact .inr ⟨b, r2, q _ (congrArg (fun b => V.bl (!b)) (r1.isBl hk))⟩
    | _ => cases hf
  · cases hf
end
end M3

/-! MY -/
set_option Elab.async false
set_option linter.all false
set_option maxRecDepth 100000
set_option maxHeartbeats 4000000
namespace M3
open PySem PySem.Spec PyProof.Rows L2

section
variable {X : Cx} {P O : List Nat} {W : WX} {β : Bc} {F : List (List Addr)} {G : List Addr} {σ : L2.St} {H : Hp} {α γ : Type} {b b1 b2 : Bool} {env : Sl}
theorem Pst.bindL {R : γ → Hp → Prop} {R1 : α → Hp → Prop} {r : Rs α} {k : α → Sl → Rs γ} (h : Pst X P O W β F G σ H b env R (r.bind k))
    (step : ∀ a env1 H1, Stt X.K P O β F G env1 σ H1 → Fw F G H H1 → (b = true → env1 = env ∧ Ex H H1) → Pst X P O W β F G σ H1 true env1 R (k a env1) → R1 a H1) : Pst X P O W β F G σ H b env R1 r := by
  rw [← Bool.and_true b] at h
  exact h.bind step
theorem Pst.here {R : α → Hp → Prop} {a : α} (h : Pst X P O W β F G σ H b env R (.ok a env)) (S : Stt X.K P O β F G env σ H) : R a H := h H S Fw.rfl' fun _ => ⟨rfl, Ex.rfl' _⟩
/-- an outcome of an operation, at an end -/
theorem Pst.out {Q : VK} {d : D} {n : Nat} {v : V} {H' : Hp} (h : Pst X P O W β F G σ H b env (fun d H' => ∀ v, Bor X.K (hid H' (msk F G)) H' n d v → Q v H') (.ok d env)) (S : Stt X.K P O β F G env σ H) (o : Out X.K (hid H (msk F G)) H H' d v) : Q v H' :=
  h H' (S.ext o.ex) (Fw.of S o.ex) (fun _ => ⟨rfl, o.ex⟩) v (Bor.up n (o.rp S))
end

section
variable {X : Cx} {P O : List Nat} {W : WX} {n k n1 n2 n3 : Nat} {b b1 b2 b3 : Bool} {e a c : Expr} {m ma mb mc : M} {pos : Pos} {es : List Expr} {ms mt : Mi (List D)} {rest : List Expr}

theorem me_2G {op : Expr} {f : D → D → Option D} {r : R2} (hr : ∀ Hs H d1 d2 v1 v2 d Q, Ex Hs H → f d1 d2 = some d → Bor X.K Hs H 1 d1 v1 → Bor X.K Hs H 1 d2 v2 → (∀ v H', Out X.K Hs H H' d v → Q v H') → r v1 v2 H Q)
    (hp : ∀ ta tb, PE X a ta → PE X c tb → PE X op (tOp r ta tb)) (ha : ME X P O W n1 b1 a ma) (hb : ME X P O W n2 b2 c mb) (hm : (n1 == 0 || (b2 && n1 == 1)) = true) (hn : (n2 == 0 || n2 == 1) = true) : ME X P O W 0 (b1 && b2) op (m2 f ma mb) := by
  obtain ⟨ta, pa, ha⟩ := ha.run
  obtain ⟨tb, pb, hb⟩ := hb.run
  refine ⟨_, hp _ _ pa pb, fun β F G env σ H Q S p => ?_⟩
  refine ha β F G env σ H _ S (p.bind fun d1 env1 H1 S1 x1 p1 q v1 r1 => ?_)
  refine hb β F G env1 σ H1 _ S1 (q.bindL fun d2 env2 H2 S2 x2 p2 q2 v2 r2 => ?_)
  obtain ⟨d, e, q3⟩ := q2.lift
  have up : ∀ {n : Nat} {d : D} {v : V}, n = 0 ∨ n = 1 → Bor X.K (hid H2 (msk F G)) H2 n d v → Bor X.K (hid H2 (msk F G)) H2 1 d v := fun {n d v} h r => by
    rcases h with rfl | rfl
    · exact Bor.up 1 r
    · exact r
  have r1' : Bor X.K (hid H2 (msk F G)) H2 1 d1 v1 := by
    rcases Bool.or_eq_true _ _ ▸ hm with h | h
    · have z : n1 = 0 := by simpa using h
      subst z
      exact up (.inl rfl) (r1.mono x2.ex _ (.inl rfl))
    · rw [Bool.and_eq_true] at h
      have z : n1 = 1 := by simpa using h.2
      subst z
      exact r1.mono x2.ex _ (.inr (p2 h.1).2)
  have r2' : Bor X.K (hid H2 (msk F G)) H2 1 d2 v2 := up (by simpa using hn) r2
  exact hr _ H2 d1 d2 v1 v2 d _ hid_le e r1' r2' fun v H' o => q3.out S2 o
theorem me_binG {op : Operator} {f : D → D → Option D} (ho : OpG X (binaryOp op) f) (ha : ME X P O W n1 b1 a ma) (hb : ME X P O W n2 b2 c mb) (hm : (n1 == 0 || (b2 && n1 == 1)) = true := by rfl) (hn : (n2 == 0 || n2 == 1) = true := by rfl) :
    ME X P O W 0 (b1 && b2) (.BinOp a op c pos) (m2 f ma mb) := by
  obtain ⟨r, h1, h2⟩ := ho
  exact me_2G h2 (fun ta tb => pe_op h1) ha hb hm hn

/-! ### and, or, not, if -/
theorem me_one {op} (h : ME X P O W n b a ma) : ME X P O W n b (.BoolOp op [a] pos) ma := by
  obtain ⟨t, h1, h2⟩ := h.run
  exact ⟨t, pe_one h1, h2⟩
theorem me_and (ha : ME X P O W n1 b1 a ma) (hb : ME X P O W n2 b2 (.BoolOp .And (c :: rest) pos) mb) : ME X P O W n2 (b1 && b2) (.BoolOp .And (a :: c :: rest) pos) (mAnd ma mb) := by
  obtain ⟨ta, pa, ha⟩ := ha.run
  obtain ⟨tb, pb, hb⟩ := hb.run
  refine ⟨_, pe_and pa pb, fun β F G env σ H Q S p => ?_⟩
  refine ha β F G env σ H _ S (p.bind fun d1 env1 H1 S1 x1 p1 q v1 r1 => ?_)
  cases d1 with
  | bl k =>
    have hv : v1 = .bl k := r1.rp hid_le
    subst hv
    refine ⟨k, rfl, ?_⟩
    cases k with
    | true => exact hb β F G env1 σ H1 _ S1 q
    | false => exact q.here S1 _ (Bor.up _ rfl)
  | _ => exact q.elim
theorem me_or (ha : ME X P O W n1 b1 a ma) (hb : ME X P O W n2 b2 (.BoolOp .Or (c :: rest) pos) mb) : ME X P O W n2 (b1 && b2) (.BoolOp .Or (a :: c :: rest) pos) (mOr ma mb) := by
  obtain ⟨ta, pa, ha⟩ := ha.run
  obtain ⟨tb, pb, hb⟩ := hb.run
  refine ⟨_, pe_or pa pb, fun β F G env σ H Q S p => ?_⟩
  refine ha β F G env σ H _ S (p.bind fun d1 env1 H1 S1 x1 p1 q v1 r1 => ?_)
  cases d1 with
  | bl k =>
    have hv : v1 = .bl k := r1.rp hid_le
    subst hv
    refine ⟨k, rfl, ?_⟩
    cases k with
    | true => exact q.here S1 _ (Bor.up _ rfl)
    | false => exact hb β F G env1 σ H1 _ S1 q
  | _ => exact q.elim
theorem me_not (ha : ME X P O W n b a ma) : ME X P O W 0 b (.UnaryOp .Not a pos) (mNot ma) := by
  obtain ⟨ta, pa, ha⟩ := ha.run
  refine ⟨_, pe_not pa, fun β F G env σ H Q S p => ?_⟩
  refine ha β F G env σ H _ S (p.bindL fun d1 env1 H1 S1 x1 p1 q v1 r1 => ?_)
  cases d1 with
  | bl k =>
    have hv : v1 = .bl k := r1.rp hid_le
    subst hv
    exact ⟨k, rfl, q.here S1 _ rfl⟩
  | _ => exact q.elim
theorem me_if (hc : MT X P O W b1 c mc) (ha : ME X P O W n b2 a ma) (hb : ME X P O W n b3 e mb) : ME X P O W n (b1 && (b2 && b3)) (.IfExp c a e pos) (mIf mc ma mb) := by
  obtain ⟨tc, pc, hc⟩ := hc.run
  obtain ⟨ta, pa, ha⟩ := ha.run
  obtain ⟨tb, pb, hb⟩ := hb.run
  refine ⟨_, pe_ifExp pc pa pb, fun β F G env σ H Q S p => ?_⟩
  refine hc β F G env σ H _ S (p.bind fun d1 env1 H1 S1 x1 p1 q => ?_)
  cases d1 with
  | bl k =>
    refine ⟨k, rfl, ?_⟩
    cases k with
    | true => exact ha β F G env1 σ H1 _ S1 (q.weak fun h => (Bool.and_eq_true _ _ ▸ h).1)
    | false => exact hb β F G env1 σ H1 _ S1 (q.weak fun h => (Bool.and_eq_true _ _ ▸ h).2)
  | _ => exact q.elim

/-! ### tests -/
def mB (m : M) : M := fun e => (m e).bind fun d e1 => match d with | .bl k => .ok (.bl k) e1 | _ => .bad
theorem mt_of {t : TE} {T : TT} {m : M} (h2 : ∀ β F G env σ H Q, Stt X.K P O β F G env σ H → Pst X P O W β F G σ H b env (fun d H' => ∀ v, Bor X.K (hid H' (msk F G)) H' n d v → Q v H') (m env) → t σ H Q)
    (hT : ∀ σ H Q, t σ H (fun x H' => ∃ k, x = .bl k ∧ Q k H') → T σ H Q) : ∀ β F G env σ H Q, Stt X.K P O β F G env σ H → Pst X P O W β F G σ H b env (fun d H' => ∃ c, d = .bl c ∧ Q c H') (mB m env) → T σ H Q := fun β F G env σ H Q S p => by
  refine hT _ _ _ (h2 β F G env σ H _ S (p.bindL fun d1 env1 H1 S1 x1 p1 q v1 r1 => ?_))
  cases d1 with
  | bl k =>
    have hv : v1 = .bl k := r1.rp hid_le
    subst hv
    obtain ⟨c, e, q'⟩ := q.here S1
    cases e
    exact ⟨k, rfl, q'⟩
  | _ => exact q.elim
theorem mt_val (h : ME X P O W n b e m) (he : ∀ whole, isTrue e X.env whole = (do let v ← whole; standAt e.pos; holding [v] (truthy v)) := by intro _; rfl) : MT X P O W b e (mB m) := by
  obtain ⟨t, h1, h2⟩ := h.run
  exact ⟨_, pt_val h1 he, mt_of h2 fun _ _ _ h => h⟩
theorem mt_cmp {op : CmpOp} {f : D → D → Option D} (ho : OpS X (compareOp op) f) (ha : ME X P O W n1 b1 a ma) (hb : ME X P O W n2 b2 c mb) (hk : behindInMarks op c = false := by first | exact nomark _ | rfl) (hm : (n1 == 0 || b2) = true := by rfl) : MT X P O W (b1 && b2) (.Compare a [op] [c] pos) (mB (m2 f ma mb)) := by
  obtain ⟨r, h1, h2⟩ := ho
  obtain ⟨ta, pa, ha⟩ := ha.run
  obtain ⟨tb, pb, hb⟩ := hb.run
  refine ⟨_, pt_cmpR h1 pa pb hk, mt_of (n := 0) (fun β F G env σ H Q S p => ?_) fun _ _ _ h => h⟩
  refine ha β F G env σ H _ S (p.bind fun d1 env1 H1 S1 x1 p1 q v1 r1 => ?_)
  refine hb β F G env1 σ H1 _ S1 (q.bindL fun d2 env2 H2 S2 x2 p2 q2 v2 r2 => ?_)
  obtain ⟨d, e, q3⟩ := q2.lift
  have r1' : Bor X.K (hid H2 (msk F G)) H2 n1 d1 v1 := r1.mono x2.ex _ (by
    rcases Bool.or_eq_true _ _ ▸ hm with h | h
    · exact .inl (by simpa using h)
    · exact .inr (p2 h).2)
  exact h2 H2 d1 d2 v1 v2 d _ e (r1'.rp hid_le) (r2.rp hid_le) fun v hv => q3.here S2 v hv.rp
theorem mt_not (ha : MT X P O W b a ma) : MT X P O W b (.UnaryOp .Not a pos) (mNot ma) := by
  obtain ⟨ta, pa, ha⟩ := ha.run
  refine ⟨_, pt_not pa, fun β F G env σ H Q S p => ?_⟩
  refine ha β F G env σ H _ S (p.bindL fun d1 env1 H1 S1 x1 p1 q => ?_)
  cases d1 with
  | bl k =>
    obtain ⟨c, e, q'⟩ := q.here S1
    cases e
    exact ⟨k, rfl, q'⟩
  | _ => exact q.elim
theorem mw_and1 (ha : MT X P O W b a ma) : MW X P O W b (.BoolOp .And [a] pos) ma := by
  obtain ⟨ta, pa, ha⟩ := ha.run
  exact ⟨_, pw_and1 pa, ha⟩
theorem mw_or1 (ha : MT X P O W b a ma) : MW X P O W b (.BoolOp .Or [a] pos) ma := by
  obtain ⟨ta, pa, ha⟩ := ha.run
  exact ⟨_, pw_or1 pa, ha⟩
theorem mw_and (ha : MT X P O W b1 a ma) (hb : MW X P O W b2 (.BoolOp .And (c :: rest) pos) mb) : MW X P O W (b1 && b2) (.BoolOp .And (a :: c :: rest) pos) (mAnd ma mb) := by
  obtain ⟨ta, pa, ha⟩ := ha.run
  obtain ⟨tb, pb, hb⟩ := hb.run
  refine ⟨_, pw_and pa pb, fun β F G env σ H Q S p => ?_⟩
  refine ha β F G env σ H _ S (p.bind fun d1 env1 H1 S1 x1 p1 q => ?_)
  cases d1 with
  | bl k =>
    refine ⟨k, rfl, ?_⟩
    cases k with
    | true => exact hb β F G env1 σ H1 _ S1 q
    | false =>
      obtain ⟨c, e, q'⟩ := q.here S1
      cases e
      exact q'
  | _ => exact q.elim
theorem mw_or (ha : MT X P O W b1 a ma) (hb : MW X P O W b2 (.BoolOp .Or (c :: rest) pos) mb) : MW X P O W (b1 && b2) (.BoolOp .Or (a :: c :: rest) pos) (mOr ma mb) := by
  obtain ⟨ta, pa, ha⟩ := ha.run
  obtain ⟨tb, pb, hb⟩ := hb.run
  refine ⟨_, pw_or pa pb, fun β F G env σ H Q S p => ?_⟩
  refine ha β F G env σ H _ S (p.bind fun d1 env1 H1 S1 x1 p1 q => ?_)
  cases d1 with
  | bl k =>
    refine ⟨k, rfl, ?_⟩
    cases k with
    | true =>
      obtain ⟨c, e, q'⟩ := q.here S1
      cases e
      exact q'
    | false => exact hb β F G env1 σ H1 _ S1 q
  | _ => exact q.elim
/-! ### a < b < c -/
def m3 (f g : D → D → Option D) (a b c : M) : M := fun e => (a e).bind fun x e1 => (b e1).bind fun y e2 => (liftO (f x y) e2).bind fun z e3 =>
  match z with | .bl true => (c e3).bind fun w e4 => liftO (g y w) e4 | .bl false => .ok (.bl false) e3 | _ => .bad
theorem me_chain {op op' : CmpOp} {f g : D → D → Option D} (ho : OpS X (compareOp op) f) (ho' : OpS X (compareOp op') g) (ha : ME X P O W 0 b1 a ma) (hb : ME X P O W 0 b2 c mb) (hc : ME X P O W 0 b3 e mc)
    (hm : lastMarks [op, op'] [c, e] = false := by with_unfolding_all rfl) : ME X P O W 0 (b1 && (b2 && b3)) (.Compare a [op, op'] [c, e] pos) (m3 f g ma mb mc) := by
  obtain ⟨r, g1, g2⟩ := ho
  obtain ⟨r', g3, g4⟩ := ho'
  obtain ⟨ta, pa, ha⟩ := ha.run
  obtain ⟨tb, pb, hb⟩ := hb.run
  obtain ⟨tc, pc, hc⟩ := hc.run
  refine ⟨_, pe_chain g1 g3 pa pb pc hm, fun β F G env σ H Q S p => ?_⟩
  refine ha β F G env σ H _ S (p.bind fun d1 env1 H1 S1 x1 p1 q v1 r1 => ?_)
  refine hb β F G env1 σ H1 _ S1 (q.bind fun d2 env2 H2 S2 x2 p2 q2 v2 r2 => ?_)
  cases hz : f d1 d2 with
  | none => rw [hz] at q2; exact q2.elim
  | some z =>
    rw [hz] at q2
    refine g2 H2 d1 d2 v1 v2 z _ hz (Bor.rp hid_le 0 (Bor.mono (H := H1) x2.ex 0 (.inl rfl) r1)) (Bor.rp hid_le 0 r2) fun v hv => ?_
    cases z with
    | bl k =>
      refine ⟨k, hv, ?_⟩
      cases k with
      | true =>
        refine hc β F G env2 σ H2 _ S2 (Pst.bindL (k := fun w e4 => liftO (g d2 w) e4) q2 fun d3 env3 H3 S3 x3 p3 q3 v3 r3 => ?_)
        obtain ⟨d, e, q4⟩ := q3.lift
        exact g4 H3 d2 d3 v2 v3 d _ e (Bor.rp hid_le 0 (Bor.mono (H := H2) x3.ex 0 (.inl rfl) r2)) (Bor.rp hid_le 0 r3) fun v hv => q4.here S3 v hv.rp
      | false => exact Pst.here (a := D.bl false) q2 S2 _ rfl
    | _ => exact q2.elim
theorem mt_chain {op op' : CmpOp} {f g : D → D → Option D} (ho : OpS X (compareOp op) f) (ho' : OpS X (compareOp op') g) (ha : ME X P O W 0 b1 a ma) (hb : ME X P O W 0 b2 c mb) (hc : ME X P O W 0 b3 e mc)
    (hm : lastMarks [op, op'] [c, e] = false := by with_unfolding_all rfl) : MT X P O W (b1 && (b2 && b3)) (.Compare a [op, op'] [c, e] pos) (mB (m3 f g ma mb mc)) := by
  obtain ⟨r, g1, g2⟩ := ho
  obtain ⟨r', g3, g4⟩ := ho'
  obtain ⟨ta, pa, ha⟩ := ha.run
  obtain ⟨tb, pb, hb⟩ := hb.run
  obtain ⟨tc, pc, hc⟩ := hc.run
  refine ⟨_, pt_chain g1 g3 pa pb pc hm, mt_of (n := 0) (fun β F G env σ H Q S p => ?_) fun _ _ _ h => h⟩
  refine ha β F G env σ H _ S (p.bind fun d1 env1 H1 S1 x1 p1 q v1 r1 => ?_)
  refine hb β F G env1 σ H1 _ S1 (q.bind fun d2 env2 H2 S2 x2 p2 q2 v2 r2 => ?_)
  cases hz : f d1 d2 with
  | none => rw [hz] at q2; exact q2.elim
  | some z =>
    rw [hz] at q2
    refine g2 H2 d1 d2 v1 v2 z _ hz (Bor.rp hid_le 0 (Bor.mono (H := H1) x2.ex 0 (.inl rfl) r1)) (Bor.rp hid_le 0 r2) fun v hv => ?_
    cases z with
    | bl k =>
      refine ⟨k, hv, ?_⟩
      cases k with
      | true =>
        refine hc β F G env2 σ H2 _ S2 (Pst.bindL (k := fun w e4 => liftO (g d2 w) e4) q2 fun d3 env3 H3 S3 x3 p3 q3 v3 r3 => ?_)
        obtain ⟨d, e, q4⟩ := q3.lift
        exact g4 H3 d2 d3 v2 v3 d _ e (Bor.rp hid_le 0 (Bor.mono (H := H2) x3.ex 0 (.inl rfl) r2)) (Bor.rp hid_le 0 r3) fun v hv => q4.here S3 v hv.rp
      | false => exact Pst.here (a := D.bl false) q2 S2 _ rfl
    | _ => exact q2.elim

/-! ### arguments, displays -/
theorem ma_nil : MA X P O W true [] mNil := ⟨_, pa_nil, fun β F G env σ H Q S p => p.here S [] rfl⟩
theorem ma_cons (ha : ME X P O W 0 b1 a ma) (hr : MA X P O W b2 es ms) (hs : starEach (a :: es) X.env = (false, eval a X.env) :: starEach es X.env := by rfl) : MA X P O W (b1 && b2) (a :: es) (mCons ma ms) := by
  obtain ⟨ta, pa, ha⟩ := ha.run
  obtain ⟨tr, pr, hr⟩ := hr.run
  refine ⟨_, pa_cons pa pr hs, fun β F G env σ H Q S p => ?_⟩
  refine ha β F G env σ H _ S (p.bind fun d1 env1 H1 S1 x1 p1 q v1 r1 => ?_)
  refine hr β F G env1 σ H1 _ S1 (q.bindL fun ds env2 H2 S2 x2 p2 q2 vs r2 => ?_)
  exact q2.here S2 (v1 :: vs) ⟨v1, vs, rfl, Rp.ex x2.ex d1 r1, r2⟩
theorem mab_nil : MAB X P O W n true [] mNil := ⟨_, pa_nil, fun β F G env σ H Q S p => p.here S [] trivial⟩
theorem mab_cons (ha : ME X P O W n b1 a ma) (hr : MAB X P O W n b2 es ms) (hm : (n == 0 || b2) = true := by rfl) (hs : starEach (a :: es) X.env = (false, eval a X.env) :: starEach es X.env := by rfl) : MAB X P O W n (b1 && b2) (a :: es) (mCons ma ms) := by
  obtain ⟨ta, pa, ha⟩ := ha.run
  obtain ⟨tr, pr, hr⟩ := hr.run
  refine ⟨_, pa_cons pa pr hs, fun β F G env σ H Q S p => ?_⟩
  refine ha β F G env σ H _ S (p.bind fun d1 env1 H1 S1 x1 p1 q v1 r1 => ?_)
  refine hr β F G env1 σ H1 _ S1 (q.bindL fun ds env2 H2 S2 x2 p2 q2 vs r2 => ?_)
  refine q2.here S2 (v1 :: vs) ⟨r1.mono x2.ex _ ?_, r2⟩
  rcases Bool.or_eq_true _ _ ▸ hm with h | h
  · exact .inl (by simpa using h)
  · exact .inr (p2 h).2
theorem MAB.up (h : MAB X P O W 0 b es ms) : MAB X P O W n b es ms := by
  obtain ⟨t, p, h⟩ := h.run
  exact ⟨t, p, fun β F G env σ H Q S q => h β F G env σ H Q S (q.imp fun ds H' g vs r => g vs (r.imp fun _ _ h => Bor.up n h))⟩
def mkTup (ds : List D) : Option D := if ds.length ≤ lim then some (.tup ds) else none
def mkLst (ds : List D) : Option D := if ds.length ≤ lim then some (.lst ds) else none
theorem me_tup {x1} (h : MA X P O W b es ms) : ME X P O W 0 b (.Tuple es x1 pos) (mf mkTup ms) := by
  obtain ⟨ta, pa, ha⟩ := h.run
  refine ⟨_, pe_tup pa, fun β F G env σ H Q S p => ?_⟩
  refine ha β F G env σ H _ S (p.bindL fun ds env1 H1 S1 x1 p1 q vs r1 => ?_)
  obtain ⟨d, e, q3⟩ := q.lift
  unfold mkTup at e
  split at e
  · rename_i hl
    cases e
    exact ⟨by rw [r1.len]; exact lim_le hl, fun p hp => q3.out S1 (.inr ⟨p, hp, rfl, .inr ⟨_, _, rfl, rfl, r1⟩⟩)⟩
  · cases e
theorem me_lst (h : MA X P O W b es ms) : ME X P O W 0 b (.List es pos) (mf mkLst ms) := by
  obtain ⟨ta, pa, ha⟩ := h.run
  refine ⟨_, pe_lst pa, fun β F G env σ H Q S p => ?_⟩
  refine ha β F G env σ H _ S (p.bindL fun ds env1 H1 S1 x1 p1 q vs r1 => ?_)
  obtain ⟨d, e, q3⟩ := q.lift
  unfold mkLst at e
  split at e
  · rename_i hl
    cases e
    exact ⟨by rw [r1.len]; exact lim_le hl, fun p hp => q3.out S1 (.inr ⟨p, hp, rfl, .inl ⟨_, _, rfl, rfl, r1⟩⟩)⟩
  · cases e

/-! ### subscripts, slices -/
def D.ix : D → D → Option D
  | .lst l, .int i => atI l i
  | .tup l, .int i => atI l i
  | .fro l, .int i => atI l i
  | .str z, .int i => if z.length ≤ lim then (atI z.cps.toList i).map fun c => .str ⟨#[c]⟩ else none
  | _, _ => none
theorem atI2 {Pr : D → V → Prop} {l : List D} {xs : List V} {i : Int} {d : D} (h : All2 Pr l xs) (e : atI l i = some d) : ∃ x, atI xs i = some x ∧ Pr d x := by
  unfold atI at e ⊢
  rw [h.len]
  cases q : ixN l.length i with
  | none => rw [q] at e; cases e
  | some j =>
    rw [q] at e
    exact h.get e
theorem me_ix (ha : ME X P O W n1 b1 a ma) (hb : ME X P O W n2 b2 c mb) (hs : PlainIx c := by exact fun _ _ => rfl) (hm : (n1 == 0 || b2) = true := by rfl) (hn : n1.pred = n := by rfl) : ME X P O W n (b1 && b2) (.Subscript a c pos) (m2 D.ix ma mb) := by
  subst hn
  obtain ⟨ta, pa, ha⟩ := ha.run
  obtain ⟨tb, pb, hb⟩ := hb.run
  refine ⟨_, pe_ix ix_seq pa pb hs, fun β F G env σ H Q S p => ?_⟩
  refine ha β F G env σ H _ S (p.bind fun d1 env1 H1 S1 x1 p1 q v1 r1 => ?_)
  refine hb β F G env1 σ H1 _ S1 (q.bindL fun d2 env2 H2 S2 x2 p2 q2 v2 r2 => ?_)
  obtain ⟨d, e, q3⟩ := q2.lift
  have r1' : Bor X.K (hid H2 (msk F G)) H2 n1 d1 v1 := r1.mono x2.ex _ (by
    rcases Bool.or_eq_true _ _ ▸ hm with h | h
    · exact .inl (by simpa using h)
    · exact .inr (p2 h).2)
  cases d2 with
  | int i =>
    have hv2 : v2 = .int i := r2.rp hid_le
    subst hv2
    cases d1 with
    | lst l =>
      obtain ⟨a, xs, rfl, h1, h2⟩ := r1'.list hid_le
      obtain ⟨x, e1, rx⟩ := atI2 h2 e
      exact .inl ⟨a, xs, i, x, rfl, rfl, SqL.of h1, e1, q3.here S2 _ rx⟩
    | tup l =>
      obtain ⟨a, xs, rfl, h1, h2⟩ := r1'.tuple hid_le
      obtain ⟨x, e1, rx⟩ := atI2 (All2.of_rps h2) e
      exact .inr (.inl ⟨a, xs, i, x, rfl, rfl, h1.t, e1, q3.here S2 _ (Bor.up _ rx)⟩)
    | fro l =>
      have h0 : Rp X.K (hid H2 (msk F G)) (.fro l) v1 := by
        cases n1 with
        | zero => exact r1'
        | succ n => rcases r1' with h | ⟨_, _, _, ⟨_, z, _⟩ | ⟨_, _, z, _⟩⟩ <;> first | exact h | cases z
      obtain ⟨a, xs, rfl, h1, h2⟩ := h0
      obtain ⟨x, e1, rx⟩ := atI2 (All2.of_rps h2) e
      exact .inl ⟨a, xs, i, x, rfl, rfl, ex_l hid_le h1, e1, q3.here S2 _ (Bor.up _ rx)⟩
    | str z =>
      have hv1 : v1 = .str z := r1'.rp hid_le
      subst hv1
      dsimp only [D.ix] at e
      split at e
      · rename_i hl
        cases hc : atI z.cps.toList i with
        | none => rw [hc] at e; cases e
        | some ch =>
          rw [hc] at e; cases e
          exact .inr (.inr ⟨z, i, ch, rfl, rfl, lim_le hl, hc, q3.here S2 _ (Bor.up _ rfl)⟩)
      · cases e
    | _ => cases e
  | _ => cases d1 <;> cases e
end
end M3

/-! MZ -/
set_option Elab.async false
set_option linter.all false
set_option maxRecDepth 100000
set_option maxHeartbeats 4000000
namespace M3
open PySem PySem.Spec PyProof.Rows L2

/-! ### built-ins by values -/
def D.ints : List D → Option (List Int)
  | [] => some []
  | .int i :: l => match D.ints l with | some r => some (i :: r) | none => none
  | _ :: _ => none
theorem D.ints_rps {K : Fg} {H : Hp} : ∀ {l : List D} {ns : List Int} {xs : List V}, D.ints l = some ns → Rps K H l xs → xs = ns.map V.int
  | [], _, _, e, h => by cases e; exact h
  | d :: l, ns, xs, e, ⟨x, r, h1, h2, h3⟩ => by
    cases d with
    | int i =>
      dsimp only [D.ints] at e
      cases q : D.ints l with
      | none => rw [q] at e; cases e
      | some r' =>
        rw [q] at e; cases e
        obtain rfl := (h2 : x = _)
        rw [h1, D.ints_rps q h3]; rfl
    | _ => cases e
/-- the types that isinstance is asked for here -/
inductive Ty where
  | int | bool | list | tuple | str | dict
  deriving DecidableEq
def Ty.name : Ty → String
  | .int => "int" | .bool => "bool" | .list => "list" | .tuple => "tuple" | .str => "str" | .dict => "dict"
def D.kind : D → Option String
  | .non => some "NoneType"
  | .bl _ => some "bool"
  | .int _ => some "int"
  | .str _ => some "str"
  | .lst _ => some "list"
  | .tup _ => some "tuple"
  | .dct _ _ => some "dict"
  | .fro _ => some "list"
  | .val _ => none
def D.isTy : Ty → D → Bool
  | .int, .int _ => true
  | .int, .bl _ => true
  | .bool, .bl _ => true
  | .list, .lst _ => true
  | .list, .fro _ => true
  | .tuple, .tup _ => true
  | .str, .str _ => true
  | .dict, .dct _ _ => true
  | _, _ => false
theorem kit_all : ∀ (T : Ty) (d : D) (k : String), d.kind = some k → kitB k T.name = some (D.isTy T d) := by
  have h : ∀ T : Ty, kitB "NoneType" T.name = some false ∧ kitB "bool" T.name = some (decide (T = .int) || decide (T = .bool)) ∧ kitB "int" T.name = some (decide (T = .int)) ∧ kitB "str" T.name = some (decide (T = .str)) ∧
      kitB "list" T.name = some (decide (T = .list)) ∧ kitB "tuple" T.name = some (decide (T = .tuple)) ∧ kitB "dict" T.name = some (decide (T = .dict)) := by
    intro T
    cases T <;> decide +kernel
  intro T d k e
  obtain ⟨h1, h2, h3, h4, h5, h6, h7⟩ := h T
  cases d <;> cases e <;> first | rw [h1] | rw [h2] | rw [h3] | rw [h4] | rw [h5] | rw [h6] | rw [h7]
  all_goals (cases T <;> rfl)
theorem tyX_of {K : Fg} {H : Hp} : ∀ {d : D} {v : V} {k : String}, d.kind = some k → Rp K H d v → TyX K H v (.type k)
  | .non, _, _, e, h => by cases e; obtain rfl := (h : _ = _); exact .base .non
  | .bl _, _, _, e, h => by cases e; obtain rfl := (h : _ = _); exact .base (.bl _)
  | .int _, _, _, e, h => by cases e; obtain rfl := (h : _ = _); exact .base (.int _)
  | .str _, _, _, e, h => by cases e; obtain rfl := (h : _ = _); exact .base (.str _)
  | .lst _, _, _, e, ⟨_, _, h, h2, _⟩ => by cases e; subst h; exact .base (.lst h2)
  | .tup _, _, _, e, ⟨_, _, h, h2, _⟩ => by
    cases e; subst h
    rcases h2 with h2 | ⟨o, _, _, h2, h3, _⟩
    · exact .base (.tup h2)
    · exact .kTuple h2 h3
  | .dct _ _, _, _, e, ⟨_, _, h, h2, _⟩ => by
    cases e; subst h
    exact .base (.dK h2)
  | .fro _, _, _, e, ⟨_, _, h, h2, _⟩ => by
    cases e; subst h
    rcases h2 with (h2 | ⟨o, h2⟩) | ⟨o, _, _, h2, h3, _⟩
    · exact .base (.lst h2)
    · exact .base (.frz h2)
    · exact .kList h2 h3
  | .val _, _, _, e, _ => by cases e
def fIsi : List D → Option D
  | [d, .val (.ty "int")] => d.kind.map fun _ => .bl (d.isTy .int)
  | [d, .val (.ty "bool")] => d.kind.map fun _ => .bl (d.isTy .bool)
  | [d, .val (.ty "list")] => d.kind.map fun _ => .bl (d.isTy .list)
  | [d, .val (.ty "tuple")] => d.kind.map fun _ => .bl (d.isTy .tuple)
  | [d, .val (.ty "str")] => d.kind.map fun _ => .bl (d.isTy .str)
  | [d, .val (.ty "dict")] => d.kind.map fun _ => .bl (d.isTy .dict)
  | [d, .tup [.val (.ty "list"), .val (.ty "tuple")]] => d.kind.map fun _ => .bl (d.isTy .list || d.isTy .tuple)
  | _ => none
def fLen : List D → Option D
  | [.lst l] => some (.int l.length)
  | [.tup l] => some (.int l.length)
  | [.fro l] => some (.int l.length)
  | [.dct ks _] => some (.int ks.length)
  | [.str x] => if x.length ≤ lim then some (.int x.length) else none
  | _ => none
def fAbs : List D → Option D
  | [.int i] => some (.int (if i < 0 then -i else i))
  | _ => none
def fMax2 : List D → Option D
  | [.int i, .int j] => some (.int (if j > i then j else i))
  | _ => none
def fMin2 : List D → Option D
  | [.int i, .int j] => some (.int (if j < i then j else i))
  | _ => none
def fInt : List D → Option D
  | [.int i] => some (.int i)
  | [.bl k] => some (.int (if k then 1 else 0))
  | _ => none
def fSum : List D → Option D
  | [.lst l] => (D.ints l).map fun ns => .int ns.sum
  | _ => none
def fSumF : List D → Option D
  | [.fro l] => (D.ints l).map fun ns => .int ns.sum
  | [.lst l] => (D.ints l).map fun ns => .int ns.sum
  | _ => none
def maxOf : Int → List Int → Int
  | m, [] => m
  | m, x :: r => maxOf (if m < x then x else m) r
def minOf : Int → List Int → Int
  | m, [] => m
  | m, x :: r => minOf (if x < m then x else m) r
def fMaxL : List D → Option D
  | [.lst l] => match D.ints l with | some (x :: r) => some (.int (maxOf x r)) | _ => none
  | _ => none
def fMinL : List D → Option D
  | [.lst l] => match D.ints l with | some (x :: r) => some (.int (minOf x r)) | _ => none
  | _ => none
def fGcd : List D → Option D
  | [.int i, .int j] => some (.int ((Nat.gcd i.natAbs j.natAbs : Nat) : Int))
  | _ => none
def fStr : List D → Option D
  | [.int i] => if i.natAbs < 2 ^ 1000 then some (.str (toString i)) else none
  | _ => none
/-- insertion into a rising list -/
def insI (x : Int) : List Int → List Int
  | [] => [x]
  | y :: r => if x ≤ y then x :: y :: r else y :: insI x r
def sortI : List Int → List Int
  | [] => []
  | x :: r => insI x (sortI r)
def fSorted : List D → Option D
  | [.lst l] => (D.ints l).map fun ns => .lst ((sortI ns).map .int)
  | _ => none
def fList : List D → Option D
  | [.lst l] => some (.lst l)
  | [.tup l] => some (.lst l)
  | _ => none
def fTuple : List D → Option D
  | [.lst l] => some (.tup l)
  | [.tup l] => some (.tup l)
  | _ => none
theorem maxOf_mem : ∀ (r : List Int) (m : Int), maxOf m r ∈ m :: r
  | [], m => List.mem_singleton.mpr rfl
  | x :: r, m => by
    have h := maxOf_mem r (if m < x then x else m)
    unfold maxOf
    rcases List.mem_cons.mp h with h | h
    · rw [h]; split <;> simp
    · simp [h]
theorem maxOf_le : ∀ (r : List Int) (m : Int), ∀ y ∈ m :: r, y ≤ maxOf m r
  | [], m, y, h => by rw [List.mem_singleton.mp h]; exact Int.le_refl _
  | x :: r, m, y, h => by
    have q := maxOf_le r (if m < x then x else m)
    unfold maxOf
    have q0 := q _ List.mem_cons_self
    rcases List.mem_cons.mp h with rfl | h
    · by_cases hx : y < x
      · rw [if_pos hx] at q0 ⊢; omega
      · rw [if_neg hx] at q0 ⊢; omega
    · rcases List.mem_cons.mp h with rfl | h
      · by_cases hx : m < y
        · rw [if_pos hx] at q0 ⊢; omega
        · rw [if_neg hx] at q0 ⊢; omega
      · exact q y (List.mem_cons_of_mem _ h)
theorem minOf_mem : ∀ (r : List Int) (m : Int), minOf m r ∈ m :: r
  | [], m => List.mem_singleton.mpr rfl
  | x :: r, m => by
    have h := minOf_mem r (if x < m then x else m)
    unfold minOf
    rcases List.mem_cons.mp h with h | h
    · rw [h]; split <;> simp
    · simp [h]
theorem minOf_le : ∀ (r : List Int) (m : Int), ∀ y ∈ m :: r, minOf m r ≤ y
  | [], m, y, h => by rw [List.mem_singleton.mp h]; exact Int.le_refl _
  | x :: r, m, y, h => by
    have q := minOf_le r (if x < m then x else m)
    unfold minOf
    have q0 := q _ List.mem_cons_self
    rcases List.mem_cons.mp h with rfl | h
    · by_cases hx : x < y
      · rw [if_pos hx] at q0 ⊢; omega
      · rw [if_neg hx] at q0 ⊢; omega
    · rcases List.mem_cons.mp h with rfl | h
      · by_cases hx : y < m
        · rw [if_pos hx] at q0 ⊢; omega
        · rw [if_neg hx] at q0 ⊢; omega
      · exact q y (List.mem_cons_of_mem _ h)
theorem insI_perm (x : Int) : ∀ l : List Int, (insI x l).Perm (x :: l)
  | [] => .refl _
  | y :: r => by
    unfold insI
    split
    · exact .refl _
    · exact ((insI_perm x r).cons y).trans (.swap x y r)
theorem sortI_perm : ∀ l : List Int, (sortI l).Perm l
  | [] => .refl _
  | x :: r => (insI_perm x _).trans ((sortI_perm r).cons x)
theorem insI_sorted (x : Int) : ∀ {l : List Int}, l.Pairwise (· ≤ ·) → (insI x l).Pairwise (· ≤ ·)
  | [], _ => List.pairwise_singleton _ _
  | y :: r, h => by
    unfold insI
    obtain ⟨h1, h2⟩ := List.pairwise_cons.mp h
    split
    · rename_i hx
      exact List.pairwise_cons.mpr ⟨fun z hz => by
        rcases List.mem_cons.mp hz with rfl | hz
        · exact hx
        · exact Int.le_trans hx (h1 z hz), h⟩
    · rename_i hx
      refine List.pairwise_cons.mpr ⟨fun z hz => ?_, insI_sorted x h2⟩
      rcases List.mem_cons.mp ((insI_perm x r).mem_iff.mp hz) with rfl | hz
      · omega
      · exact h1 z hz
theorem sortI_sorted : ∀ l : List Int, (sortI l).Pairwise (· ≤ ·)
  | [] => .nil
  | x :: r => insI_sorted x (sortI_sorted r)
/-- two rising arrangements are one -/
theorem sorted_uniq : ∀ {l m : List Int}, l.Perm m → l.Pairwise (· ≤ ·) → m.Pairwise (· ≤ ·) → l = m
  | [], m, p, _, _ => p.nil_eq
  | x :: l, [], p, _, _ => absurd p.length_eq (by simp)
  | x :: l, y :: m, p, h1, h2 => by
    obtain ⟨a1, a2⟩ := List.pairwise_cons.mp h1
    obtain ⟨c1, c2⟩ := List.pairwise_cons.mp h2
    have e : x = y := by
      have m1 : x ∈ y :: m := p.mem_iff.mp List.mem_cons_self
      have m2 : y ∈ x :: l := p.mem_iff.mpr List.mem_cons_self
      have g1 : x ≤ y := by
        rcases List.mem_cons.mp m2 with h | h
        · omega
        · exact a1 _ h
      have g2 : y ≤ x := by
        rcases List.mem_cons.mp m1 with h | h
        · omega
        · exact c1 _ h
      omega
    subst e
    rw [sorted_uniq p.cons_inv a2 c2]

section
variable {X : Cx}
theorem Rps.two {K : Fg} {H : Hp} {a b : D} {vs : List V} (h : Rps K H [a, b] vs) : ∃ x y, vs = [x, y] ∧ Rp K H a x ∧ Rp K H b y := by
  obtain ⟨x, r, rfl, h1, y, r', rfl, h2, h3⟩ := h
  rw [show r' = [] from h3]
  exact ⟨x, y, rfl, h1, h2⟩
theorem Rps.sgl {K : Fg} {H : Hp} {a : D} {vs : List V} (h : Rps K H [a] vs) : ∃ x, vs = [x] ∧ Rp K H a x := by
  obtain ⟨x, r, rfl, h1, h2⟩ := h
  rw [show r = [] from h2]
  exact ⟨x, rfl, h1⟩
theorem cLen : CallS X (.builtin "len") fLen := by
  refine ⟨_, CallR.or call_len (CallR.or (call_len_seq) L2.call_lenD), fun H ds vs d Q hf hr q => ?_⟩
  match ds, hf with
  | [.lst l], hf =>
    cases hf
    obtain ⟨x, rfl, a, xs, rfl, h1, h2⟩ := hr.sgl
    exact .inr (.inl ⟨a, xs, rfl, .inl (SqL.of h1), by rw [h2.len]; exact q _ rfl⟩)
  | [.tup l], hf =>
    cases hf
    obtain ⟨x, rfl, a, xs, rfl, h1, h2⟩ := hr.sgl
    exact .inr (.inl ⟨a, xs, rfl, .inr h1.t, by rw [h2.len]; exact q _ rfl⟩)
  | [.fro l], hf =>
    cases hf
    obtain ⟨x, rfl, a, xs, rfl, h1, h2⟩ := hr.sgl
    exact .inr (.inl ⟨a, xs, rfl, .inl h1, by rw [h2.len]; exact q _ rfl⟩)
  | [.dct ks l], hf =>
    cases hf
    obtain ⟨x, rfl, a, xs, rfl, h1, hk, h2⟩ := hr.sgl
    have e : (ks.zip xs).length = ks.length := by rw [List.length_zip, h2.len, hk]; omega
    exact .inr (.inr ⟨a, _, rfl, h1, by rw [e]; exact q _ rfl⟩)
  | [.str x], hf =>
    obtain ⟨v, rfl, hv⟩ := hr.sgl
    obtain rfl := (hv : v = _)
    dsimp only [fLen] at hf
    split at hf
    · cases hf
      exact .inl ⟨_, _, rfl, ⟨lim_le (by assumption), rfl⟩, q _ rfl⟩
    · cases hf
theorem cAbs : CallS X (.builtin "abs") fAbs := by
  refine ⟨_, call_abs, fun H ds vs d Q hf hr q => ?_⟩
  match ds, hf with
  | [.int i], hf =>
    cases hf
    obtain ⟨v, rfl, hv⟩ := hr.sgl
    obtain rfl := (hv : v = _)
    exact ⟨i, rfl, q _ rfl⟩
theorem cMax2 (hc : X.calm = true) : CallS X (.builtin "max") fMax2 := by
  refine ⟨_, call_max2 hc, fun H ds vs d Q hf hr q => ?_⟩
  match ds, hf with
  | [.int i, .int j], hf =>
    cases hf
    obtain ⟨v, w, rfl, hv, hw⟩ := hr.two
    obtain rfl := (hv : v = _); obtain rfl := (hw : w = _)
    exact ⟨i, j, rfl, q _ rfl⟩
theorem cMin2 (hc : X.calm = true) : CallS X (.builtin "min") fMin2 := by
  refine ⟨_, call_min2 hc, fun H ds vs d Q hf hr q => ?_⟩
  match ds, hf with
  | [.int i, .int j], hf =>
    cases hf
    obtain ⟨v, w, rfl, hv, hw⟩ := hr.two
    obtain rfl := (hv : v = _); obtain rfl := (hw : w = _)
    exact ⟨i, j, rfl, q _ rfl⟩
theorem cInt : CallS X (.type "int") fInt := by
  refine ⟨_, call_int1, fun H ds vs d Q hf hr q => ?_⟩
  match ds, hf with
  | [.int i], hf =>
    cases hf
    obtain ⟨v, rfl, hv⟩ := hr.sgl
    obtain rfl := (hv : v = _)
    exact .inl ⟨i, rfl, q _ rfl⟩
  | [.bl k], hf =>
    cases hf
    obtain ⟨v, rfl, hv⟩ := hr.sgl
    obtain rfl := (hv : v = _)
    exact .inr ⟨k, rfl, q _ rfl⟩
theorem cSum (hc : X.calm = true) : CallS X (.builtin "sum") fSumF := by
  refine ⟨_, cr_sum hc, fun H ds vs d Q hf hr q => ?_⟩
  match ds, hf with
  | [.lst l], hf =>
    obtain ⟨x, rfl, a, xs, rfl, h1, h2⟩ := hr.sgl
    dsimp only [fSumF] at hf
    cases e : D.ints l with
    | none => rw [e] at hf; cases hf
    | some ns =>
      rw [e] at hf; cases hf
      rw [D.ints_rps e h2] at h1
      exact ⟨a, ns, rfl, SqL.of h1, q _ rfl⟩
  | [.fro l], hf =>
    obtain ⟨x, rfl, a, xs, rfl, h1, h2⟩ := hr.sgl
    dsimp only [fSumF] at hf
    cases e : D.ints l with
    | none => rw [e] at hf; cases hf
    | some ns =>
      rw [e] at hf; cases hf
      rw [D.ints_rps e h2] at h1
      exact ⟨a, ns, rfl, h1, q _ rfl⟩
theorem cMaxL (hc : X.calm = true) : CallS X (.builtin "max") fMaxL := by
  refine ⟨_, cr_max hc, fun H ds vs d Q hf hr q => ?_⟩
  match ds, hf with
  | [.lst l], hf =>
    obtain ⟨x, rfl, a, xs, rfl, h1, h2⟩ := hr.sgl
    dsimp only [fMaxL] at hf
    cases e : D.ints l with
    | none => rw [e] at hf; cases hf
    | some ns =>
      cases ns with
      | nil => rw [e] at hf; cases hf
      | cons n r =>
        rw [e] at hf; cases hf
        rw [D.ints_rps e h2] at h1
        refine ⟨a, n :: r, rfl, SqL.of h1, by simp, fun m hm hle => ?_⟩
        have e1 := maxOf_le r n m hm
        have e2 := hle _ (maxOf_mem r n)
        rw [show m = maxOf n r by omega]
        exact q _ rfl
theorem cMinL (hc : X.calm = true) : CallS X (.builtin "min") fMinL := by
  refine ⟨_, cr_min hc, fun H ds vs d Q hf hr q => ?_⟩
  match ds, hf with
  | [.lst l], hf =>
    obtain ⟨x, rfl, a, xs, rfl, h1, h2⟩ := hr.sgl
    dsimp only [fMinL] at hf
    cases e : D.ints l with
    | none => rw [e] at hf; cases hf
    | some ns =>
      cases ns with
      | nil => rw [e] at hf; cases hf
      | cons n r =>
        rw [e] at hf; cases hf
        rw [D.ints_rps e h2] at h1
        refine ⟨a, n :: r, rfl, SqL.of h1, by simp, fun m hm hle => ?_⟩
        have e1 := minOf_le r n m hm
        have e2 := hle _ (minOf_mem r n)
        rw [show m = minOf n r by omega]
        exact q _ rfl
theorem cGcd : CallS X (.builtin "math.gcd") fGcd := by
  refine ⟨_, cr_gcd, fun H ds vs d Q hf hr q => ?_⟩
  match ds, hf with
  | [.int i, .int j], hf =>
    cases hf
    obtain ⟨v, w, rfl, hv, hw⟩ := hr.two
    obtain rfl := (hv : v = _); obtain rfl := (hw : w = _)
    exact ⟨i, j, rfl, q _ rfl⟩
theorem cStr : CallS X (.type "str") fStr := by
  refine ⟨_, call_str_int, fun H ds vs d Q hf hr q => ?_⟩
  match ds, hf with
  | [.int i], hf =>
    obtain ⟨v, rfl, hv⟩ := hr.sgl
    obtain rfl := (hv : v = _)
    dsimp only [fStr] at hf
    split at hf
    · rename_i hl
      cases hf
      exact ⟨i, rfl, Nat.lt_trans (log2_of hl (by decide)) (by decide), q _ rfl⟩
    · cases hf
theorem cIsi : CallS X (.builtin "isinstance") fIsi := by
  refine ⟨_, CallR.or call_isi (CallR.or call_isiT call_isiK), fun H ds vs d Q hf hr q => ?_⟩
  have one : ∀ (T : Ty) (a : D) (x : V), a.kind.map (fun _ => D.bl (a.isTy T)) = some d → Rp X.K H a x → rIsi X.K [x, .ty T.name] H Q := fun T a x e r => by
    cases hk : a.kind with
    | none => rw [hk] at e; cases e
    | some k =>
      rw [hk] at e; cases e
      exact ⟨x, _, _, _, _, rfl, .ty _, tyX_of hk r, kit_ty (kit_all T a k hk), q _ rfl⟩
  unfold fIsi at hf
  split at hf
  · obtain ⟨v, w, rfl, hv, hw⟩ := hr.two
    obtain rfl := (hw : w = _)
    exact .inl (one .int _ _ hf hv)
  · obtain ⟨v, w, rfl, hv, hw⟩ := hr.two
    obtain rfl := (hw : w = _)
    exact .inl (one .bool _ _ hf hv)
  · obtain ⟨v, w, rfl, hv, hw⟩ := hr.two
    obtain rfl := (hw : w = _)
    exact .inl (one .list _ _ hf hv)
  · obtain ⟨v, w, rfl, hv, hw⟩ := hr.two
    obtain rfl := (hw : w = _)
    exact .inl (one .tuple _ _ hf hv)
  · obtain ⟨v, w, rfl, hv, hw⟩ := hr.two
    obtain rfl := (hw : w = _)
    exact .inl (one .str _ _ hf hv)
  · obtain ⟨v, w, rfl, hv, hw⟩ := hr.two
    obtain rfl := (hw : w = _)
    exact .inl (one .dict _ _ hf hv)
  · obtain ⟨v, w, rfl, hv, hw⟩ := hr.two
    rename_i a
    obtain ⟨p, xs, rfl, h1, x1, r1, rfl, e1, x2, r2, rfl, e2, e3⟩ := hw
    obtain rfl := (e1 : x1 = _); obtain rfl := (e2 : x2 = _); obtain rfl := (e3 : r2 = _)
    cases hk : a.kind with
    | none => rw [hk] at hf; cases hf
    | some k =>
      rw [hk] at hf; cases hf
      have hK : PySem.W.kitAny X.K (.type k) [.type "list", .type "tuple"] = some (a.isTy .list || a.isTy .tuple) := by
        refine kitAny_cons (b := a.isTy .list) (kit_ty (kit_all .list a k hk)) (fun z => ?_) fun z => by rw [z]; rfl
        rw [z, Bool.false_or]
        refine kitAny_cons (b := a.isTy .tuple) (kit_ty (kit_all .tuple a k hk)) (fun z => ?_) fun z => z
        rw [z]; exact kitAny_nil
      rcases h1 with h1 | ⟨o, its, n, g1, g2, g3, _, g5⟩
      · exact .inr (.inl ⟨v, p, _, _, _, _, rfl, h1, .cons (.ty _) (.cons (.ty _) .nil), tyX_of hk hv, hK, q _ rfl⟩)
      · have e : its.toList = [.type "list", .type "tuple"] := by
          generalize its.toList = us at g5
          cases g5 with
          | cons r1 r2 =>
            cases r2 with
            | cons r3 r4 =>
              cases r4
              rw [show _ = _ from r1, show _ = _ from r3]
        obtain ⟨oc, od, dt, sl⟩ := o
        simp only at g2 g3
        subst g2 g3
        exact .inr (.inr ⟨v, p, od, its.toList, n, sl, _, _, rfl, g1, tyX_of hk hv, by rw [e]; exact hK, q _ rfl⟩)
  · cases hf
end
end M3

/-! MO -/
set_option Elab.async false
set_option linter.all false
set_option maxRecDepth 100000
set_option maxHeartbeats 4000000
namespace M3
open PySem PySem.Spec PyProof.Rows L2

section
variable {X : Cx} {P O : List Nat} {W : WX} {n k n1 n2 n3 : Nat} {b b1 b2 b3 : Bool} {e a c : Expr} {m ma mb mc : M} {pos p : Pos} {es : List Expr} {ms mt : Mi (List D)} {rest : List Expr} {x : Str} {id T : String}
theorem All2.rps' {K : Fg} {Hm H : Hp} (h : Ex Hm H) : ∀ {l : List D} {xs : List V}, All2 (Bor K Hm H n) l xs → Rps K H l xs
  | [], [], _ => rfl
  | d :: l, x :: xs, ⟨h1, h2⟩ => ⟨_, _, rfl, h1.rp h, All2.rps' h h2⟩
  | [], _ :: _, h => h.elim
  | _ :: _, [], h => h.elim
theorem me_cS {e : Expr} {r : List V → Hp → VK → Prop} {f : List D → Option D} (hr : ∀ H ds vs d Q, f ds = some d → Rps X.K H ds vs → (∀ v, Flat d v → Q v H) → r vs H Q) (hp : ∀ t, PA X es t → PE X e (tCB r t)) (ha : MAB X P O W n b es ms) : ME X P O W 0 b e (mf f ms) := by
  obtain ⟨ta, pa, ha⟩ := ha.run
  refine ⟨_, hp _ pa, fun β F G env σ H Q S p => ?_⟩
  refine ha β F G env σ H _ S (p.bindL fun ds env1 H1 S1 x1 p1 q vs r1 => ?_)
  obtain ⟨d, e, q3⟩ := q.lift
  exact hr H1 ds vs d _ e (All2.rps' hid_le r1) fun v hv => q3.here S1 v hv.rp
theorem me_cB {f : List D → Option D} (h : CallS X (.builtin id) f) (ha : MAB X P O W n b (e :: es) ms) (hm : X.mg x = none) (hg : Gl X x := by rfl) (hv : bootBuiltins x = some (.builtin id) := by decide +kernel) (hn : x ≠ "__name__" := by decide) (hdb : (x == ("__debug__" : Str)) = false := by decide)
    (he : starEach (e :: es) X.env = (false, eval e X.env) :: starEach es X.env := by rfl) (hpl : (backTo pos (starEach es X.env)).any (·.1) = false := by rfl) : ME X P O W 0 b (.Call (.Name x p) (e :: es) [] pos) (mf f ms) := by
  obtain ⟨r, h1, h2⟩ := h
  exact me_cS h2 (fun t pa => pe_callB h1 hg hm hv pa hn hdb he hpl) ha
theorem me_cT {f : List D → Option D} (h : CallS X (.type T) f) (ha : MAB X P O W n b (e :: es) ms) (hm : X.mg x = none) (hg : Gl X x := by rfl) (hv : bootBuiltins x = some (.type T) := by decide +kernel) (hn : x ≠ "__name__" := by decide) (hdb : (x == ("__debug__" : Str)) = false := by decide)
    (he : starEach (e :: es) X.env = (false, eval e X.env) :: starEach es X.env := by rfl) (hpl : (backTo pos (starEach es X.env)).any (·.1) = false := by rfl) : ME X P O W 0 b (.Call (.Name x p) (e :: es) [] pos) (mf f ms) := by
  obtain ⟨r, h1, h2⟩ := h
  exact me_cS h2 (fun t pa => pe_callTy h1 hg hm hv pa hn hdb he hpl) ha
/-- a built-in of a module, imported by name -/
theorem me_cF {f : List D → Option D} (h : CallS X (.builtin id) f) (ha : MAB X P O W n b (e :: es) ms) (hm : X.mg x = some (.builtin id)) (hg : Gl X x := by rfl) (hdb : (x == ("__debug__" : Str)) = false := by decide)
    (he : starEach (e :: es) X.env = (false, eval e X.env) :: starEach es X.env := by rfl) (hpl : (backTo pos (starEach es X.env)).any (·.1) = false := by rfl) : ME X P O W 0 b (.Call (.Name x p) (e :: es) [] pos) (mf f ms) := by
  obtain ⟨r, h1, h2⟩ := h
  exact me_cS h2 (fun t pa => pe_callBfun h1 hg hm pa hdb he hpl) ha
/-- a built-in type's name as a value -/
theorem me_ty (hm : X.mg x = none) (hg : Gl X x := by rfl) (hv : bootBuiltins x = some (.type T) := by decide +kernel) (hn : x ≠ "__name__" := by decide) (hdb : (x == ("__debug__" : Str)) = false := by decide) : ME X P O W 0 true (.Name x pos) (mC (.val (.ty T))) :=
  me_c (t := tC .non) (pe_bltn (v := .ty T) hg hm hv rfl hn hdb) rfl
def fBits (d : D) : Option D := match d with | .int i => some (.int (Builtin.Int.intBits i : Nat)) | _ => none
theorem me_bits {apos : Pos} (ha : ME X P O W n b a ma) (hbase : attributeBase a "bit_length" X.env (eval a X.env) = eval a X.env := by rfl) (hline : (apos.endLine == pos.line) = true := by rfl) : ME X P O W 0 b (.Call (.Attribute a "bit_length" apos) [] [] pos) (m1 fBits ma) := by
  obtain ⟨ta, pa, ha⟩ := ha.run
  refine ⟨_, pe_bits pa hbase hline, fun β F G env σ H Q S p => ?_⟩
  refine ha β F G env σ H _ S (p.bindL fun d1 env1 H1 S1 x1 p1 q v1 r1 => ?_)
  obtain ⟨d, e, q3⟩ := q.lift
  cases d1 with
  | int i =>
    cases e
    exact ⟨i, r1.rp hid_le, q3.here S1 _ rfl⟩
  | _ => cases e

/-! ### things made new -/
theorem Stt.own1 {K : Fg} {β : Bc} {F : List (List Addr)} {G : List Addr} {env : Sl} {σ : L2.St} {H : Hp} (S : Stt K P O β F G env σ H) {p : Addr} (hp : H p = none) {l : List D} {xs : List V} (r : Rps K (hid H (msk F G)) l xs) :
    Stt K P O β F ([p] ++ G) env σ (upd H p (.lst xs)) ∧ Fo F G [p] H (upd H p (.lst xs)) ∧ Own K (hid (upd H p (.lst xs)) (msk F ([p] ++ G))) (upd H p (.lst xs)) 1 (.lst l) (.ref p) [p] := by
  have e : hid (upd H p (.lst xs)) (msk F ([p] ++ G)) = hid H (msk F G) := hid_newG S hp
  refine ⟨S.newG hp, ⟨by rw [e]; exact Ex.rfl' _, fun a m => upd_ne fun z => S.fresh hp (List.mem_append_right _ (z ▸ m))⟩, p, xs, l.map (fun _ => []), rfl, ?_, .inl ⟨l, rfl, upd_same, ?_⟩⟩
  · have : ∀ l : List D, (l.map fun _ => ([] : List Addr)).flatten = [] := fun l => by induction l <;> simp_all
    rw [this]
  · rw [e]
    clear e
    induction l generalizing xs with
    | nil => rw [show xs = [] from r]; exact trivial
    | cons d l ih =>
      obtain ⟨x, r', rfl, h1, h2⟩ := r
      exact ⟨⟨rfl, h1⟩, ih h2⟩
/-- of an outcome that must be a new list -/
def asL (m : M) : M := fun e => (m e).bind fun d e1 => match d with | .lst l => .ok (.lst l) e1 | _ => .bad
/-- what is made new may be shared at once -/
theorem MO.me (h : MO X P O W n b e m) : ME X P O W 0 b e m := by
  obtain ⟨t, h1, h2⟩ := h.run
  refine ⟨t, h1, fun β F G env σ H Q S p => h2 β F G env σ H Q S ?_⟩
  cases q : m env with
  | ok d e =>
    rw [q] at p
    intro v H' fp S' x' p' o
    have hs : G.Sublist (fp ++ G) := List.sublist_append_right _ _
    have e2 : Ex (hid H' (msk F (fp ++ G))) (hid H' (msk F G)) := hid_dropG fun a m => hs.subset m
    exact p H' (S'.dropG hs fun a m => (S.rr a m).1) ⟨x'.ex.trn e2, x'.gs⟩ p' v (Bor.up _ (own_land S'.nd o))
  | exc c x e => rw [q] at p; exact p
  | bad => rw [q] at p; exact p
theorem MO.weak (h : MO X P O W n b e m) (hb : b1 = true → b = true := by intro h; exact h) : MO X P O W n b1 e m := by
  obtain ⟨t, h1, h2⟩ := h.run
  refine ⟨t, h1, fun β F G env σ H Q S p => h2 β F G env σ H Q S ?_⟩
  cases q : m env with
  | ok d e => rw [q] at p; exact fun v H' fp S' x' p' o => p v H' fp S' x' (fun z => p' (hb z)) o
  | exc c x e => rw [q] at p; exact p
  | bad => rw [q] at p; exact p
/-- reading an owned outcome off a shared one's proof: PstO from what follows -/
theorem mo_lst (h : MA X P O W b es ms) : MO X P O W 1 b (.List es pos) (mf mkLst ms) := by
  obtain ⟨ta, pa, ha⟩ := h.run
  refine ⟨_, pe_lst pa, fun β F G env σ H Q S p => ?_⟩
  refine ha β F G env σ H _ S ?_
  unfold mf at p
  cases q : ms env with
  | ok ds e =>
    rw [q] at p
    intro H1 S1 x1 p1 vs r1
    have p' : PstO X P O W β F G σ H 1 b env Q (liftO (mkLst ds) e) := p
    unfold mkLst at p'
    split at p'
    · rename_i hl
      refine ⟨by rw [r1.len]; exact lim_le hl, fun a ha => ?_⟩
      obtain ⟨s1, s2, s3⟩ := S1.own1 ha r1
      exact p' _ _ [a] s1 (x1.tro s2) (fun z => ⟨(p1 z).1, (p1 z).2.trn (Ex.new ha)⟩) s3
    · exact p'.elim
  | exc c x e => rw [q] at p; exact p
  | bad => rw [q] at p; exact p

/-- what follows a new list -/
def NewL (K : Fg) (Hs H : Hp) (l : List D) (Q : VK) : Prop := ∀ p xs, H p = none → Rps K Hs l xs → Q (.ref p) (upd H p (.lst xs))
theorem NewL.of {β : Bc} {F : List (List Addr)} {G : List Addr} {env e : Sl} {σ : L2.St} {H H1 : Hp} {Q : VK} {l : List D} {m : M} (S1 : Stt X.K P O β F G e σ H1) (x1 : Fw F G H H1) (p1 : b = true → e = env ∧ Ex H H1)
    (p : PstO X P O W β F G σ H 1 b env Q (.ok (.lst l) e)) : NewL X.K (hid H1 (msk F G)) H1 l Q := fun a xs ha r => by
  obtain ⟨s1, s2, s3⟩ := S1.own1 ha r
  exact p _ _ [a] s1 (x1.tro s2) (fun z => ⟨(p1 z).1, (p1 z).2.trn (Ex.new ha)⟩) s3
theorem bor_up1 {K : Fg} {Hs H : Hp} {d : D} {v : V} (h : n = 0 ∨ n = 1) (r : Bor K Hs H n d v) : Bor K Hs H 1 d v := by
  rcases h with rfl | rfl
  · exact Bor.up 1 r
  · exact r
theorem mo_2 {op : Expr} {f : D → D → Option D} {r : R2} (hr : ∀ Hs H d1 d2 v1 v2 l Q, Ex Hs H → f d1 d2 = some (.lst l) → Bor X.K Hs H 1 d1 v1 → Bor X.K Hs H 1 d2 v2 → NewL X.K Hs H l Q → r v1 v2 H Q)
    (hp : ∀ ta tb, PE X a ta → PE X c tb → PE X op (tOp r ta tb)) (ha : ME X P O W n1 b1 a ma) (hb : ME X P O W n2 b2 c mb) (hm : (n1 == 0 || (b2 && n1 == 1)) = true) (hn : (n2 == 0 || n2 == 1) = true) : MO X P O W 1 (b1 && b2) op (asL (m2 f ma mb)) := by
  obtain ⟨ta, pa, ha⟩ := ha.run
  obtain ⟨tb, pb, hb⟩ := hb.run
  refine ⟨_, hp _ _ pa pb, fun β F G env σ H Q S p => ?_⟩
  refine ha β F G env σ H _ S ?_
  unfold asL m2 at p
  cases e1 : ma env with
  | bad => rw [e1] at p; exact p
  | exc c x e => rw [e1] at p; exact p
  | ok d1 env1 =>
    rw [e1] at p
    intro H1 S1 x1 p1 v1 r1
    refine hb β F G env1 σ H1 _ S1 ?_
    have p : PstO X P O W β F G σ H 1 (b1 && b2) env Q (((mb env1).bind fun y e2 => liftO (f d1 y) e2).bind fun d e1 => match d with | .lst l => .ok (.lst l) e1 | _ => .bad) := p
    cases e2 : mb env1 with
    | bad => rw [e2] at p; exact p
    | exc c x e => rw [e2] at p; exact fun dx v H' S' x' => p dx v H' S' (x1.ex.trn x')
    | ok d2 env2 =>
      rw [e2] at p
      intro H2 S2 x2 p2 v2 r2
      have p : PstO X P O W β F G σ H 1 (b1 && b2) env Q ((liftO (f d1 d2) env2).bind fun d e1 => match d with | .lst l => .ok (.lst l) e1 | _ => .bad) := p
      cases e3 : f d1 d2 with
      | none => rw [e3] at p; exact p.elim
      | some d =>
        rw [e3] at p
        cases d with
        | lst l =>
          have r1' : Bor X.K (hid H2 (msk F G)) H2 1 d1 v1 := by
            rcases Bool.or_eq_true _ _ ▸ hm with h | h
            · have z : n1 = 0 := by simpa using h
              subst z
              exact bor_up1 (.inl rfl) (Bor.mono (H := H1) x2.ex 0 (.inl rfl) r1)
            · rw [Bool.and_eq_true] at h
              have z : n1 = 1 := by simpa using h.2
              subst z
              exact r1.mono x2.ex _ (.inr (p2 h.1).2)
          have r2' : Bor X.K (hid H2 (msk F G)) H2 1 d2 v2 := bor_up1 (by simpa using hn) r2
          refine hr _ H2 d1 d2 v1 v2 l _ hid_le e3 r1' r2' (NewL.of (m := ma) S2 (x1.trn x2) (fun z => ?_) p)
          rw [Bool.and_eq_true] at z
          exact ⟨(p2 z.2).1.trans (p1 z.1).1, (p1 z.1).2.trn (p2 z.2).2⟩
        | _ => exact p.elim
theorem nAdd : ∀ Hs H d1 d2 v1 v2 l Q, Ex Hs H → D.add d1 d2 = some (.lst l) → Bor X.K Hs H 1 d1 v1 → Bor X.K Hs H 1 d2 v2 → NewL X.K Hs H l Q → rCat v1 v2 H Q := by
  intro Hs H d1 d2 v1 v2 l Q e hf r1 r2 q
  cases d1 <;> cases d2 <;> dsimp only [D.add] at hf <;> first | cases hf | (split at hf <;> cases hf)
  obtain ⟨a, xs, rfl, h1, h2⟩ := r1.list e
  obtain ⟨b, ys, rfl, h3, h4⟩ := r2.list e
  refine ⟨a, b, xs, ys, rfl, rfl, h1, h3, ?_, fun p hp => q p _ hp ((All2.rps h2).app (All2.rps h4))⟩
  rw [h2.len, h4.len]; exact lim_le (by assumption)
theorem nMul : ∀ Hs H d1 d2 v1 v2 l Q, Ex Hs H → D.mul d1 d2 = some (.lst l) → Bor X.K Hs H 1 d1 v1 → Bor X.K Hs H 1 d2 v2 → NewL X.K Hs H l Q → rRep v1 v2 H Q := by
  intro Hs H d1 d2 v1 v2 l Q e hf r1 r2 q
  cases d1 with
  | int i =>
    cases d2 with
    | int j =>
      dsimp only [D.mul] at hf
      split at hf
      · have z := Option.some.inj hf
        cases z
      · cases hf
    | _ => cases hf
  | lst l' =>
    cases d2 with
    | int k =>
      dsimp only [D.mul] at hf
      split at hf
      · rename_i hl
        have z := Option.some.inj hf
        cases z
        obtain ⟨a, xs, rfl, h1, h2⟩ := r1.list e
        obtain rfl := (r2.rp e : v2 = _)
        refine ⟨a, k, xs, rfl, rfl, h1, by omega, by omega, ?_, fun p hp => q p _ hp ?_⟩
        · rw [h2.len]; exact lim_le hl.1
        · have h3 : Rps X.K Hs l' xs := All2.rps h2
          generalize k.toNat = n
          induction n with
          | zero => rfl
          | succ n ih =>
            rw [List.replicate_succ, List.replicate_succ, List.flatten_cons, List.flatten_cons]
            exact h3.app ih
      · cases hf
    | _ => cases hf
  | _ => cases d2 <;> cases hf
theorem mo_add (ha : ME X P O W n1 b1 a ma) (hb : ME X P O W n2 b2 c mb) (hm : (n1 == 0 || (b2 && n1 == 1)) = true := by rfl) (hn : (n2 == 0 || n2 == 1) = true := by rfl) : MO X P O W 1 (b1 && b2) (.BinOp a .Add c pos) (asL (m2 D.add ma mb)) :=
  mo_2 nAdd (fun _ _ => pe_op op_cat) ha hb hm hn
theorem mo_mul (ha : ME X P O W n1 b1 a ma) (hb : ME X P O W n2 b2 c mb) (hm : (n1 == 0 || (b2 && n1 == 1)) = true := by rfl) (hn : (n2 == 0 || n2 == 1) = true := by rfl) : MO X P O W 1 (b1 && b2) (.BinOp a .Mult c pos) (asL (m2 D.mul ma mb)) :=
  mo_2 nMul (fun _ _ => pe_op op_rep) ha hb hm hn

/-! ### list(..), tuple(..), sorted(..) -/
theorem All2.sgl {Pr : D → V → Prop} {a : D} {vs : List V} (h : All2 Pr [a] vs) : ∃ x, vs = [x] ∧ Pr a x := by
  cases vs with
  | nil => exact h.elim
  | cons x r =>
    cases r with
    | nil => exact ⟨x, rfl, h.1⟩
    | cons y r => exact h.2.elim
theorem mo_c {e : Expr} {r : List V → Hp → VK → Prop} {f : List D → Option D} (hr : ∀ Hs H ds vs l Q, Ex Hs H → f ds = some (.lst l) → All2 (Bor X.K Hs H 1) ds vs → NewL X.K Hs H l Q → r vs H Q) (hp : ∀ t, PA X es t → PE X e (tCB r t)) (ha : MAB X P O W 1 b es ms) : MO X P O W 1 b e (asL (mf f ms)) := by
  obtain ⟨ta, pa, ha⟩ := ha.run
  refine ⟨_, hp _ pa, fun β F G env σ H Q S p => ?_⟩
  refine ha β F G env σ H _ S ?_
  unfold asL mf at p
  cases e1 : ms env with
  | bad => rw [e1] at p; exact p
  | exc c x e => rw [e1] at p; exact p
  | ok ds env1 =>
    rw [e1] at p
    intro H1 S1 x1 p1 vs r1
    have p : PstO X P O W β F G σ H 1 b env Q ((liftO (f ds) env1).bind fun d e1 => match d with | .lst l => .ok (.lst l) e1 | _ => .bad) := p
    cases e3 : f ds with
    | none => rw [e3] at p; exact p.elim
    | some d =>
      rw [e3] at p
      cases d with
      | lst l => exact hr _ H1 ds vs l _ hid_le e3 r1 (NewL.of (m := mC .non) S1 x1 p1 p)
      | _ => exact p.elim
theorem mo_list (ha : MAB X P O W 1 b (e :: es) ms) (hm : X.mg "list" = none) (hg : Gl X "list" := by rfl) (hv : bootBuiltins "list" = some (.type "list") := by decide +kernel) (hn : ("list" : Str) ≠ "__name__" := by decide) (hdb : (("list" : Str) == ("__debug__" : Str)) = false := by decide)
    (he : starEach (e :: es) X.env = (false, eval e X.env) :: starEach es X.env := by rfl) (hpl : (backTo pos (starEach es X.env)).any (·.1) = false := by rfl) : MO X P O W 1 b (.Call (.Name "list" p) (e :: es) [] pos) (asL (mf fList ms)) := by
  refine mo_c (fun Hs H ds vs l Q e hf r q => ?_) (fun t pa => pe_callTy call_list_of hg hm hv pa hn hdb he hpl) ha
  unfold fList at hf
  split at hf
  · obtain ⟨v, rfl, rv⟩ := All2.sgl r
    cases hf
    obtain ⟨a, xs, rfl, h1, h2⟩ := Bor.list e rv
    exact ⟨a, xs, rfl, .inl (SqL.of h1), fun p hp => q p _ hp (All2.rps h2)⟩
  · obtain ⟨v, rfl, rv⟩ := All2.sgl r
    cases hf
    obtain ⟨a, xs, rfl, h1, h2⟩ := Bor.tuple e rv
    exact ⟨a, xs, rfl, .inr h1.t, fun p hp => q p _ hp h2⟩
  · cases hf
theorem ints_map {K : Fg} {H : Hp} : ∀ ns : List Int, Rps K H (ns.map D.int) (ns.map V.int)
  | [] => rfl
  | _ :: ns => ⟨_, _, rfl, rfl, ints_map ns⟩
theorem mo_sorted (ha : MAB X P O W 1 b (e :: es) ms) (hm : X.mg "sorted" = none) (hg : Gl X "sorted" := by rfl) (hv : bootBuiltins "sorted" = some (.builtin "sorted") := by decide +kernel) (hn : ("sorted" : Str) ≠ "__name__" := by decide) (hdb : (("sorted" : Str) == ("__debug__" : Str)) = false := by decide)
    (he : starEach (e :: es) X.env = (false, eval e X.env) :: starEach es X.env := by rfl) (hpl : (backTo pos (starEach es X.env)).any (·.1) = false := by rfl) : MO X P O W 1 b (.Call (.Name "sorted" p) (e :: es) [] pos) (asL (mf fSorted ms)) := by
  refine mo_c (fun Hs H ds vs l Q e hf r q => ?_) (fun t pa => pe_callB cr_sortedI hg hm hv pa hn hdb he hpl) ha
  unfold fSorted at hf
  split at hf
  · obtain ⟨v, rfl, rv⟩ := All2.sgl r
    rename_i l'
    obtain ⟨a, xs, rfl, h1, h2⟩ := Bor.list e rv
    cases hi : D.ints l' with
    | none => rw [hi] at hf; cases hf
    | some ns =>
      rw [hi] at hf; cases hf
      rw [D.ints_rps hi (All2.rps h2)] at h1
      refine ⟨a, ns, rfl, SqL.of h1, fun ns' p hp hs np => ?_⟩
      rw [sorted_uniq (hp.trans (sortI_perm ns).symm) hs (sortI_sorted ns)]
      exact q p _ np (ints_map _)
  · cases hf
theorem me_tuple (ha : MAB X P O W n b (e :: es) ms) (hn1 : (n == 0 || n == 1) = true := by rfl) (hm : X.mg "tuple" = none) (hg : Gl X "tuple" := by rfl) (hv : bootBuiltins "tuple" = some (.type "tuple") := by decide +kernel) (hn : ("tuple" : Str) ≠ "__name__" := by decide) (hdb : (("tuple" : Str) == ("__debug__" : Str)) = false := by decide)
    (he : starEach (e :: es) X.env = (false, eval e X.env) :: starEach es X.env := by rfl) (hpl : (backTo pos (starEach es X.env)).any (·.1) = false := by rfl) : ME X P O W 0 b (.Call (.Name "tuple" p) (e :: es) [] pos) (mf fTuple ms) := by
  obtain ⟨ta, pa, ha⟩ := ha.run
  refine ⟨_, pe_callTy call_tuple_of hg hm hv pa hn hdb he hpl, fun β F G env σ H Q S p => ?_⟩
  refine ha β F G env σ H _ S (p.bindL fun ds env1 H1 S1 x1 p1 q vs r1 => ?_)
  obtain ⟨d, e, q3⟩ := q.lift
  unfold fTuple at e
  split at e
  · obtain ⟨v, rfl, r⟩ := All2.sgl r1
    cases e
    obtain ⟨a, xs, rfl, h1, h2⟩ := (bor_up1 (by simpa using hn1) r).list hid_le
    exact ⟨a, xs, rfl, .inl ⟨SqL.of h1, fun p hp => q3.out S1 (.inr ⟨p, hp, rfl, .inr ⟨_, _, rfl, rfl, All2.rps h2⟩⟩)⟩⟩
  · obtain ⟨v, rfl, r⟩ := All2.sgl r1
    rename_i l'
    cases e
    have r0 : Rp X.K (hid H1 (msk F G)) (.tup l') v := by
      rcases bor_up1 (by simpa using hn1) r with h | ⟨_, _, _, ⟨_, z, _⟩ | ⟨_, _, z, _⟩⟩
      · exact h
      · cases z
      · cases z
    obtain ⟨a, xs, rfl, h1, h2⟩ := r0
    exact ⟨a, xs, rfl, .inr ⟨(ex_p hid_le h1).t, q3.here S1 _ ⟨a, xs, rfl, h1, h2⟩⟩⟩
  · cases e

/-! ### slices -/
structure MPt (X : Cx) (P O : List Nat) (W : WX) (b : Bool) (e : Option Expr) (m : Mi (Option Int)) : Prop where
  run : ∃ t, PO X e t ∧ ∀ β F G env σ H Q, Stt X.K P O β F G env σ H →
    Pst X P O W β F G σ H b env (fun d H' => Q d H') (m env) → t σ H Q
def mPn : Mi (Option Int) := fun e => .ok none e
def mPs (m : M) : Mi (Option Int) := fun e => (m e).bind fun d e1 => match d with | .int i => .ok (some i) e1 | _ => .bad
theorem mpt_none : MPt X P O W true none mPn := ⟨_, po_none, fun β F G env σ H Q S p => p.here S⟩
theorem mpt_some (ha : ME X P O W n b a ma) : MPt X P O W b (some a) (mPs ma) := by
  obtain ⟨ta, pa, ha⟩ := ha.run
  refine ⟨_, po_some pa, fun β F G env σ H Q S p => ?_⟩
  refine ha β F G env σ H _ S (p.bindL fun d1 env1 H1 S1 x1 p1 q v1 r1 => ?_)
  cases d1 with
  | int i => exact ⟨i, r1.rp hid_le, q.here S1⟩
  | _ => exact q.elim
def cutL {α : Type} (l : List α) (lo hi : Option Int) : List α := (l.drop (HT.sIx l.length 0 lo)).take (HT.sIx l.length l.length hi - HT.sIx l.length 0 lo)
theorem Rps.cut {K : Fg} {H : Hp} {l : List D} {xs : List V} (r : Rps K H l xs) (lo hi : Option Int) : Rps K H (cutL l lo hi) (cutV xs lo hi) := by
  unfold cutL cutV
  rw [r.len]
  exact (r.drop _).take _
def D.sl (d : D) (lo hi : Option Int) : Option D := match d with
  | .lst l => some (.lst (cutL l lo hi))
  | .tup l => some (.tup (cutL l lo hi))
  | .fro l => some (.lst (cutL l lo hi))
  | .str z => if z.length ≤ lim then some (.str (cutS z lo hi)) else none
  | _ => none
def mSl (ma : M) (ml mh : Mi (Option Int)) : M := fun e => (ma e).bind fun x e1 => (ml e1).bind fun lo e2 => (mh e2).bind fun hi e3 => liftO (D.sl x lo hi) e3
theorem SlR.or3 {r r' r'' : V → Option Int → Option Int → Hp → VK → Prop} (h : SlR X r) (h' : SlR X r') (h'' : SlR X r'') : SlR X (fun x lo hi H Q => r x lo hi H Q ∨ r' x lo hi H Q ∨ r'' x lo hi H Q) := h.or (h'.or h'')
theorem me_sl {lo hi : Option Expr} {p2 : Pos} {ml mh : Mi (Option Int)} (ha : ME X P O W n b1 a ma) (hl : MPt X P O W b2 lo ml) (hh : MPt X P O W b3 hi mh) (hm : (n == 0 || ((b2 && b3) && n == 1)) = true := by rfl) :
    ME X P O W 0 (b1 && (b2 && b3)) (.Subscript a (.Slice lo hi none p2) pos) (mSl ma ml mh) := by
  obtain ⟨ta, pa, ha⟩ := ha.run
  obtain ⟨tl, pl, hl⟩ := hl.run
  obtain ⟨th, ph, hh⟩ := hh.run
  refine ⟨_, pe_slice (SlR.or3 sl_list sl_tupA sl_str) pa pl ph, fun β F G env σ H Q S p => ?_⟩
  refine ha β F G env σ H _ S (p.bind fun d1 env1 H1 S1 x1 p1 q v1 r1 => ?_)
  refine hl β F G env1 σ H1 _ S1 (q.bind fun lo env2 H2 S2 x2 p2 q2 => ?_)
  refine hh β F G env2 σ H2 _ S2 (q2.bindL fun hi env3 H3 S3 x3 p3 q3 => ?_)
  obtain ⟨d, e, q4⟩ := q3.lift
  have r1' : Bor X.K (hid H3 (msk F G)) H3 1 d1 v1 := by
    rcases Bool.or_eq_true _ _ ▸ hm with h | h
    · have z : n = 0 := by simpa using h
      subst z
      exact bor_up1 (.inl rfl) (Bor.mono (H := H1) (x2.trn x3).ex 0 (.inl rfl) r1)
    · rw [Bool.and_eq_true, Bool.and_eq_true] at h
      have z : n = 1 := by simpa using h.2
      subst z
      exact r1.mono (x2.trn x3).ex _ (.inr ((p2 h.1.1).2.trn (p3 h.1.2).2))
  cases d1 with
  | lst l =>
    cases e
    obtain ⟨a, xs, rfl, h1, h2⟩ := r1'.list hid_le
    exact .inl ⟨a, xs, rfl, SqL.of h1, fun p hp => q4.out S3 (.inr ⟨p, hp, rfl, .inl ⟨_, _, rfl, rfl, (All2.rps h2).cut lo hi⟩⟩)⟩
  | fro l =>
    cases e
    have r0 : Rp X.K (hid H3 (msk F G)) (.fro l) v1 := by
      rcases r1' with h | ⟨_, _, _, ⟨_, z, _⟩ | ⟨_, _, z, _⟩⟩
      · exact h
      · cases z
      · cases z
    obtain ⟨a, xs, rfl, h1, h2⟩ := r0
    exact .inl ⟨a, xs, rfl, ex_l hid_le h1, fun p hp => q4.out S3 (.inr ⟨p, hp, rfl, .inl ⟨_, _, rfl, rfl, h2.cut lo hi⟩⟩)⟩
  | tup l =>
    cases e
    have r0 : Rp X.K (hid H3 (msk F G)) (.tup l) v1 := by
      rcases r1' with h | ⟨_, _, _, ⟨_, z, _⟩ | ⟨_, _, z, _⟩⟩
      · exact h
      · cases z
      · cases z
    obtain ⟨a, xs, rfl, h1, h2⟩ := r0
    refine .inr (.inl ⟨a, xs, rfl, (ex_p hid_le h1).t, fun z => ?_, fun _ p hp => q4.out S3 (.inr ⟨p, hp, rfl, .inr ⟨_, _, rfl, rfl, h2.cut lo hi⟩⟩)⟩)
    refine q4.here S3 _ ?_
    have e : cutL l lo hi = l := by
      unfold cutL
      rw [← h2.len, z.1, z.2]
      simp [h2.len]
    rw [e]
    exact ⟨a, xs, rfl, h1, h2⟩
  | str z =>
    obtain rfl := (r1'.rp hid_le : v1 = _)
    dsimp only [D.sl] at e
    split at e
    · cases e
      exact .inr (.inr ⟨z, rfl, lim_le (by assumption), q4.here S3 _ rfl⟩)
    · cases e
  | _ => cases e
end
end M3

/-! MS0 -/
set_option Elab.async false
set_option linter.all false
set_option maxRecDepth 100000
set_option maxHeartbeats 4000000
namespace M3
open PySem PySem.Spec PyProof.Rows L2

section
variable {K : Fg} {P O : List Nat} {β : Bc} {F : List (List Addr)} {G : List Addr} {env : Sl} {σ : L2.St} {H H' : Hp} {d : D} {v : V} {i n : Nat}
theorem getD_set_self {α : Type} {l : List α} {i : Nat} {a d : α} (h : i < l.length) : (l.set i a).getD i d = a := by
  rw [List.getD_eq_getElem?_getD, List.getElem?_set_self h]; rfl
theorem getD_set_ne {α : Type} {l : List α} {i j : Nat} {a d : α} (h : i ≠ j) : (l.set i a).getD j d = l.getD j d := by
  rw [List.getD_eq_getElem?_getD, List.getElem?_set_ne h, List.getD_eq_getElem?_getD]
theorem Stt.lt (S : Stt K P O β F G env σ H) (h : env[i]? = some (some d)) : i < env.length := (List.getElem?_eq_some_iff.mp h).1
/-- in a list of lists without repetition, two places have nothing in common -/
theorem flat_disj : ∀ {F : List (List Addr)} {i j : Nat} {a : Addr}, F.flatten.Nodup → a ∈ F.getD i [] → a ∈ F.getD j [] → i = j
  | [], i, j, a, _, h, _ => by simp at h
  | f :: F, 0, 0, a, _, _, _ => rfl
  | f :: F, 0, j + 1, a, h, h1, h2 => by
    rw [List.flatten_cons, List.nodup_append] at h
    exact absurd rfl (h.2.2 a (by simpa using h1) a (getD_mem_flat (i := j) (by simpa using h2)))
  | f :: F, i + 1, 0, a, h, h1, h2 => by
    rw [List.flatten_cons, List.nodup_append] at h
    exact absurd rfl (h.2.2 a (by simpa using h2) a (getD_mem_flat (i := i) (by simpa using h1)))
  | f :: F, i + 1, j + 1, a, h, h1, h2 => by
    rw [List.flatten_cons, List.nodup_append] at h
    rw [flat_disj h.2.1 (i := i) (j := j) (a := a) (by simpa using h1) (by simpa using h2)]
theorem msk_disj (S : Stt K P O β F G env σ H) {j : Nat} {a : Addr} (h1 : a ∈ F.getD i []) (h2 : a ∈ F.getD j []) : i = j := flat_disj (List.nodup_append.mp S.nd).1 h1 h2
/-- the owned data at a slot replaced, by a change of the objects that it owns: the footprint as it is -/
theorem Stt.put (S : Stt K P O β F G env σ H) (hi : i < env.length) (hc : ∀ a, a ∉ F.getD i [] → H' a = H a) (hp : ∀ a ∈ F.getD i [], ∃ o, H' a = some o)
    (hv : σ[i]? = some (some v)) (ho : Own K (hid H (msk F G)) H' (O.getD i 0) d v (F.getD i [])) : Stt K P O β F G (env.set i (some d)) σ H' := by
  have hm : ∀ a ∈ F.getD i [], a ∈ msk F G := fun a m => List.mem_append_left _ (getD_mem_flat m)
  have hs : hid H' (msk F G) = hid H (msk F G) := hid_chg fun a k => hc a fun z => k (hm a z)
  refine ⟨by rw [List.length_set]; exact S.len, by rw [List.length_set]; exact S.olen, by rw [List.length_set]; exact S.flen, S.nd, fun a m => ?_, by rw [hs]; exact S.base, fun j d' q => ?_, S.pin, S.z, fun a m => ⟨(S.rr a m).1, ?_⟩⟩
  · by_cases e : a ∈ F.getD i []
    · exact hp a e
    · rw [hc a e]; exact S.pres a m
  · by_cases e : i = j
    · subst e
      rw [List.getElem?_set_self hi] at q
      cases q
      exact ⟨v, hv, by rw [hs]; exact ho⟩
    · rw [List.getElem?_set_ne e] at q
      obtain ⟨w, h1, h2⟩ := S.slot j d' q
      refine ⟨w, h1, ?_⟩
      rw [hs]
      exact h2.frame (Ex.rfl' _) _ fun a m => hc a fun z => e (msk_disj S z m)
  · rw [hc a fun z => (List.nodup_append.mp S.nd).2.2 a (getD_mem_flat z) a (S.rr a m).1 rfl]
    exact (S.rr a m).2
theorem flat_nil_of {l : List D} {xs : List V} {fs : List (List Addr)} {Hm : Hp} (h : All3 (Own K Hm H 0) l xs fs) : fs.flatten = [] ∧ Rps K Hm l xs := by
  induction l generalizing xs fs with
  | nil => cases xs <;> cases fs <;> first | exact h.elim | exact ⟨rfl, rfl⟩
  | cons d l ih =>
    cases xs <;> cases fs <;> first | exact h.elim | skip
    obtain ⟨⟨e, r⟩, h2⟩ := h
    obtain ⟨e2, r2⟩ := ih h2
    subst e
    exact ⟨by simpa using e2, _, _, rfl, r, r2⟩
theorem all3_of {l : List D} {xs : List V} {Hm : Hp} (h : Rps K Hm l xs) : ∃ fs, All3 (Own K Hm H 0) l xs fs ∧ fs.flatten = [] := by
  induction l generalizing xs with
  | nil => rw [show xs = [] from h]; exact ⟨[], trivial, rfl⟩
  | cons d l ih =>
    obtain ⟨x, r, rfl, h1, h2⟩ := h
    obtain ⟨fs, q1, q2⟩ := ih h2
    exact ⟨[] :: fs, ⟨⟨rfl, h1⟩, q1⟩, by simpa using q2⟩
/-- an owned list of shared things -/
theorem Stt.set1 (S : Stt K P O β F G env σ H) {l : List D} (hO : O.getD i 0 = 1) (he : env[i]? = some (some (.lst l))) :
    ∃ p xs, σ[i]? = some (some (.ref p)) ∧ H p = some (.lst xs) ∧ p ∈ msk F G ∧ Rps K (hid H (msk F G)) l xs ∧ ∀ l' xs', Rps K (hid H (msk F G)) l' xs' → Stt K P O β F G (env.set i (some (.lst l'))) σ (upd H p (.lst xs')) := by
  obtain ⟨v, hv, h⟩ := S.slot i _ he
  rw [hO] at h
  obtain ⟨p, xs, fps, rfl, hf, h⟩ := h
  rcases h with ⟨l2, e, h1, h2⟩ | ⟨_, _, e, _⟩
  · cases e
    obtain ⟨e0, r⟩ := flat_nil_of h2
    have ef : F.getD i [] = [p] := by rw [hf, e0]
    refine ⟨p, xs, hv, h1, List.mem_append_left _ (getD_mem_flat (i := i) (by rw [ef]; exact List.mem_singleton.mpr rfl)), r, fun l' xs' r' => ?_⟩
    obtain ⟨fs, q1, q2⟩ := all3_of (H := upd H p (.lst xs')) r'
    refine S.put (S.lt he) (fun a z => upd_ne fun y => z ?_) (fun a m => ?_) hv ?_
    · rw [ef, y]; exact List.mem_singleton.mpr rfl
    · rw [ef, List.mem_singleton] at m
      subst m
      exact ⟨_, upd_same⟩
    · rw [hO, ef]
      exact ⟨p, xs', fs, rfl, by rw [q2], .inl ⟨l', rfl, upd_same, q1⟩⟩
  · cases e
/-- an owned dict of shared things -/
theorem Stt.setD (S : Stt K P O β F G env σ H) {ks : List Key} {l : List D} (hO : O.getD i 0 = 1) (he : env[i]? = some (some (.dct ks l))) :
    ∃ p xs, σ[i]? = some (some (.ref p)) ∧ H p = some (.dK (ks.zip xs)) ∧ p ∈ msk F G ∧ ks.length = l.length ∧ Rps K (hid H (msk F G)) l xs ∧ ∀ ks' l' xs', ks'.length = l'.length → Rps K (hid H (msk F G)) l' xs' → Stt K P O β F G (env.set i (some (.dct ks' l'))) σ (upd H p (.dK (ks'.zip xs'))) := by
  obtain ⟨v, hv, h⟩ := S.slot i _ he
  rw [hO] at h
  obtain ⟨p, xs, fps, rfl, hf, h⟩ := h
  rcases h with ⟨l2, e, h1, h2⟩ | ⟨ks2, l2, e, h1, hk, h2⟩
  · cases e
  · cases e
    obtain ⟨e0, r⟩ := flat_nil_of h2
    have ef : F.getD i [] = [p] := by rw [hf, e0]
    refine ⟨p, xs, hv, h1, List.mem_append_left _ (getD_mem_flat (i := i) (by rw [ef]; exact List.mem_singleton.mpr rfl)), hk, r, fun ks' l' xs' hk' r' => ?_⟩
    obtain ⟨fs, q1, q2⟩ := all3_of (H := upd H p (.dK (ks'.zip xs'))) r'
    refine S.put (S.lt he) (fun a z => upd_ne fun y => z ?_) (fun a m => ?_) hv ?_
    · rw [ef, y]; exact List.mem_singleton.mpr rfl
    · rw [ef, List.mem_singleton] at m
      subst m
      exact ⟨_, upd_same⟩
    · rw [hO, ef]
      exact ⟨p, xs', fs, rfl, by rw [q2], .inr ⟨ks', l', rfl, upd_same, hk', q1⟩⟩
theorem all3_frame {Hm : Hp} : ∀ {l : List D} {xs : List V} {fs : List (List Addr)} {k n : Nat}, (∀ a ∈ fs.flatten, a ∉ fs.getD k [] → H' a = H a) → fs.flatten.Nodup → All3 (Own K Hm H n) l xs fs →
    ∀ {d : D} {x : V}, Own K Hm H' n d x (fs.getD k []) → xs[k]? = some x → All3 (Own K Hm H' n) (l.set k d) xs fs
  | [], [], [], k, n, _, _, _, d, x, _, e => by simp at e
  | d0 :: l, x0 :: xs, f :: fs, 0, n, hc, hn, ⟨h1, h2⟩, d, x, ho, e => by
    simp at e; subst e
    rw [List.flatten_cons, List.nodup_append] at hn
    refine ⟨by simpa using ho, h2.imp fun d x f' m h => h.frame (Ex.rfl' _) _ fun a ma => hc a (by rw [List.flatten_cons]; exact List.mem_append_right _ (mem_flat_of m ma)) fun z => ?_⟩
    exact hn.2.2 a (by simpa using z) a (mem_flat_of m ma) rfl
  | d0 :: l, x0 :: xs, f :: fs, k + 1, n, hc, hn, ⟨h1, h2⟩, d, x, ho, e => by
    rw [List.flatten_cons, List.nodup_append] at hn
    refine ⟨h1.frame (Ex.rfl' _) _ fun a ma => hc a (by rw [List.flatten_cons]; exact List.mem_append_left _ ma) fun z => ?_, all3_frame (k := k) (fun a ma z => hc a (by rw [List.flatten_cons]; exact List.mem_append_right _ ma) (by simpa using z)) hn.2.1 h2 (by simpa using ho) (by simpa using e)⟩
    exact hn.2.2 a ma a (getD_mem_flat (i := k) (by simpa using z)) rfl
  | [], [], _ :: _, _, _, _, _, h, _, _, _, _ => h.elim
  | [], _ :: _, _, _, _, _, _, h, _, _, _, _ => h.elim
  | _ :: _, [], _, _, _, _, _, h, _, _, _, _ => h.elim
  | _ :: _, _ :: _, [], _, _, _, _, h, _, _, _, _ => h.elim
/-- an owned list of owned lists of shared things: one of these changed -/
theorem Stt.set2 (S : Stt K P O β F G env σ H) {l m : List D} {k : Nat} (hO : O.getD i 0 = 2) (he : env[i]? = some (some (.lst l))) (hk : l[k]? = some (.lst m)) :
    ∃ p xs q ys, σ[i]? = some (some (.ref p)) ∧ H p = some (.lst xs) ∧ xs.length = l.length ∧ xs[k]? = some (.ref q) ∧ H q = some (.lst ys) ∧ p ≠ q ∧ Rps K (hid H (msk F G)) m ys ∧
      ∀ m' ys', Rps K (hid H (msk F G)) m' ys' → Stt K P O β F G (env.set i (some (.lst (l.set k (.lst m'))))) σ (upd H q (.lst ys')) := by
  obtain ⟨v, hv, h⟩ := S.slot i _ he
  rw [hO] at h
  obtain ⟨p, xs, fps, rfl, hf, h⟩ := h
  rcases h with ⟨l2, e, h1, h2⟩ | ⟨_, _, e, _⟩
  · cases e
    obtain ⟨x, f, e1, e2, q, ys, fps2, rfl, hf2, h3⟩ := h2.get hk
    rcases h3 with ⟨l3, e3, h4, h5⟩ | ⟨_, _, e3, _⟩
    · cases e3
      obtain ⟨e0, r⟩ := flat_nil_of h5
      have ef2 : f = [q] := by rw [hf2, e0]
      have nd : (F.getD i []).Nodup := by
        have h6 : F.flatten.Nodup := (List.nodup_append.mp S.nd).1
        have h7 : (F.getD i []).Sublist F.flatten := by
          rw [List.getD_eq_getElem?_getD]
          cases z : F[i]? with
          | none => exact List.nil_sublist _
          | some g => exact List.sublist_flatten_of_mem (List.mem_of_getElem? z)
        exact h6.sublist h7
      rw [hf] at nd
      obtain ⟨np, nf⟩ := List.nodup_cons.mp nd
      have fk : fps.getD k [] = [q] := by rw [List.getD_eq_getElem?_getD, e2, ← ef2]; rfl
      have mq : q ∈ fps.flatten := getD_mem_flat (i := k) (by rw [fk]; exact List.mem_singleton.mpr rfl)
      have hpq : p ≠ q := fun z => np (by rw [z]; exact mq)
      refine ⟨p, xs, q, ys, hv, h1, h2.len.1, e1, h4, hpq, r, fun m' ys' r' => ?_⟩
      obtain ⟨fs, q1, q2⟩ := all3_of (H := upd H q (.lst ys')) r'
      refine S.put (S.lt he) (fun a z => upd_ne fun y => z ?_) (fun a ma => ?_) hv ?_
      · rw [hf, y]; exact List.mem_cons_of_mem _ mq
      · by_cases z : a = q
        · subst z; exact ⟨_, upd_same⟩
        · rw [upd_ne z]; exact S.pres a (List.mem_append_left _ (getD_mem_flat ma))
      · rw [hO, hf]
        refine ⟨p, xs, fps, rfl, rfl, .inl ⟨_, rfl, by rw [upd_ne hpq]; exact h1, ?_⟩⟩
        refine all3_frame (k := k) (fun a ma z => upd_ne fun y => z ?_) nf h2 (x := .ref q) ?_ e1
        · rw [fk, y]; exact List.mem_singleton.mpr rfl
        · rw [fk]
          exact ⟨q, ys', fs, rfl, by rw [q2], .inl ⟨m', rfl, upd_same, q1⟩⟩
    · cases e3
  · cases e
/-- a slot that holds something new: shared -/
theorem flat_set_mem {F : List (List Addr)} {f : List Addr} {a : Addr} (h : a ∈ (F.set i f).flatten) : a ∈ F.flatten ∨ a ∈ f := by
  obtain ⟨g, hg, ha⟩ := List.mem_flatten.mp h
  rcases List.mem_or_eq_of_mem_set hg with hg | rfl
  · exact .inl (mem_flat_of hg ha)
  · exact .inr ha
theorem flat_set_nil (F : List (List Addr)) (i : Nat) : (F.set i []).flatten.Sublist F.flatten := by
  induction F generalizing i with
  | nil => exact List.Sublist.refl _
  | cons f F ih =>
    cases i with
    | zero => exact List.sublist_append_right f F.flatten
    | succ i => exact List.Sublist.append (List.Sublist.refl f) (ih i)
theorem flat_set_perm {F : List (List Addr)} (hi : i < F.length) (f : List Addr) : (F.set i f).flatten.Perm (f ++ (F.set i []).flatten) := by
  induction F generalizing i with
  | nil => simp at hi
  | cons g F ih =>
    cases i with
    | zero => exact List.Perm.refl _
    | succ i =>
      show (g ++ (F.set i f).flatten).Perm (f ++ (g ++ (F.set i []).flatten))
      have h1 := (ih (by simpa using hi)).append_left g
      refine h1.trans ?_
      rw [← List.append_assoc, ← List.append_assoc]
      exact List.perm_append_comm.append_right _
/-- a slot holds from now on what is in flight (fp its footprint) -/
theorem Stt.store {fp : List Addr} (S : Stt K P O β F (fp ++ G) env σ H) (hR : ∀ a ∈ β.R, a ∈ G) (hi : i < env.length) (hP : i ∉ P) (ho : Own K (hid H (msk F (fp ++ G))) H n d v fp) : Stt K P (O.set i n) β (F.set i fp) G (env.set i (some d)) (σ.set i (some v)) H := by
  have hF : i < F.length := by rw [S.flen]; exact hi
  have hO : i < O.length := by rw [S.olen]; exact hi
  have hσ : i < σ.length := by rw [S.len]; exact hi
  have pm : (msk (F.set i fp) G).Perm (msk (F.set i []) (fp ++ G)) := by
    show ((F.set i fp).flatten ++ G).Perm ((F.set i []).flatten ++ (fp ++ G))
    rw [← List.append_assoc]
    exact ((flat_set_perm hF fp).trans List.perm_append_comm).append_right G
  have sb : (msk (F.set i []) (fp ++ G)).Sublist (msk F (fp ++ G)) := (flat_set_nil F i).append (List.Sublist.refl _)
  have mm : ∀ a ∈ msk (F.set i fp) G, a ∈ msk F (fp ++ G) := fun a m => sb.subset (pm.mem_iff.mp m)
  have e : Ex (hid H (msk F (fp ++ G))) (hid H (msk (F.set i fp) G)) := hid_sub mm
  refine ⟨by rw [List.length_set, List.length_set]; exact S.len, by rw [List.length_set, List.length_set]; exact S.olen, by rw [List.length_set, List.length_set]; exact S.flen,
    pm.nodup_iff.mpr (S.nd.sublist sb), fun a m => S.pres a (mm a m), S.base.trn e, fun j d' q => ?_, fun j hj => ?_, fun j hz => ?_, fun a m => ⟨hR a m, (S.rr a m).2⟩⟩
  · by_cases z : i = j
    · subst z
      rw [List.getElem?_set_self hi] at q
      cases q
      refine ⟨v, List.getElem?_set_self hσ, ?_⟩
      rw [getD_set_self hO, getD_set_self hF]
      exact ho.frame e _ fun _ _ => rfl
    · rw [List.getElem?_set_ne z] at q
      obtain ⟨w, h1, h2⟩ := S.slot j d' q
      refine ⟨w, by rw [List.getElem?_set_ne z]; exact h1, ?_⟩
      rw [getD_set_ne z, getD_set_ne z]
      exact h2.frame e _ fun _ _ => rfl
  · have z : i ≠ j := fun z => hP (z ▸ hj)
    rw [List.getElem?_set_ne z, getD_set_ne z]
    exact S.pin j hj
  · by_cases z : i = j
    · subst z
      rw [getD_set_self hO] at hz
      rw [getD_set_self hF]
      subst hz
      exact ho.1
    · rw [getD_set_ne z] at hz ⊢
      exact S.z j hz
theorem Stt.stor0 (S : Stt K P O β F G env σ H) (hi : i < env.length) (hP : i ∉ P) (r : Rp K (hid H (msk F G)) d v) : Stt K P (O.set i 0) β (F.set i []) G (env.set i (some d)) (σ.set i (some v)) H :=
  Stt.store (fp := []) S (fun a m => (S.rr a m).1) hi hP ⟨rfl, r⟩
/-- a slot's data shared from now on -/
theorem Stt.frz (S : Stt K P O β F G env σ H) (hi : i < env.length) (hP : i ∉ P) : Stt K P (O.set i 0) β (F.set i []) G env σ H := by
  have hF : i < F.length := by rw [S.flen]; exact hi
  have hO : i < O.length := by rw [S.olen]; exact hi
  have sb : (msk (F.set i []) G).Sublist (msk F G) := (flat_set_nil F i).append (List.Sublist.refl _)
  have e : Ex (hid H (msk F G)) (hid H (msk (F.set i []) G)) := hid_sub fun a m => sb.subset m
  refine ⟨S.len, by rw [List.length_set]; exact S.olen, by rw [List.length_set]; exact S.flen, S.nd.sublist sb, fun a m => S.pres a (sb.subset m), S.base.trn e, fun j d' q => ?_, fun j hj => ?_, fun j hz => ?_, S.rr⟩
  · by_cases z : i = j
    · subst z
      obtain ⟨w, h1, h2⟩ := S.slot i d' q
      refine ⟨w, h1, ?_⟩
      rw [getD_set_self hO, getD_set_self hF]
      refine ⟨rfl, h2.share e _ fun a m o ho => ?_⟩
      rw [hid_out fun y => ?_]
      · exact ho
      · rcases List.mem_append.mp y with y | y
        · obtain ⟨g, hg, ha⟩ := List.mem_flatten.mp y
          obtain ⟨k, hk⟩ := List.mem_iff_getElem?.mp hg
          by_cases zk : i = k
          · subst zk
            rw [List.getElem?_set_self hF] at hk
            cases hk; cases ha
          · rw [List.getElem?_set_ne zk] at hk
            exact zk (msk_disj S m (by rw [List.getD_eq_getElem?_getD, hk]; exact ha))
        · exact (List.nodup_append.mp S.nd).2.2 a (getD_mem_flat m) a y rfl
    · obtain ⟨w, h1, h2⟩ := S.slot j d' q
      refine ⟨w, h1, ?_⟩
      rw [getD_set_ne z, getD_set_ne z]
      exact h2.frame e _ fun _ _ => rfl
  · have z : i ≠ j := fun z => hP (z ▸ hj)
    rw [getD_set_ne z]
    exact S.pin j hj
  · by_cases z : i = j
    · subst z
      rw [getD_set_self hF]
    · rw [getD_set_ne z] at hz ⊢
      exact S.z j hz
/-- a slot forgotten, its footprint let go -/
theorem Stt.wipe1 (S : Stt K P O β F G env σ H) (hP : i ∉ P) : Stt K P O β F G (env.set i none) (σ.set i none) H := by
  refine ⟨by rw [List.length_set, List.length_set]; exact S.len, by rw [List.length_set]; exact S.olen, by rw [List.length_set]; exact S.flen, S.nd, S.pres, S.base, fun j d' q => ?_, fun j hj => ?_, S.z, S.rr⟩
  · by_cases z : i = j
    · subst z
      by_cases hi : i < env.length
      · rw [List.getElem?_set_self hi] at q; cases q
      · rw [List.getElem?_eq_none (by rw [List.length_set]; omega)] at q; cases q
    · rw [List.getElem?_set_ne z] at q
      obtain ⟨w, h1, h2⟩ := S.slot j d' q
      exact ⟨w, by rw [List.getElem?_set_ne z]; exact h1, h2⟩
  · have z : i ≠ j := fun z => hP (z ▸ hj)
    rw [List.getElem?_set_ne z]
    exact S.pin j hj
theorem set_getD {α : Type} {l : List α} {i : Nat} {a : α} (h : l.getD i a = a) : l.set i a = l := by
  induction l generalizing i with
  | nil => rfl
  | cons b l ih =>
    cases i with
    | zero => rw [show b = a from by simpa using h]; rfl
    | succ i => rw [List.set_cons_succ, ih (by simpa using h)]
/-- a slot that holds shared things gets another one -/
theorem Stt.stz (S : Stt K P O β F G env σ H) (hi : i < env.length) (hP : i ∉ P) (hz : O.getD i 0 = 0) (r : Rp K (hid H (msk F G)) d v) : Stt K P O β F G (env.set i (some d)) (σ.set i (some v)) H := by
  have h := S.stor0 hi hP r
  rw [set_getD hz, set_getD (S.z i hz)] at h
  exact h
/-- the base raised to what is shared now, and lowered again -/
def Bc.up (β : Bc) (B : Hp) : Bc := ⟨B, β.pv, β.pf, β.R, β.hR⟩
theorem Stt.rise (S : Stt K P O β F G env σ H) : Stt K P O (β.up (hid H (msk F G))) F G env σ H := ⟨S.len, S.olen, S.flen, S.nd, S.pres, Ex.rfl' _, S.slot, S.pin, S.z, S.rr⟩
theorem Stt.fall {B : Hp} (S : Stt K P O (β.up B) F G env σ H) (h : Ex β.B B) : Stt K P O β F G env σ H := ⟨S.len, S.olen, S.flen, S.nd, S.pres, h.trn S.base, S.slot, S.pin, S.z, S.rr⟩
end
end M3

/-! MS -/
set_option Elab.async false
set_option linter.all false
set_option maxRecDepth 100000
set_option maxHeartbeats 4000000
namespace M3
open PySem PySem.Spec PyProof.Rows L2

/-- what a def's body stands in: its pinned slots, their depths, the wish of exceptions, the depth of its answer -/
structure Fc where
  P : List Nat
  J : List Nat
  W : WX
  r : Nat
inductive SRs where
  | nx (e : Sl)
  | rt (d : D) (e : Sl)
  | bk (e : Sl)
  | ct (e : Sl)
  | exc (c : Addr) (x : D) (e : Sl)
  | bad
def Rs.toS {α : Type} (r : Rs α) (k : α → Sl → SRs) : SRs := match r with
  | .ok a e => k a e
  | .exc c x e => .exc c x e
  | .bad => .bad
abbrev MSt := Sl → SRs
structure RetOk (K : Fg) (c : Fc) (β : Bc) (G : List Addr) (e : Sl) (d : D) (v : V) (H : Hp) (fp : List Addr) (F : List (List Addr)) : Prop where
  nd : (msk F (fp ++ G)).Nodup
  base : Ex β.B (hid H (msk F (fp ++ G)))
  own : Own K (hid H (msk F (fp ++ G))) H c.r d v fp
  pf : ∀ i ∈ c.P, ∀ a ∈ β.pf i, a ∈ F.flatten
  io : ∀ i ∈ c.P, ∀ d', e[i]? = some (some d') → Own K (hid H (msk F (fp ++ G))) H (c.J.getD i 0) d' (β.pv i) (β.pf i)
  rr : ∀ a ∈ β.R, H a = β.hR a
def PstS (X : Cx) (c : Fc) (O' Ol : List Nat) (β : Bc) (G : List Addr) (D : Ends) : SRs → Prop
  | .nx e => ∀ σ H F, Stt X.K c.P O' β F G e σ H → D.nx σ H
  | .bk e => ∀ σ H F, Stt X.K c.P Ol β F G e σ H → D.bk σ H
  | .ct e => ∀ σ H F, Stt X.K c.P Ol β F G e σ H → D.ct σ H
  | .rt d e => ∀ v H fp F, RetOk X.K c β G e d v H fp F → D.rt v H
  | .exc a x e => ∀ dx v σ H O2 F, Stt X.K c.P O2 β F G e σ H → H dx = some (.xd [("value", v)]) → Rp X.K (hid H (msk F G)) x v → c.W (.ref a) (some dx) σ H
  | .bad => False
structure MS (X : Cx) (c : Fc) (Ol O O' : List Nat) (st : Stmt) (m : MSt) : Prop where
  run : ∃ t, PS X st t ∧ ∀ β F G env σ H D, Stt X.K c.P O β F G env σ H → PstS X c O' Ol β G D (m env) → t D σ H
structure MSs (X : Cx) (c : Fc) (Ol O O' : List Nat) (st : List Stmt) (m : MSt) : Prop where
  run : ∃ t, PSs X st t ∧ ∀ β F G env σ H D, Stt X.K c.P O β F G env σ H → PstS X c O' Ol β G D (m env) → t D σ H

def sNx : MSt := fun e => .nx e
def sSeq (a b : MSt) : MSt := fun e => match a e with | .nx e1 => b e1 | r => r
def sDrop (m : M) : MSt := fun e => (m e).toS fun _ e1 => .nx e1
def sRet (m : M) : MSt := fun e => (m e).toS fun d e1 => .rt d e1
def sSet (i : Nat) (m : M) : MSt := fun e => (m e).toS fun d e1 => .nx (e1.set i (some d))
def sIf (c : M) (a b : MSt) : MSt := fun e => (c e).toS fun d e1 => match d with | .bl true => a e1 | .bl false => b e1 | _ => .bad

section
variable {X : Cx} {c : Fc} {Ol O O' O1 O2 : List Nat} {st : Stmt} {sts : List Stmt} {m ma mb : M} {s s1 s2 : MSt} {n : Nat} {b b1 b2 : Bool} {e a t : Expr} {pos pos' : Pos} {β : Bc} {F : List (List Addr)} {G : List Addr} {env : Sl} {σ : L2.St} {H : Hp} {D : Ends}

theorem PstS.bind {α : Type} {r : Rs α} {k : α → Sl → SRs} {R : α → Hp → Prop} (h : PstS X c O' Ol β G D (r.toS k)) (step : ∀ a e1 H1, Stt X.K c.P O β F G e1 σ H1 → PstS X c O' Ol β G D (k a e1) → R a H1) : Pst X c.P O c.W β F G σ H b env R r := by
  cases r with
  | ok a e => exact fun H1 S1 _ _ => step a e H1 S1 h
  | exc a x e => exact fun dx v H1 S1 _ h1 h2 => h dx v σ H1 O F S1 h1 h2
  | bad => exact h
theorem PstS.bindO {r : Rs M3.D} {k : M3.D → Sl → SRs} {Q : VK} (h : PstS X c O' Ol β G D (r.toS k)) (step : ∀ d e1 v H1 fp, Stt X.K c.P O β F (fp ++ G) e1 σ H1 → Own X.K (hid H1 (msk F (fp ++ G))) H1 n d v fp → PstS X c O' Ol β G D (k d e1) → Q v H1) : PstO X c.P O c.W β F G σ H n b env Q r := by
  cases r with
  | ok d e => exact fun v H1 fp S1 _ _ o => step d e v H1 fp S1 o h
  | exc a x e => exact fun dx v H1 S1 _ h1 h2 => h dx v σ H1 O F S1 h1 h2
  | bad => exact h

theorem mss_nil : MSs X c Ol O O [] sNx := ⟨_, pss_nil, fun β F G env σ H D S p => p σ H F S⟩
theorem mss_cons (h1 : MS X c Ol O O1 st s1) (h2 : MSs X c Ol O1 O' sts s2) : MSs X c Ol O O' (st :: sts) (sSeq s1 s2) := by
  obtain ⟨t, p, h⟩ := h1.run
  obtain ⟨u, q, g⟩ := h2.run
  refine ⟨_, pss_cons p q, fun β F G env σ H D S z => ?_⟩
  refine h β F G env σ H _ S ?_
  unfold sSeq at z
  cases e : s1 env with
  | nx e1 => rw [e] at z; exact fun σ' H' F' S' => g β F' G e1 σ' H' D S' z
  | rt d e1 => rw [e] at z; exact z
  | bk e1 => rw [e] at z; exact z
  | ct e1 => rw [e] at z; exact z
  | exc a x e1 => rw [e] at z; exact z
  | bad => rw [e] at z; exact z
theorem mss_one (h1 : MS X c Ol O O' st s1) : MSs X c Ol O O' [st] s1 := by
  obtain ⟨t, p, h⟩ := h1.run
  exact ⟨_, pss_one p, h⟩
/-- a slot shared from now on: ahead of a block, a statement; behind a block -/
theorem MSs.frz (i : Nat) (h : MSs X c Ol (O.set i 0) O' sts s) (hi : (decide (i < O.length) && !c.P.contains i) = true := by rfl) : MSs X c Ol O O' sts s := by
  obtain ⟨t, p, h⟩ := h.run
  rw [Bool.and_eq_true] at hi
  refine ⟨t, p, fun β F G env σ H D S z => h β _ G env σ H D (S.frz (i := i) ?_ ?_) z⟩
  · rw [← S.olen]; exact of_decide_eq_true hi.1
  · simpa using hi.2
theorem MS.frz (i : Nat) (h : MS X c Ol (O.set i 0) O' st s) (hi : (decide (i < O.length) && !c.P.contains i) = true := by rfl) : MS X c Ol O O' st s := by
  obtain ⟨t, p, h⟩ := h.run
  rw [Bool.and_eq_true] at hi
  refine ⟨t, p, fun β F G env σ H D S z => h β _ G env σ H D (S.frz (i := i) ?_ ?_) z⟩
  · rw [← S.olen]; exact of_decide_eq_true hi.1
  · simpa using hi.2
theorem MSs.zap (i : Nat) (h : MSs X c Ol O O1 sts s) (hO : O' = O1.set i 0 := by rfl) (hi : (decide (i < O1.length) && !c.P.contains i) = true := by rfl) : MSs X c Ol O O' sts s := by
  obtain ⟨t, p, h⟩ := h.run
  rw [Bool.and_eq_true] at hi
  subst hO
  refine ⟨t, p, fun β F G env σ H D S z => h β F G env σ H D S ?_⟩
  cases e : s env with
  | nx e1 =>
    rw [e] at z
    refine fun σ' H' F' S' => z σ' H' _ (S'.frz (i := i) ?_ ?_)
    · rw [← S'.olen]; exact of_decide_eq_true hi.1
    · simpa using hi.2
  | rt d e1 => rw [e] at z; exact z
  | bk e1 => rw [e] at z; exact z
  | ct e1 => rw [e] at z; exact z
  | exc a x e1 => rw [e] at z; exact z
  | bad => rw [e] at z; exact z
theorem ms_pass : MS X c Ol O O (.Pass pos) sNx := ⟨_, ps_pass, fun β F G env σ H D S p => p σ H F S⟩
theorem ms_break : MS X c O O O' (.Break pos) (fun e => .bk e) := ⟨_, ps_break, fun β F G env σ H D S p => p σ H F S⟩
theorem ms_continue : MS X c O O O' (.Continue pos) (fun e => .ct e) := ⟨_, ps_continue, fun β F G env σ H D S p => p σ H F S⟩
theorem ms_expr (ha : ME X c.P O c.W n b e m) (hs : swapsWith e none pos.line X.env = pure false := by rfl) : MS X c Ol O O (.Expr e pos) (sDrop m) := by
  obtain ⟨t, p, h⟩ := ha.run
  exact ⟨_, ps_expr p hs, fun β F G env σ H D S z => h β F G env σ H _ S (z.bind fun d e1 H1 S1 q v _ => q σ H1 F S1)⟩
theorem ms_never : MS X c Ol O O' st (fun _ => .bad) := ⟨_, ps_never, fun β F G env σ H D S p => p.elim⟩

/-! ### return -/
theorem pin_pf {K : Fg} {P O : List Nat} (S : Stt K P O β F G env σ H) {i : Nat} (hi : i ∈ P) {a : Addr} (h : a ∈ β.pf i) : a ∈ F.flatten := by
  rw [← (S.pin i hi).2] at h
  exact getD_mem_flat h
def okJ (P O J : List Nat) : Bool := P.all fun i => O.getD i 0 == J.getD i 0
theorem okJ_of {P O J : List Nat} (h : okJ P O J = true) {i : Nat} (hi : i ∈ P) : O.getD i 0 = J.getD i 0 := by
  simpa using (List.all_eq_true.mp h) i hi
theorem Stt.io {K : Fg} {P O J : List Nat} (S : Stt K P O β F G env σ H) (hJ : okJ P O J = true) {i : Nat} (hi : i ∈ P) {d : M3.D} (h : env[i]? = some (some d)) : Own K (hid H (msk F G)) H (J.getD i 0) d (β.pv i) (β.pf i) := by
  obtain ⟨v, h1, h2⟩ := S.slot i d h
  obtain ⟨h3, h4⟩ := S.pin i hi
  rw [h3] at h1
  cases h1
  rw [okJ_of hJ hi, h4] at h2
  exact h2
theorem ms_ret (hr : c.r = 0) (ha : ME X c.P O c.W 0 b e m) (hJ : okJ c.P O c.J = true := by rfl) : MS X c Ol O O' (.Return (some e) pos) (sRet m) := by
  obtain ⟨t, p, h⟩ := ha.run
  refine ⟨_, ps_ret p, fun β F G env σ H D S z => h β F G env σ H _ S (z.bind fun d e1 H1 S1 q v r => ?_)⟩
  refine q v H1 [] F ⟨S1.nd, S1.base, ?_, fun i hi a ha => pin_pf S1 hi ha, fun i hi d' hd => S1.io hJ hi hd, fun a m => (S1.rr a m).2⟩
  rw [hr]
  exact ⟨rfl, r⟩
theorem ms_retN (hr : c.r = 0) (hJ : okJ c.P O c.J = true := by rfl) : MS X c Ol O O' (.Return none pos) (fun e => .rt .non e) := by
  refine ⟨_, ps_retN, fun β F G env σ H D S q => ?_⟩
  refine q .non H [] F ⟨S.nd, S.base, ?_, fun i hi a ha => pin_pf S hi ha, fun i hi d' hd => S.io hJ hi hd, fun a m => (S.rr a m).2⟩
  rw [hr]
  exact ⟨rfl, rfl⟩
theorem ms_retO (hr : c.r = n) (ha : MO X c.P O c.W n b e m) (hJ : okJ c.P O c.J = true := by rfl) : MS X c Ol O O' (.Return (some e) pos) (sRet m) := by
  obtain ⟨t, p, h⟩ := ha.run
  refine ⟨_, ps_ret p, fun β F G env σ H D S z => h β F G env σ H _ S (z.bindO fun d e1 v H1 fp S1 o q => ?_)⟩
  refine q v H1 fp F ⟨S1.nd, S1.base, ?_, fun i hi a ha => pin_pf S1 hi ha, fun i hi d' hd => S1.io hJ hi hd, fun a m => (S1.rr a m).2⟩
  rw [hr]
  exact o
/-- return x, x an owned local -/
theorem ms_retV (i : Nat) {x : Str} (hr : c.r = O.getD i 0) (hi : (!c.P.contains i) = true := by rfl) (hJ : okJ c.P O c.J = true := by rfl) (hN : X.N[i]? = some x := by rfl) (hv : Vis X.env.scope x := by first | exact Or.inl rfl | exact Or.inr (Or.inl rfl) | exact Or.inr (Or.inr rfl)) (hd : (x == ("__debug__" : Str)) = false := by decide)
    (hcd : (x == ("__classdict__" : Str)) = false := by decide) : MS X c Ol O O' (.Return (some (.Name x pos')) pos) (sRet (mVar i)) := by
  refine ⟨_, ps_ret (pe_var hN hv hd hcd), fun β F G env σ H D S z => ?_⟩
  unfold sRet mVar at z
  cases q : env[i]? with
  | none => rw [q] at z; exact z.elim
  | some o =>
    cases o with
    | none => rw [q] at z; exact z.elim
    | some d =>
      rw [q] at z
      obtain ⟨v, h1, h2⟩ := S.slot i d q
      have hF : i < F.length := by rw [S.flen]; exact S.lt q
      have hP : i ∉ c.P := by simpa using hi
      have pm : (msk F G).Perm (msk (F.set i []) (F.getD i [] ++ G)) := by
        show (F.flatten ++ G).Perm ((F.set i []).flatten ++ (F.getD i [] ++ G))
        rw [← List.append_assoc]
        have h := flat_set_perm hF (F.getD i [])
        have e : F.set i (F.getD i []) = F := by
          refine List.ext_getElem? fun j => ?_
          by_cases z : i = j
          · subst z
            rw [List.getElem?_set_self hF, List.getD_eq_getElem?_getD, List.getElem?_eq_getElem hF]; rfl
          · rw [List.getElem?_set_ne z]
        rw [e] at h
        exact (h.trans List.perm_append_comm).append_right G
      have e : hid H (msk F G) = hid H (msk (F.set i []) (F.getD i [] ++ G)) := hid_same fun a => pm.mem_iff
      refine ⟨v, h1, z v H (F.getD i []) (F.set i []) ⟨pm.nodup_iff.mp S.nd, by rw [← e]; exact S.base, by rw [hr, ← e]; exact h2, fun j hj a ha => ?_, fun j hj d' hd => by rw [← e]; exact S.io hJ hj hd, fun a m => (S.rr a m).2⟩⟩
      have hij : i ≠ j := fun z => hP (z ▸ hj)
      rw [← (S.pin j hj).2] at ha
      refine getD_mem_flat (i := j) ?_
      rw [getD_set_ne hij]
      exact ha

/-! ### stores -/
theorem ltO {K : Fg} {P O : List Nat} (S : Stt K P O β F G env σ H) {i : Nat} (h : i < O.length) : i < env.length := by rw [← S.olen]; exact h
theorem ms_set (i : Nat) {x : Str} (hN : X.N.Nodup) (ha : ME X c.P O c.W 0 b e m) (hO : O' = O.set i 0 := by rfl) (hi : (decide (i < O.length) && !c.P.contains i) = true := by rfl) (hx : X.N[i]? = some x := by rfl) (hl : Loc X.env.scope x := by first | exact Or.inl rfl | exact Or.inr rfl)
    (hs : swapsWith e (some (.Name x pos')) pos.line X.env = pure false := by rfl) (hf : X.fn x = true ∨ X.env.scope.names.lookup x = some .local := by first | exact .inl rfl | exact .inr rfl) : MS X c Ol O O' (.Assign [.Name x pos'] e pos) (sSet i m) := by
  obtain ⟨t, p, h⟩ := ha.run
  rw [Bool.and_eq_true] at hi
  subst hO
  refine ⟨_, ps_set hN hx hl p hs hf, fun β F G env σ H D S z => h β F G env σ H _ S (z.bind fun d e1 H1 S1 q v r => ?_)⟩
  exact q _ H1 _ (S1.stor0 (ltO S1 (of_decide_eq_true hi.1)) (by simpa using hi.2) r)
theorem ms_setO (i : Nat) {x : Str} (hN : X.N.Nodup) (ha : MO X c.P O c.W n b e m) (hO : O' = O.set i n := by rfl) (hi : (decide (i < O.length) && !c.P.contains i) = true := by rfl) (hx : X.N[i]? = some x := by rfl) (hl : Loc X.env.scope x := by first | exact Or.inl rfl | exact Or.inr rfl)
    (hs : swapsWith e (some (.Name x pos')) pos.line X.env = pure false := by rfl) (hf : X.fn x = true ∨ X.env.scope.names.lookup x = some .local := by first | exact .inl rfl | exact .inr rfl) : MS X c Ol O O' (.Assign [.Name x pos'] e pos) (sSet i m) := by
  obtain ⟨t, p, h⟩ := ha.run
  rw [Bool.and_eq_true] at hi
  subst hO
  refine ⟨_, ps_set hN hx hl p hs hf, fun β F G env σ H D S z => h β F G env σ H _ S (z.bindO fun d e1 v H1 fp S1 o q => ?_)⟩
  exact q _ H1 _ (Stt.store (fp := fp) S1 (fun a m => (S.rr a m).1) (ltO S1 (of_decide_eq_true hi.1)) (by simpa using hi.2) o)
/-- x[k] = e, x an owned list of shared things -/
def setAt (l : List M3.D) (k : Int) (d : M3.D) : Option (List M3.D) := (ixN l.length k).map fun j => l.set j d
def setD (k d : M3.D) : Option (Option M3.D) → Option M3.D
  | some (some (.lst l)) => (match k with | .int i => (setAt l i d).map .lst | _ => none)
  | _ => none
def stO (i : Nat) (o : Option M3.D) (e : Sl) : SRs := match o with | some d => .nx (e.set i (some d)) | none => .bad
def sSub (i : Nat) (mk mv : M) : MSt := fun e => (mv e).toS fun d e1 => (mVar i e1).toS fun _ e1 => (mk e1).toS fun k e2 => stO i (setD k d e2[i]?) e2
theorem mVar_ok {i : Nat} {d : M3.D} {e1 : Sl} (h : mVar i env = .ok d e1) : env[i]? = some (some d) ∧ e1 = env := by
  unfold mVar at h
  cases q : env[i]? with
  | none => rw [q] at h; cases h
  | some o =>
    cases o with
    | none => rw [q] at h; cases h
    | some d' => rw [q] at h; cases h; exact ⟨rfl, rfl⟩
theorem toS_var {i : Nat} {k : M3.D → Sl → SRs} (h : PstS X c O' Ol β G D ((mVar i env).toS k)) : ∃ d, env[i]? = some (some d) ∧ PstS X c O' Ol β G D (k d env) := by
  cases q : mVar i env with
  | ok d e1 =>
    rw [q] at h
    obtain ⟨h1, rfl⟩ := mVar_ok q
    exact ⟨d, h1, h⟩
  | exc a x e =>
    unfold mVar at q
    split at q <;> cases q
  | bad => rw [q] at h; exact h.elim
theorem stO_ok {i : Nat} {o : Option M3.D} {e : Sl} (h : PstS X c O' Ol β G D (stO i o e)) : ∃ d, o = some d ∧ PstS X c O' Ol β G D (.nx (e.set i (some d))) := by
  cases o with
  | none => exact h.elim
  | some d => exact ⟨d, rfl, h⟩
theorem setD_ok {k d r : M3.D} {o : Option (Option M3.D)} (h : setD k d o = some r) : ∃ l kk j, o = some (some (.lst l)) ∧ k = .int kk ∧ ixN l.length kk = some j ∧ r = .lst (l.set j d) := by
  unfold setD at h
  split at h
  · split at h
    · unfold setAt at h
      rename_i l _ kk
      cases q : ixN l.length kk with
      | none => rw [q] at h; cases h
      | some j => rw [q] at h; cases h; exact ⟨l, kk, j, rfl, rfl, q, rfl⟩
    · cases h
  · cases h
theorem ms_sub (i : Nat) {x : Str} {k : Expr} {mk mv : M} {kpos np : Pos} (hv : ME X c.P O c.W 0 b1 e mv) (hk : ME X c.P O c.W n b2 k mk) (hO : O.getD i 0 = 1 := by rfl) (hx : X.N[i]? = some x := by rfl) (hvis : Vis X.env.scope x := by first | exact Or.inl rfl | exact Or.inr (Or.inl rfl) | exact Or.inr (Or.inr rfl))
    (hd : (x == ("__debug__" : Str)) = false := by decide) (hcd : (x == ("__classdict__" : Str)) = false := by decide)
    (hs : swapsWithSole [.Subscript (.Name x np) k kpos] e pos.line X.env = pure false := by rfl) (hw : swappedStores [.Subscript (.Name x np) k kpos] e X.env = pure none := by rfl)
    (h1 : (assignEach [.Subscript (.Name x np) k kpos] X.env).map (·.2) = [assign (.Subscript (.Name x np) k kpos) X.env] := by rfl) (hns : ∀ t u, PE X (.Name x np) t → PE X k u → PG X (.Subscript (.Name x np) k kpos) (gSub t u rSetL) := by exact fun t u h g => pg_sub h g set_list) : MS X c Ol O O (.Assign [.Subscript (.Name x np) k kpos] e pos) (sSub i mk mv) := by
  obtain ⟨tv, pv, hv⟩ := hv.run
  obtain ⟨tk, pk, hk⟩ := hk.run
  refine ⟨_, ps_asg pv (hns _ _ (pe_var hx hvis hd hcd) pk) hs hw h1, fun β F G env σ H D S z => hv β F G env σ H _ S (z.bind fun d e1 H1 S1 q v r => ?_)⟩
  obtain ⟨d0, he, q⟩ := toS_var q
  obtain ⟨w, hw, _⟩ := S1.slot i _ he
  refine ⟨w, hw, hk β F G e1 σ H1 _ S1 ?_⟩
  have keep : Rp X.K (hid H1 (msk F G)) d v := r
  cases ek : mk e1 with
  | bad => rw [ek] at q; exact q
  | exc a x e => rw [ek] at q; exact fun dx v H1 S1 _ h1 h2 => q dx v σ H1 O F S1 h1 h2
  | ok k2 e2 =>
    rw [ek] at q
    intro H2 S2 x2 p2 y ry
    obtain ⟨r', hr', q⟩ := stO_ok q
    obtain ⟨l, kk, j, el, rfl, ej, rfl⟩ := setD_ok hr'
    obtain ⟨p, xs, hp, hH, _, rl, upd'⟩ := S2.set1 hO el
    rw [hw] at hp
    cases hp
    exact ⟨p, xs, kk, j, rfl, ry.rp hid_le, hH, by rw [rl.len]; exact ej, q σ _ F (upd' _ _ (rl.set j (Rp.ex x2.ex d keep)))⟩
/-- x[a][b] = e, x an owned list of owned lists -/
def rowAt (a : M3.D) : Option (Option M3.D) → Option (List M3.D × Nat × List M3.D)
  | some (some (.lst l)) => (match a with
    | .int i => (ixN l.length i).bind fun j => match l[j]? with | some (.lst m) => some (l, j, m) | _ => none
    | _ => none)
  | _ => none
def sSub2 (i : Nat) (ma mk mv : M) : MSt := fun e => (mv e).toS fun d e1 => (mVar i e1).toS fun _ e1 => (ma e1).toS fun a e2 => (liftO (rowAt a e2[i]?) e2).toS fun w e2 => (mk e2).toS fun k e3 =>
  stO i ((setD k d (some (some (.lst w.2.2)))).map fun m => .lst (w.1.set w.2.1 m)) e3
theorem rowAt_ok {a : M3.D} {o : Option (Option M3.D)} {l m : List M3.D} {j : Nat} (h : rowAt a o = some (l, j, m)) : ∃ aa, o = some (some (.lst l)) ∧ a = .int aa ∧ ixN l.length aa = some j ∧ l[j]? = some (.lst m) := by
  unfold rowAt at h
  split at h
  · split at h
    · rename_i l' _ aa
      cases q : ixN l'.length aa with
      | none => rw [q] at h; cases h
      | some j' =>
        rw [q] at h
        have h : (match l'[j']? with | some (.lst m) => some (l', j', m) | _ => none) = some (l, j, m) := h
        split at h
        · cases h
          exact ⟨aa, rfl, rfl, q, by assumption⟩
        · cases h
    · cases h
  · cases h
theorem toS_lift {α : Type} {o : Option α} {k : α → Sl → SRs} (h : PstS X c O' Ol β G D ((liftO o env).toS k)) : ∃ a, o = some a ∧ PstS X c O' Ol β G D (k a env) := by
  cases o with
  | none => exact h.elim
  | some a => exact ⟨a, rfl, h⟩
theorem ms_sub2 (i : Nat) {x : Str} {g k : Expr} {ma mk mv : M} {kpos gpos np : Pos} {n2 : Nat} {b3 : Bool} (hv : ME X c.P O c.W 0 b1 e mv) (ha : ME X c.P O c.W n b2 g ma) (hk : ME X c.P O c.W n2 b3 k mk) (hb3 : b3 = true := by rfl) (hO : O.getD i 0 = 2 := by rfl) (hx : X.N[i]? = some x := by rfl) (hvis : Vis X.env.scope x := by first | exact Or.inl rfl | exact Or.inr (Or.inl rfl) | exact Or.inr (Or.inr rfl))
    (hd : (x == ("__debug__" : Str)) = false := by decide) (hcd : (x == ("__classdict__" : Str)) = false := by decide)
    (hs : swapsWithSole [.Subscript (.Subscript (.Name x np) g gpos) k kpos] e pos.line X.env = pure false := by rfl) (hw : swappedStores [.Subscript (.Subscript (.Name x np) g gpos) k kpos] e X.env = pure none := by rfl)
    (h1 : (assignEach [.Subscript (.Subscript (.Name x np) g gpos) k kpos] X.env).map (·.2) = [assign (.Subscript (.Subscript (.Name x np) g gpos) k kpos) X.env] := by rfl)
    (hns : ∀ t u w, PE X (.Name x np) t → PE X g u → PE X k w → PG X (.Subscript (.Subscript (.Name x np) g gpos) k kpos) (gSub (tOp (rIxL X.K) t u) w rSetL) := by exact fun t u w h g k => pg_sub (pe_ix ix_list h g (fun _ _ => rfl)) k set_list) :
    MS X c Ol O O (.Assign [.Subscript (.Subscript (.Name x np) g gpos) k kpos] e pos) (sSub2 i ma mk mv) := by
  obtain ⟨tv, pv, hv⟩ := hv.run
  obtain ⟨ta, pa, ha⟩ := ha.run
  obtain ⟨tk, pk, hk⟩ := hk.run
  refine ⟨_, ps_asg pv (hns _ _ _ (pe_var hx hvis hd hcd) pa pk) hs hw h1, fun β F G env σ H D S z => hv β F G env σ H _ S (z.bind fun d e1 H1 S1 q v r => ?_)⟩
  obtain ⟨d0, he, q⟩ := toS_var q
  obtain ⟨w, hw, _⟩ := S1.slot i _ he
  refine ⟨w, hw, ha β F G e1 σ H1 _ S1 ?_⟩
  have keep : Rp X.K (hid H1 (msk F G)) d v := r
  cases ea : ma e1 with
  | bad => rw [ea] at q; exact q
  | exc a x e => rw [ea] at q; exact fun dx v H1 S1 _ h1 h2 => q dx v σ H1 O F S1 h1 h2
  | ok a2 e2 =>
    rw [ea] at q
    intro H2 S2 x2 p2 ya rya
    obtain ⟨⟨l, j, m⟩, hr, q3⟩ := toS_lift q
    clear q
    obtain ⟨aa, el, rfl, ej, em⟩ := rowAt_ok hr
    obtain ⟨p, xs, r2, ys, hp, hH, hl, hx2, hH2, npq, rl, _⟩ := S2.set2 hO el em
    rw [hw] at hp
    cases hp
    have hix : atI xs aa = some (.ref r2) := by
      unfold atI
      rw [hl, ej]; exact hx2
    refine ⟨p, xs, aa, .ref r2, rfl, rya.rp hid_le, SqL.of hH, hix, hk β F G e2 σ H2 _ S2 ?_⟩
    cases ek : mk e2 with
    | bad => rw [ek] at q3; exact q3
    | exc a x e => rw [ek] at q3; exact fun dx v H1 S1 _ h1 h2 => q3 dx v σ H1 O F S1 h1 h2
    | ok k2 e3 =>
      rw [ek] at q3
      intro H3 S3 x3 p3 yk ryk
      obtain ⟨e32, x3'⟩ := p3 hb3
      subst e32
      obtain ⟨r', hr', q4⟩ := stO_ok q3
      clear q3
      cases es : setD k2 d (some (some (.lst m))) with
      | none => rw [es] at hr'; cases hr'
      | some m' =>
        rw [es] at hr'
        cases hr'
        obtain ⟨m0, kk, jj, e0, rfl, ej2, rfl⟩ := setD_ok es
        cases e0
        obtain ⟨p', xs', q', ys', hp', hH', hl', hx', hH2', _, rl', upd'⟩ := S3.set2 hO el em
        rw [hw] at hp'
        cases hp'
        have e1 : xs' = xs := by
          have h := x3' _ _ hH
          rw [hH'] at h
          cases h; rfl
        subst e1
        rw [hx2] at hx'
        cases hx'
        exact ⟨r2, ys', kk, jj, rfl, ryk.rp hid_le, hH2', by rw [rl'.len]; exact ej2, q4 σ _ F (upd' _ _ (rl'.set jj (Rp.ex (x2.trn x3).ex d keep)))⟩

/-! ### x.append(e) -/
def appD (d : M3.D) : Option (Option M3.D) → Option M3.D
  | some (some (.lst l)) => if l.length < lim then some (.lst (l ++ [d])) else none
  | _ => none
def isL : M3.D → Option Unit
  | .lst _ => some ()
  | _ => none
def sApp (i : Nat) (m : M) : MSt := fun e => (mVar i e).toS fun d0 e => (liftO (isL d0) e).toS fun _ e => (m e).toS fun d e1 => stO i (appD d e1[i]?) e1
theorem appD_ok {d r : M3.D} {o : Option (Option M3.D)} (h : appD d o = some r) : ∃ l, o = some (some (.lst l)) ∧ l.length < lim ∧ r = .lst (l ++ [d]) := by
  unfold appD at h
  split at h
  · split at h
    · cases h; exact ⟨_, rfl, by assumption, rfl⟩
    · cases h
  · cases h
theorem ms_app (i : Nat) {x : Str} {np apos cpos : Pos} (ha : ME X c.P O c.W 0 b e m) (hO : O.getD i 0 = 1 := by rfl) (hx : X.N[i]? = some x := by rfl) (hvis : Vis X.env.scope x := by first | exact Or.inl rfl | exact Or.inr (Or.inl rfl) | exact Or.inr (Or.inr rfl))
    (hd : (x == ("__debug__" : Str)) = false := by decide) (hcd : (x == ("__classdict__" : Str)) = false := by decide)
    (hp : ∀ t u, PE X (.Name x np) t → PE X e u → PS X (.Expr (.Call (.Attribute (.Name x np) "append" apos) [e] [] cpos) pos) (tDrop (tBM X.K "list" rAppend t (tCons u tNil))) := by exact fun t u h g => ps_expr (pe_bm PySem.F.plainAttrs_list PySem.F.slot_list_append PySem.F.type_list_append mt_append h (pa_cons g pa_nil))) :
    MS X c Ol O O (.Expr (.Call (.Attribute (.Name x np) "append" apos) [e] [] cpos) pos) (sApp i m) := by
  obtain ⟨ta, pa, ha⟩ := ha.run
  refine ⟨_, hp _ _ (pe_var hx hvis hd hcd) pa, fun β F G env σ H D S z => ?_⟩
  obtain ⟨d0, he, q0⟩ := toS_var z
  obtain ⟨_, hl0, q⟩ := toS_lift q0
  obtain ⟨w, hw, hown⟩ := S.slot i _ he
  refine ⟨w, hw, ?_, ha β F G env σ H _ S ?_⟩
  · rw [hO] at hown
    obtain ⟨p, xs, fps, rfl, _, ⟨l, rfl, h1, _⟩ | ⟨ks, l, rfl, h1, _⟩⟩ := hown
    · exact .inl ⟨rfl, xs, SqL.of h1⟩
    · cases hl0
  · cases ea : m env with
    | bad => rw [ea] at q; exact q
    | exc a x e => rw [ea] at q; exact fun dx v H1 S1 _ h1 h2 => q dx v σ H1 O F S1 h1 h2
    | ok d e1 =>
      rw [ea] at q
      intro H1 S1 x1 p1 v r
      obtain ⟨r', hr', q⟩ := stO_ok q
      obtain ⟨l, el, hl, rfl⟩ := appD_ok hr'
      obtain ⟨p, xs, hp, hH, _, rl, upd'⟩ := S1.set1 hO el
      rw [hw] at hp
      cases hp
      exact ⟨p, xs, v, rfl, rfl, hH, by rw [rl.len]; exact lim_lt hl, q σ _ F (upd' _ _ (rl.app (.one r)))⟩
end
end M3

/-! ML -/
set_option Elab.async false
set_option linter.all false
set_option maxRecDepth 100000
set_option maxHeartbeats 4000000
namespace M3
open PySem PySem.Spec PyProof.Rows L2

section
variable {X : Cx} {c : Fc} {P O Ol O' O1 O2 : List Nat} {W : WX} {m ma mb : M} {s s1 s2 : MSt} {n n1 n2 : Nat} {b b1 b2 : Bool} {e a t tg : Expr} {pos pos' p : Pos} {β : Bc} {F : List (List Addr)} {G : List Addr} {env : Sl} {σ : L2.St} {H : Hp} {Dn : Ends} {es : List Expr} {ms : Mi (List D)}

theorem ms_if {th el : List Stmt} {mc : M} (hc : MT X c.P O c.W b t mc) (h1 : MSs X c Ol O O' th s1) (h2 : MSs X c Ol O O' el s2) : MS X c Ol O O' (.If t th el pos) (sIf mc s1 s2) := by
  obtain ⟨tc, pc, hc⟩ := hc.run
  obtain ⟨t1, p1, h1⟩ := h1.run
  obtain ⟨t2, p2, h2⟩ := h2.run
  refine ⟨_, ps_if pc p1 p2, fun β F G env σ H Dn S z => hc β F G env σ H _ S (z.bind fun d e1 H1 S1 q => ?_)⟩
  cases d with
  | bl k =>
    refine ⟨k, rfl, ?_⟩
    cases k with
    | true => exact h1 β F G e1 σ H1 Dn S1 q
    | false => exact h2 β F G e1 σ H1 Dn S1 q
  | _ => exact q.elim

/-! ### the base raised -/
theorem RetOk.fall {K : Fg} {B : Hp} {d : D} {v : V} {fp : List Addr} {ev : Sl} (h : RetOk K c (β.up B) G ev d v H fp F) (hb : Ex β.B B) : RetOk K c β G ev d v H fp F := ⟨h.nd, hb.trn h.base, h.own, h.pf, h.io, h.rr⟩
theorem PstS.rise {B : Hp} {r : SRs} (h : PstS X c O' Ol β G Dn r) (hb : Ex β.B B) : PstS X c O' Ol (β.up B) G Dn r := by
  cases r with
  | nx e => exact fun σ H F S => h σ H F (S.fall hb)
  | bk e => exact fun σ H F S => h σ H F (S.fall hb)
  | ct e => exact fun σ H F S => h σ H F (S.fall hb)
  | rt d e => exact fun v H fp F R => h v H fp F (R.fall hb)
  | exc a x e => exact fun dx v σ H O2 F S => h dx v σ H O2 F (S.fall hb)
  | bad => exact h

/-! ### what is walked -/
structure ItOk (K : Fg) (B : Hp) (ds : List D) (J : It) : Prop where
  go : ∀ k H, k < ds.length → Ex B H → J.go k H
  stop : ∀ H, Ex B H → J.stop ds.length H
  yld : ∀ k H x H', Ex B H → J.yld k H x H' → ∀ d, ds[k]? = some d → ∀ Hs, Ex B Hs → Ex Hs H → Out K Hs H H' d x
structure MI (X : Cx) (P O : List Nat) (W : WX) (b : Bool) (tg it : Expr) (src : Mi (List D)) : Prop where
  run : ∃ w, PI X tg it w ∧ ∀ β F G env σ H R, Stt X.K P O β F G env σ H →
    Pst X P O W β F G σ H b env (fun ds H' => ∀ J, ItOk X.K (hid H' (msk F G)) ds J → R J H') (src env) → w σ H R
/-- a list or a tuple -/
def iSeq (K : PySem.W.Frag) (tl : TE) : TI := fun σ H R => tl σ H fun x H1 => ∃ a, x = .ref a ∧ (((∃ xs, SqL K H1 a xs) ∧ R (Itl K a) H1) ∨ ((∃ xs, SqT K H1 a xs) ∧ R (Itt K a) H1))
theorem pi_seq {l : Expr} {tl : TE} (hl : PE X l tl) : PI X tg l (iSeq X.K tl) := by
  constructor
  intro pins s0 σ H R I0 h
  refine thn (hl.run pins s0 σ H _ I0 h) fun u sh hh => ?_
  obtain ⟨y, H1, I1, ry, a, rfl, hh⟩ := hh
  cases ry
  have nf : ∀ z ∈ [sh.heap.objs.size], FpOk X pins H1 z := fun z hz => by
    have ez : z = sh.heap.objs.size := by simpa using hz
    subst ez
    exact I1.fpOk (Nat.le_refl _) (I1.hok.fresh (Nat.le_refl _))
  have kp : ∀ (o : Obj) z u, sh.heap.get? z = some u → (sh.heap.push o).get? z = some u := fun o z u ez => Heap.get?_push_of_some _ ez
  rcases hh with ⟨⟨xs, hx⟩, q⟩ | ⟨⟨xs, hx⟩, q⟩
  · obtain ⟨_, _, pl, _⟩ := I1.list hx
    exact wpAny_pyIter_list pl.isList ⟨_, [sh.heap.objs.size], _, _, H1, rfl, I1.kept (t' := sh.toks) (kp _), turn_list a _, ⟨_, Heap.get?_push_size _ rfl, rfl, rfl⟩, nf, q⟩
  · obtain ⟨is, _, pl, _⟩ := I1.tuple hx
    exact wpAny_pyIter_tuple (show sh.heap.IsTuple a is.toArray from pl) ⟨_, [sh.heap.objs.size], _, _, H1, rfl, I1.kept (t' := sh.toks) (kp _), turn_tuple a _, ⟨_, Heap.get?_push_size _ rfl, rfl, rfl⟩, nf, q⟩
def iSrc (m : M) : Mi (List D) := fun e => (m e).bind fun d e1 => match d with | .lst l => .ok l e1 | .tup l => .ok l e1 | _ => .bad
theorem seq_get {K : Fg} {B Hs H : Hp} {ds : List D} {xs : List V} {k : Nat} {d : D} {x : V} (r : Rps K B ds xs) (e : Ex B Hs) (hd : ds[k]? = some d) (hx : xs[k]? = some x) : Out K Hs H H d x := by
  obtain ⟨y, h1, h2⟩ := r.get hd
  rw [hx] at h1
  cases h1
  exact .inl ⟨rfl, Rp.ex e d h2⟩
theorem itok_list {K : Fg} {B : Hp} {ds : List D} {xs : List V} {a : Addr} (h : B a = some (.lst xs)) (r : Rps K B ds xs) : ItOk K B ds (Itl K a) := by
  refine ⟨fun k H hk e => ?_, fun H e => ⟨xs, SqL.of (e _ _ h), by rw [r.len]; exact Nat.le_refl _⟩, fun k H x H' e y d hd Hs eb es => ?_⟩
  · have hk' : k < xs.length := by rw [r.len]; exact hk
    exact ⟨xs, xs[k], SqL.of (e _ _ h), List.getElem?_eq_getElem hk'⟩
  · obtain ⟨rfl, y⟩ := y
    exact seq_get r eb hd (y xs (SqL.of (e _ _ h)))
theorem itok_tup {K : Fg} {B : Hp} {ds : List D} {xs : List V} {a : Addr} (h : TpL K B a xs) (r : Rps K B ds xs) : ItOk K B ds (Itt K a) := by
  refine ⟨fun k H hk e => ?_, fun H e => ⟨xs, (ex_p e h).t, by rw [r.len]; exact Nat.le_refl _⟩, fun k H x H' e y d hd Hs eb es => ?_⟩
  · have hk' : k < xs.length := by rw [r.len]; exact hk
    exact ⟨xs, xs[k], (ex_p e h).t, List.getElem?_eq_getElem hk'⟩
  · obtain ⟨rfl, y⟩ := y
    exact seq_get r eb hd (y xs (ex_p e h).t)
theorem mi_seq (ha : ME X P O W 0 b a ma) : MI X P O W b tg a (iSrc ma) := by
  obtain ⟨ta, pa, ha⟩ := ha.run
  refine ⟨_, pi_seq pa, fun β F G env σ H R S z => ha β F G env σ H _ S (z.bindL fun d e1 H1 S1 x1 p1 q v r => ?_)⟩
  cases d with
  | lst l =>
    obtain ⟨a, xs, rfl, h1, h2⟩ := (r : Rp _ _ (.lst l) v)
    exact ⟨a, rfl, .inl ⟨⟨xs, SqL.of (hid_le _ _ h1)⟩, q.here S1 _ (itok_list h1 h2)⟩⟩
  | tup l =>
    obtain ⟨a, xs, rfl, h1, h2⟩ := (r : Rp _ _ (.tup l) v)
    exact ⟨a, rfl, .inr ⟨⟨xs, (ex_p hid_le h1).t⟩, q.here S1 _ (itok_tup h1 h2)⟩⟩
  | _ => exact q.elim
/-- range -/
def rngD (lo : Int) (n : Nat) : List D := (List.range n).map fun (k : Nat) => D.int (lo + (k : Int))
theorem itok_rng {K : Fg} {B : Hp} (lo : Int) (n : Nat) : ItOk K B (rngD lo n) (Itr lo n) := by
  have hl : (rngD lo n).length = n := by simp [rngD]
  refine ⟨fun k H hk e => by rw [hl] at hk; exact hk, fun H e => by rw [hl]; exact Nat.le_refl _, fun k H x H' e y d hd Hs eb es => ?_⟩
  obtain ⟨rfl, rfl⟩ := y
  have : d = .int (lo + k) := by
    have hk : k < n := by rw [← hl]; exact (List.getElem?_eq_some_iff.mp hd).1
    unfold rngD at hd
    rw [List.getElem?_map, List.getElem?_range hk] at hd
    cases hd; rfl
  subst this
  exact .flat rfl
def rOk (i : Int) : Prop := -1000000000 ≤ i ∧ i ≤ 1000000000
instance (i : Int) : Decidable (rOk i) := by unfold rOk; infer_instance
def iR1 (ms : Mi (List D)) : Mi (List D) := fun e => (ms e).bind fun ds e1 => match ds with | [.int j] => if rOk j then .ok (rngD 0 j.toNat) e1 else .bad | _ => .bad
def iR2 (ms : Mi (List D)) : Mi (List D) := fun e => (ms e).bind fun ds e1 => match ds with | [.int i, .int j] => if rOk i ∧ rOk j then .ok (rngD i (j - i).toNat) e1 else .bad | _ => .bad
theorem mi_r1 (ha : MA X P O W b [a] ms) (hm : X.mg "range" = none) (hg : Gl X "range" := by rfl) (hs : starEach [a] X.env = [(false, eval a X.env)] := by rfl) : MI X P O W b tg (.Call (.Name "range" p) [a] [] pos) (iR1 ms) := by
  obtain ⟨ta, pa, ha⟩ := ha.run
  refine ⟨_, pi_range1 hg hm pa hs, fun β F G env σ H R S z => ha β F G env σ H _ S (z.bindL fun ds e1 H1 S1 x1 p1 q vs r => ?_)⟩
  split at q
  · rename_i j
    split at q
    · rename_i hj
      obtain ⟨v, rfl, rv⟩ := Rps.sgl r
      obtain rfl := (rv : v = _)
      unfold rOk at hj
      exact ⟨j, rfl, by omega, by omega, q.here S1 _ (itok_rng 0 _)⟩
    · exact q.elim
  · exact q.elim
theorem mi_r2 {a2 : Expr} (ha : MA X P O W b [a, a2] ms) (hm : X.mg "range" = none) (hg : Gl X "range" := by rfl) (hs : starEach [a, a2] X.env = [(false, eval a X.env), (false, eval a2 X.env)] := by rfl) (hs2 : starEach [a2] X.env = [(false, eval a2 X.env)] := by rfl) : MI X P O W b tg (.Call (.Name "range" p) [a, a2] [] pos) (iR2 ms) := by
  obtain ⟨ta, pa, ha⟩ := ha.run
  refine ⟨_, pi_range2 hg hm pa hs hs2, fun β F G env σ H R S z => ha β F G env σ H _ S (z.bindL fun ds e1 H1 S1 x1 p1 q vs r => ?_)⟩
  split at q
  · rename_i i j
    split at q
    · rename_i hj
      obtain ⟨v, w, rfl, rv, rw'⟩ := Rps.two r
      obtain rfl := (rv : v = _)
      obtain rfl := (rw' : w = _)
      unfold rOk at hj
      exact ⟨i, j, rfl, by omega, q.here S1 _ (itok_rng i _)⟩
    · exact q.elim
  · exact q.elim
/-- enumerate -/
def enumD : Nat → List D → List D
  | _, [] => []
  | k, d :: l => .tup [.int (k : Int), d] :: enumD (k + 1) l
theorem enumD_len : ∀ (l : List D) (k : Nat), (enumD k l).length = l.length
  | [], _ => rfl
  | _ :: l, k => by
    show (enumD (k + 1) l).length + 1 = l.length + 1
    rw [enumD_len l]
theorem enumD_get : ∀ (l : List D) (k j : Nat) {d : D}, (enumD k l)[j]? = some d → ∃ x, l[j]? = some x ∧ d = .tup [.int ((k + j : Nat) : Int), x]
  | [], _, _, _, h => by simp [enumD] at h
  | x :: l, k, 0, d, h => by
    simp [enumD] at h
    exact ⟨x, rfl, h.symm⟩
  | x :: l, k, j + 1, d, h => by
    have h : (enumD (k + 1) l)[j]? = some d := by simpa [enumD] using h
    obtain ⟨y, h1, h2⟩ := enumD_get l (k + 1) j h
    refine ⟨y, by simpa using h1, ?_⟩
    rw [h2, show k + 1 + j = k + (j + 1) by omega]
theorem itok_enum {K : Fg} {B : Hp} {ds : List D} {xs : List V} {a : Addr} (h : B a = some (.lst xs)) (r : Rps K B ds xs) : ItOk K B (enumD 0 ds) (Ite K a) := by
  refine ⟨fun k H hk e => ?_, fun H e => ⟨xs, SqL.of (e _ _ h), by rw [r.len, enumD_len]; exact Nat.le_refl _⟩, fun k H x H' e y d hd Hs eb es => ?_⟩
  · have hk' : k < xs.length := by rw [r.len]; rw [enumD_len] at hk; exact hk
    exact ⟨xs, xs[k], SqL.of (e _ _ h), List.getElem?_eq_getElem hk'⟩
  · obtain ⟨T, x1, rfl, nT, rfl, f⟩ := y
    obtain ⟨d1, h1, rfl⟩ := enumD_get ds 0 k hd
    obtain ⟨y1, h2, h3⟩ := r.get h1
    rw [f xs (SqL.of (e _ _ h))] at h2
    cases h2
    refine .inr ⟨T, nT, rfl, .inr ⟨_, _, rfl, rfl, _, _, rfl, ?_, _, _, rfl, Rp.ex eb d1 h3, rfl⟩⟩
    show V.int (k : Nat) = V.int ((0 + k : Nat) : Int)
    rw [Nat.zero_add]
def iEn (ms : Mi (List D)) : Mi (List D) := fun e => (ms e).bind fun ds e1 => match ds with | [.lst l] => .ok (enumD 0 l) e1 | _ => .bad
theorem mi_enum {elts : List Expr} {kk : Nat} {tpos : Pos} (ha : MA X P O W b [a] ms) (hm : X.mg "enumerate" = none) (hg : Gl X "enumerate" := by rfl) (hs : starEach [a] X.env = [(false, eval a X.env)] := by rfl) : MI X P O W b (.Tuple elts kk tpos) (.Call (.Name "enumerate" p) [a] [] pos) (iEn ms) := by
  obtain ⟨ta, pa, ha⟩ := ha.run
  refine ⟨_, pi_enum hg hm pa hs, fun β F G env σ H R S z => ha β F G env σ H _ S (z.bindL fun ds e1 H1 S1 x1 p1 q vs r => ?_)⟩
  split at q
  · rename_i l
    obtain ⟨v, rfl, rv⟩ := Rps.sgl r
    obtain ⟨a, xs, rfl, h1, h2⟩ := rv
    exact ⟨a, xs, rfl, SqL.of (hid_le _ _ h1), q.here S1 _ (itok_enum h1 h2)⟩
  · exact q.elim

/-! ### targets -/
/-- is: the slots that it stores to -/
structure MG (X : Cx) (P O : List Nat) (is : List Nat) (tg : Expr) (g : TG) (f : D → Sl → Option Sl) : Prop where
  pg : PG X tg g
  run : ∀ β F G env env' σ H d v Q, Stt X.K P O β F G env σ H → Rp X.K (hid H (msk F G)) d v → f d env = some env' → (∀ σ', Stt X.K P O β F G env' σ' H → (∀ vs, (∀ i ∈ is, i ∈ vs) → wipe σ' vs = wipe σ vs) → Q σ' H) → g v σ H Q
def gN (i : Nat) : D → Sl → Option Sl := fun d e => some (e.set i (some d))
theorem wipe_set {i : Nat} {w : Option V} : ∀ {vs : List Nat}, i ∈ vs → wipe (σ.set i w) vs = wipe σ vs
  | v :: vs, h => by
    show (wipe (σ.set i w) vs).set v none = (wipe σ vs).set v none
    by_cases hv : i ∈ vs
    · rw [wipe_set hv]
    · have e : v = i := by
        rcases List.mem_cons.mp h with h | h
        · exact h.symm
        · exact absurd h hv
      subst e
      clear h
      refine List.ext_getElem? fun j => ?_
      by_cases hj : v = j
      · subst hj
        by_cases hl : v < σ.length
        · rw [List.getElem?_set_self (by rw [wipe_length, List.length_set]; exact hl), List.getElem?_set_self (by rw [wipe_length]; exact hl)]
        · rw [List.getElem?_eq_none (by rw [List.length_set, wipe_length, List.length_set]; omega), List.getElem?_eq_none (by rw [List.length_set, wipe_length]; omega)]
      · rw [List.getElem?_set_ne hj, List.getElem?_set_ne hj]
        clear hv
        induction vs generalizing j with
        | nil => exact List.getElem?_set_ne hj
        | cons u vs ih =>
          show ((wipe (σ.set v w) vs).set u none)[j]? = ((wipe σ vs).set u none)[j]?
          by_cases hu : u = j
          · subst hu
            by_cases hl : u < σ.length
            · rw [List.getElem?_set_self (by rw [wipe_length, List.length_set]; exact hl), List.getElem?_set_self (by rw [wipe_length]; exact hl)]
            · rw [List.getElem?_eq_none (by rw [List.length_set, wipe_length, List.length_set]; omega), List.getElem?_eq_none (by rw [List.length_set, wipe_length]; omega)]
          · rw [List.getElem?_set_ne hu, List.getElem?_set_ne hu]
            exact ih j hj
def okT (P O : List Nat) (i : Nat) : Bool := decide (i < O.length) && (!P.contains i && (O.getD i 0 == 0))
theorem okT_of {i : Nat} (h : okT P O i = true) : i < O.length ∧ i ∉ P ∧ O.getD i 0 = 0 := by
  unfold okT at h
  rw [Bool.and_eq_true, Bool.and_eq_true] at h
  exact ⟨of_decide_eq_true h.1, by simpa using h.2.1, by simpa using h.2.2⟩
theorem mg_name (i : Nat) {x : Str} (hN : X.N.Nodup) (hi : okT P O i = true := by rfl) (hx : X.N[i]? = some x := by rfl) (hl : Loc X.env.scope x := by first | exact Or.inl rfl | exact Or.inr rfl) (hf : X.fn x = true ∨ X.env.scope.names.lookup x = some .local := by first | exact .inl rfl | exact .inr rfl) :
    MG X P O [i] (.Name x pos) (gName i) (gN i) := by
  obtain ⟨h1, h2, h3⟩ := okT_of hi
  refine ⟨pg_name hN hx hl hf, fun β F G env env' σ H d v Q S r h q => ?_⟩
  cases h
  exact q _ (S.stz (by rw [← S.olen]; exact h1) h2 h3 r) fun vs hv => wipe_set (hv i List.mem_cons_self)
/-- a tuple of targets -/
structure MGs (X : Cx) (P O : List Nat) (is : List Nat) (ts : List Expr) (g : TGs) (f : List D → Sl → Option Sl) : Prop where
  pg : PGs X ts g
  run : ∀ β F G env env' σ H ds vs Q, Stt X.K P O β F G env σ H → Rps X.K (hid H (msk F G)) ds vs → f ds env = some env' → (∀ σ', Stt X.K P O β F G env' σ' H → (∀ vs, (∀ i ∈ is, i ∈ vs) → wipe σ' vs = wipe σ vs) → Q σ' H) → g vs σ H Q
def gsNil : List D → Sl → Option Sl := fun ds e => match ds with | [] => some e | _ => none
def gsCons (f : D → Sl → Option Sl) (r : List D → Sl → Option Sl) : List D → Sl → Option Sl := fun ds e => match ds with | d :: l => (f d e).bind fun e1 => r l e1 | [] => none
def gT (n : Nat) (f : List D → Sl → Option Sl) : D → Sl → Option Sl := fun d e => match d with | .tup l => if l.length = n then f l e else none | _ => none
theorem mgs_nil : MGs X P O [] [] gNil gsNil := by
  refine ⟨pgs_nil, fun β F G env env' σ H ds vs Q S r h q => ?_⟩
  cases ds with
  | nil =>
    cases h
    exact ⟨r, q σ S fun _ _ => rfl⟩
  | cons d l => cases h
theorem mgs_cons {is js : List Nat} {t : Expr} {ts : List Expr} {g : TG} {gr : TGs} {f : D → Sl → Option Sl} {fr : List D → Sl → Option Sl} (h1 : MG X P O is t g f) (h2 : MGs X P O js ts gr fr) (hs : (assignEach (t :: ts) X.env).map (·.2) = assign t X.env :: (assignEach ts X.env).map (·.2) := by rfl) : MGs X P O (is ++ js) (t :: ts) (gCons g gr) (gsCons f fr) := by
  refine ⟨pgs_cons h1.pg h2.pg hs, fun β F G env env' σ H ds vs Q S r h q => ?_⟩
  cases ds with
  | nil => cases h
  | cons d l =>
    obtain ⟨v, rest, rfl, r1, r2⟩ := r
    have h : (f d env).bind (fun e1 => fr l e1) = some env' := h
    cases hf : f d env with
    | none => rw [hf] at h; cases h
    | some e1 =>
      rw [hf] at h
      refine ⟨v, rest, rfl, h1.run β F G env e1 σ H d v _ S r1 hf fun σ1 S1 w1 => ?_⟩
      exact h2.run β F G e1 env' σ1 H l rest _ S1 r2 h fun σ2 S2 w2 => q σ2 S2 fun vs hv => (w2 vs fun i hi => hv i (List.mem_append_right _ hi)).trans (w1 vs fun i hi => hv i (List.mem_append_left _ hi))
theorem mg_tup {is : List Nat} {ts : List Expr} {k : Nat} {g : TGs} {f : List D → Sl → Option Sl} {n : Nat} (hc : X.calm = true) (h : MGs X P O is ts g f) (hn : (assignEach ts X.env).length = n := by rfl) (hst : (assignEach ts X.env).findIdx? (·.1) = none := by rfl) : MG X P O is (.Tuple ts k pos) (gTup X.K n g) (gT n f) := by
  refine ⟨pg_tup hc h.pg hn hst, fun β F G env env' σ H d v Q S r hf q => ?_⟩
  cases d with
  | tup l =>
    obtain ⟨a, xs, rfl, h1, h2⟩ := r
    unfold gT at hf
    dsimp only at hf
    split at hf
    · rename_i hn
      exact ⟨a, xs, rfl, (ex_p hid_le h1).t, by rw [h2.len]; exact hn, h.run β F G env env' σ H l xs Q S h2 hf q⟩
    · cases hf
  | _ => cases hf

/-! ### a tuple taken apart -/
def sTgt (f : D → Sl → Option Sl) (m : M) : MSt := fun e => (m e).toS fun d e1 => match f d e1 with | some e2 => .nx e2 | none => .bad
theorem ms_tgt {is : List Nat} {g : TG} {f : D → Sl → Option Sl} (hg : MG X c.P O is tg g f) (ha : ME X c.P O c.W 0 b e m) (hs : swapsWithSole [tg] e pos.line X.env = pure false := by rfl) (hw : swappedStores [tg] e X.env = pure none := by rfl)
    (h1 : (assignEach [tg] X.env).map (·.2) = [assign tg X.env] := by rfl) : MS X c Ol O O (.Assign [tg] e pos) (sTgt f m) := by
  obtain ⟨t, p, h⟩ := ha.run
  refine ⟨_, ps_asg p hg.pg hs hw h1, fun β F G env σ H Dn S z => h β F G env σ H _ S (z.bind fun d e1 H1 S1 q v r => ?_)⟩
  cases hf : f d e1 with
  | none => rw [hf] at q; exact q.elim
  | some e2 =>
    rw [hf] at q
    exact hg.run β F G e1 e2 σ H1 d v _ S1 r hf fun σ' S' _ => q σ' H1 F S'
/-- a, b = e1, e2 with plain local names -/
def sPar (i j : Nat) (ms : Mi (List D)) : MSt := fun e => (ms e).toS fun ds e1 => match ds with | [d1, d2] => .nx ((e1.set i (some d1)).set j (some d2)) | _ => .bad
theorem ms_par (i j : Nat) {x y : Str} {px py pt : Pos} {kt k2 pt2} (hc : X.calm = true) (hN : X.N.Nodup) (ha : MA X c.P O c.W b [e, a] ms) (hi : okT c.P O i = true := by rfl) (hj : okT c.P O j = true := by rfl) (hij : i ≠ j := by decide) (hx : X.N[i]? = some x := by rfl) (hy : X.N[j]? = some y := by rfl)
    (hxl : X.env.scope.names.lookup x = some .local := by rfl) (hyl : X.env.scope.names.lookup y = some .local := by rfl)
    (hw : swappedStores [.Tuple [.Name x px, .Name y py] kt pt] (.Tuple [e, a] k2 pt2) X.env = pure (some [x, y]) := by rfl)
    (hs : swapsWithSole [.Tuple [.Name x px, .Name y py] kt pt] (.Tuple [e, a] k2 pt2) pos.line X.env = pure false := by rfl) : MS X c Ol O O (.Assign [.Tuple [.Name x px, .Name y py] kt pt] (.Tuple [e, a] k2 pt2) pos) (sPar i j ms) := by
  obtain ⟨t, p, h⟩ := ha.run
  obtain ⟨a1, a2, a3⟩ := okT_of hi
  obtain ⟨c1, c2, c3⟩ := okT_of hj
  refine ⟨_, ps_par hc hN hx hy hij hxl hyl p hw hs, fun β F G env σ H Dn S z => h β F G env σ H _ S (z.bind fun ds e1 H1 S1 q vs r => ?_)⟩
  split at q
  · obtain ⟨v, w, rfl, rv, rw'⟩ := Rps.two r
    refine ⟨v, w, rfl, ?_⟩
    have S2 := S1.stz (by rw [← S1.olen]; exact a1) a2 a3 rv
    exact q _ H1 F (S2.stz (by rw [← S2.olen]; exact c1) c2 c3 rw')
  · exact q.elim

/-! ### for -/
def forL (f : D → Sl → Option Sl) (s : MSt) : List D → MSt
  | [] => fun e => .nx e
  | d :: l => fun e => match f d e with
    | none => .bad
    | some e1 => match s e1 with
      | .nx e2 => forL f s l e2
      | .ct e2 => forL f s l e2
      | .bk e2 => .nx e2
      | r => r
def sFor (f : D → Sl → Option Sl) (src : Mi (List D)) (s : MSt) : MSt := fun e => (src e).toS fun ds e1 => forL f s ds e1
theorem ms_for {is : List Nat} {it : Expr} {body : List Stmt} {g : TG} {f : D → Sl → Option Sl} {src : Mi (List D)} (hp : PassesOwn (model X.prog X.w) X.A X.env X.xe) (hc : X.calm = true) (hi : MI X c.P O c.W b tg it src) (hg : MG X c.P O is tg g f) (hb : MSs X c O O O body s)
    (hs : ∀ x, foldedSetIterable it X.env x = pure x := by intro _; rfl) : MS X c Ol O O (.For tg it body [] pos) (sFor f src s) := by
  obtain ⟨w, pw, hw⟩ := hi.run
  obtain ⟨t, pt, ht⟩ := hb.run
  refine ⟨_, ps_for hp hc pw hg.pg pt hs, fun β F G env σ H Dn S z => hw β F G env σ H _ S (z.bind fun ds e1 H1 S1 q J ok => ?_)⟩
  let B := hid H1 (msk F G)
  have hB : Ex β.B B := S1.base
  have q' := q.rise (B := B) hB
  refine ⟨fun i m σ' H' => ∃ F' e', m = ds.length - i ∧ i ≤ ds.length ∧ Stt X.K c.P O (β.up B) F' G e' σ' H' ∧ PstS X c O Ol (β.up B) G Dn (forL f s (ds.drop i) e'), ⟨ds.length, F, e1, by simp, Nat.zero_le _, S1.rise, by simpa using q'⟩, ?_⟩
  rintro i m σ2 H2 ⟨F2, e2, rfl, hi2, S2, z2⟩
  have eB : Ex B H2 := S2.base.trn hid_le
  by_cases hlt : i < ds.length
  · have hd : ds.drop i = ds[i] :: ds.drop (i + 1) := List.drop_eq_getElem_cons hlt
    rw [hd] at z2
    have z2 : PstS X c O Ol (β.up B) G Dn (match f ds[i] e2 with
      | none => .bad
      | some e1 => match s e1 with
        | .nx e2 => forL f s (ds.drop (i + 1)) e2
        | .ct e2 => forL f s (ds.drop (i + 1)) e2
        | .bk e2 => .nx e2
        | r => r) := z2
    cases hf : f ds[i] e2 with
    | none => rw [hf] at z2; exact z2.elim
    | some e3 =>
      rw [hf] at z2
      have z2 : PstS X c O Ol (β.up B) G Dn (match s e3 with
        | .nx e2 => forL f s (ds.drop (i + 1)) e2
        | .ct e2 => forL f s (ds.drop (i + 1)) e2
        | .bk e2 => .nx e2
        | r => r) := z2
      refine .inr ⟨ok.go i H2 hlt eB, fun σ' H' => ∃ F' e', Stt X.K c.P O (β.up B) F' G e' σ' H' ∧ PstS X c O Ol (β.up B) G Dn (forL f s (ds.drop (i + 1)) e'), fun σ' H' ⟨F', e', S', z'⟩ => ⟨ds.length - (i + 1), by omega, F', e', rfl, hlt, S', z'⟩, fun x H3 y => ?_⟩
      have o := ok.yld i H2 x H3 eB y ds[i] (List.getElem?_eq_getElem hlt) (hid H2 (msk F2 G)) S2.base hid_le
      have S3 := S2.ext o.ex
      refine hg.run (β.up B) F2 G e2 e3 σ2 H3 _ x _ S3 (o.rp S2) hf fun σ4 S4 _ => ht (β.up B) F2 G e3 σ4 H3 _ S4 ?_
      cases hr : s e3 with
      | nx e4 => rw [hr] at z2; exact fun σ5 H5 F5 S5 => ⟨F5, e4, S5, z2⟩
      | ct e4 => rw [hr] at z2; exact fun σ5 H5 F5 S5 => ⟨F5, e4, S5, z2⟩
      | bk e4 => rw [hr] at z2; exact z2
      | rt d e4 => rw [hr] at z2; exact z2
      | exc a x e4 => rw [hr] at z2; exact z2
      | bad => rw [hr] at z2; exact z2
  · have e : i = ds.length := by omega
    subst e
    rw [List.drop_length] at z2
    exact .inl ⟨ok.stop H2 eB, z2 σ2 H2 F2 S2⟩

/-! ### while -/
def whlN (mc : M) (s : MSt) : Nat → MSt
  | 0 => fun _ => .bad
  | n + 1 => fun e => (mc e).toS fun d e1 => match d with
    | .bl false => .nx e1
    | .bl true => (match s e1 with
      | .nx e2 => whlN mc s n e2
      | .ct e2 => whlN mc s n e2
      | .bk e2 => .nx e2
      | r => r)
    | _ => .bad
/-- the turns that a while is followed for -/
def fuel : Nat := 10 ^ 40
def sWhl (mc : M) (s : MSt) : MSt := fun e => whlN mc s fuel e
theorem ms_while {body : List Stmt} {mc : M} (hp : PassesOwn (model X.prog X.w) X.A X.env X.xe) (hc : MT X c.P O c.W b t mc) (hb : MSs X c O O O body s) : MS X c Ol O O (.While t body [] pos) (sWhl mc s) := by
  obtain ⟨tc, pc, hc⟩ := hc.run
  obtain ⟨tb, pb, hb⟩ := hb.run
  refine ⟨_, ps_while hp pc pb, fun β F G env σ H Dn S z => ?_⟩
  refine ⟨fun m σ' H' => ∃ F' e', Stt X.K c.P O β F' G e' σ' H' ∧ PstS X c O Ol β G Dn (whlN mc s m e'), ⟨fuel, F, env, S, z⟩, ?_⟩
  rintro m σ2 H2 ⟨F2, e2, S2, z2⟩
  cases m with
  | zero => exact z2.elim
  | succ m =>
    refine hc β F2 G e2 σ2 H2 _ S2 (PstS.bind z2 fun d e3 H3 S3 q => ?_)
    cases d with
    | bl k =>
      refine ⟨k, rfl, ?_⟩
      cases k with
      | false => exact q σ2 H3 F2 S3
      | true =>
        refine ⟨fun σ' H' => ∃ F' e', Stt X.K c.P O β F' G e' σ' H' ∧ PstS X c O Ol β G Dn (whlN mc s m e'), fun σ' H' h => ⟨m, Nat.lt_succ_self m, h⟩, hb β F2 G e3 σ2 H3 _ S3 ?_⟩
        have q : PstS X c O Ol β G Dn (match s e3 with
          | .nx e2 => whlN mc s m e2
          | .ct e2 => whlN mc s m e2
          | .bk e2 => .nx e2
          | r => r) := q
        cases hr : s e3 with
        | nx e4 => rw [hr] at q; exact fun σ5 H5 F5 S5 => ⟨F5, e4, S5, q⟩
        | ct e4 => rw [hr] at q; exact fun σ5 H5 F5 S5 => ⟨F5, e4, S5, q⟩
        | bk e4 => rw [hr] at q; exact q
        | rt d e4 => rw [hr] at q; exact q
        | exc a x e4 => rw [hr] at q; exact q
        | bad => rw [hr] at q; exact q
    | _ => exact q.elim
end
end M3

/-! MC -/
set_option Elab.async false
set_option linter.all false
set_option maxRecDepth 100000
set_option maxHeartbeats 4000000
namespace M3
open PySem PySem.Spec PyProof.Rows L2

/-! ### comprehensions -/
def Rs.nox {α : Type} : Rs α → Rs α
  | .exc _ _ _ => .bad
  | r => r
def wpE (e : Sl) : List Nat → Sl
  | [] => e
  | v :: vs => (wpE e vs).set v none
def rstE (e1 e2 : Sl) : List Nat → Sl
  | [] => e2
  | v :: vs => (rstE e1 e2 vs).set v (e1.getD v none)
def mYes : M := fun e => .ok (.bl true) e
def lcL (own : List Nat) (f : D → Sl → Option Sl) (tst el : M) : List D → Mi (List D)
  | [] => fun e => .ok [] e
  | d :: ds => fun e => match f d e with
    | none => .bad
    | some e1 => (tst e1).nox.bind fun c e2 => match c with
      | .bl true => (el e2).nox.bind fun y e3 => (lcL own f tst el ds (wpE e3 own)).bind fun l e4 => .ok (y :: l) e4
      | .bl false => lcL own f tst el ds (wpE e2 own)
      | _ => .bad
def mLc (own : List Nat) (f : D → Sl → Option Sl) (tst el : M) (src : Mi (List D)) : M := fun e => (src e).bind fun ds e1 => (lcL own f tst el ds (wpE e1 own)).bind fun l e2 =>
  if l.length ≤ lim then .ok (.lst l) (rstE e1 e2 own) else .bad

section
variable {K : Fg} {P O : List Nat} {β : Bc} {F : List (List Addr)} {G G' : List Addr} {env e1 e2 : Sl} {σ : L2.St} {H H1 H2 : Hp} {own : List Nat}
theorem wpE_len : ∀ vs : List Nat, (wpE env vs).length = env.length
  | [] => rfl
  | v :: vs => by
    show ((wpE env vs).set v none).length = env.length
    rw [List.length_set, wpE_len vs]
theorem rstE_len : ∀ vs : List Nat, (rstE e1 e2 vs).length = e2.length
  | [] => rfl
  | v :: vs => by
    show ((rstE e1 e2 vs).set v _).length = e2.length
    rw [List.length_set, rstE_len vs]
theorem rstE_get : ∀ (vs : List Nat) (j : Nat) (d : D), (rstE e1 e2 vs)[j]? = some (some d) → (j ∈ vs ∧ e1[j]? = some (some d)) ∨ (j ∉ vs ∧ e2[j]? = some (some d))
  | [], j, d, h => .inr ⟨by simp, h⟩
  | v :: vs, j, d, h => by
    have h : ((rstE e1 e2 vs).set v (e1.getD v none))[j]? = some (some d) := h
    by_cases hj : v = j
    · subst hj
      refine .inl ⟨List.mem_cons_self, ?_⟩
      by_cases hl : v < (rstE e1 e2 vs).length
      · rw [List.getElem?_set_self hl] at h
        have h : e1.getD v none = some d := Option.some.inj h
        rw [List.getD_eq_getElem?_getD] at h
        cases q : e1[v]? with
        | none => rw [q] at h; cases h
        | some o => rw [q] at h; exact congrArg some h
      · rw [List.getElem?_eq_none (by rw [List.length_set]; omega)] at h; cases h
    · rw [List.getElem?_set_ne hj] at h
      rcases rstE_get vs j d h with ⟨h1, h2⟩ | ⟨h1, h2⟩
      · exact .inl ⟨List.mem_cons_of_mem _ h1, h2⟩
      · exact .inr ⟨fun z => by rcases List.mem_cons.mp z with z | z; exact hj z.symm; exact h1 z, h2⟩
theorem wipe_get : ∀ (vs : List Nat) (j : Nat), j ∉ vs → (wipe σ vs)[j]? = σ[j]?
  | [], _, _ => rfl
  | v :: vs, j, h => by
    show ((wipe σ vs).set v none)[j]? = _
    rw [List.getElem?_set_ne (fun z => h (by rw [z]; exact List.mem_cons_self)), wipe_get vs j fun z => h (List.mem_cons_of_mem _ z)]
theorem Stt.wipe : ∀ (vs : List Nat), (∀ i ∈ vs, i ∉ P) → Stt K P O β F G env σ H → Stt K P O β F G (wpE env vs) (L2.wipe σ vs) H
  | [], _, S => S
  | v :: vs, h, S => (Stt.wipe vs (fun i m => h i (List.mem_cons_of_mem _ m)) S).wipe1 (h v List.mem_cons_self)
theorem Stt.wipeE : ∀ (vs : List Nat), (∀ i ∈ vs, i ∉ P) → L2.wipe σ vs = L2.wipe σ own → ∀ {σ' : L2.St}, σ' = L2.wipe σ vs → Stt K P O β F G env σ H → Stt K P O β F G (wpE env vs) σ' H := fun vs h _ σ' e S => by
  subst e
  exact S.wipe vs h
/-- the outer names back -/
theorem Stt.rst (S1 : Stt K P O β F G e1 σ H1) (S2 : Stt K P O β F G' e2 (L2.wipe σ own) H2) (x : Ex (hid H1 (msk F G)) (hid H2 (msk F G'))) (hO : ∀ i ∈ own, O.getD i 0 = 0) (hP : ∀ i ∈ own, i ∉ P) : Stt K P O β F G' (rstE e1 e2 own) σ H2 := by
  refine ⟨by rw [rstE_len, ← S2.len, wipe_length], by rw [rstE_len]; exact S2.olen, by rw [rstE_len]; exact S2.flen, S2.nd, S2.pres, S2.base, fun j d h => ?_, fun j hj => ?_, S2.z, S2.rr⟩
  · rcases rstE_get own j d h with ⟨h1, h2⟩ | ⟨h1, h2⟩
    · obtain ⟨v, q1, q2⟩ := S1.slot j d h2
      refine ⟨v, q1, ?_⟩
      rw [hO j h1] at q2 ⊢
      exact ⟨q2.1, Rp.ex x d q2.2⟩
    · obtain ⟨v, q1, q2⟩ := S2.slot j d h2
      rw [wipe_get own j h1] at q1
      exact ⟨v, q1, q2⟩
  · have h := S2.pin j hj
    rw [wipe_get own j fun z => hP j z hj] at h
    exact h
theorem Stt.perm (S : Stt K P O β F G env σ H) (h : G.Perm G') : Stt K P O β F G' env σ H := by
  have e : hid H (msk F G) = hid H (msk F G') := hid_same fun a => by
    simp only [msk, List.mem_append, h.mem_iff]
  refine ⟨S.len, S.olen, S.flen, ((h.append_left F.flatten).nodup_iff).mp S.nd, fun a m => S.pres a (by simp only [msk, List.mem_append, h.mem_iff] at m ⊢; exact m), by rw [← e]; exact S.base, fun j d q => by rw [← e]; exact S.slot j d q, S.pin, S.z, fun a m => ⟨h.mem_iff.mp (S.rr a m).1, (S.rr a m).2⟩⟩
theorem hid_perm (h : G.Perm G') : hid H (msk F G) = hid H (msk F G') := hid_same fun a => by
  simp only [msk, List.mem_append, h.mem_iff]
theorem All3.snoc {Pr : D → V → List Addr → Prop} {l : List D} {xs : List V} {fs : List (List Addr)} (h : All3 Pr l xs fs) {d : D} {x : V} {f : List Addr} (k : Pr d x f) : All3 Pr (l ++ [d]) (xs ++ [x]) (fs ++ [f]) := h.app (m := [d]) (ys := [x]) (gs := [f]) ⟨k, trivial⟩
end

abbrev XB (X : Cx) (scope : Scope) (s : Shared) (H : Hp) (C : Addr) (cl : List (Str × Addr)) (fp : List Addr) : Cx := X.blk s H scope (compEnvC scope cl C X.env) fp
abbrev W0 : WX := fun _ _ _ _ => False
def cT (K : Fg) (P O : List Nat) (b : Bool) (m : M) (X : Cx) : TT := fun σ H Q => ∃ β F G env, Stt K P O β F G env σ H ∧ Pst X P O W0 β F G σ H b env (fun d H' => ∃ c, d = .bl c ∧ Q c H') (m env)
def cE (K : Fg) (P O : List Nat) (n : Nat) (b : Bool) (m : M) (X : Cx) : TE := fun σ H Q => ∃ β F G env, Stt K P O β F G env σ H ∧ PstO X P O W0 β F G σ H n b env Q (m env)
/-- the tests of a clause: none, or one -/
structure MTs (X : Cx) (P O : List Nat) (b : Bool) (es : List Expr) (m : M) : Prop where
  run : ∃ t, PTs X es t ∧ ∀ β F G env σ H Q, Stt X.K P O β F G env σ H → Pst X P O W0 β F G σ H b env (fun d H' => ∃ c, d = .bl c ∧ Q c H') (m env) → t σ H Q
theorem mts_nil {X : Cx} {P O : List Nat} : MTs X P O true [] mYes := ⟨_, pts_nil, fun β F G env σ H Q S p => by
  obtain ⟨c, e, q⟩ := p.here S
  cases e
  exact q⟩
theorem mts_one {X : Cx} {P O : List Nat} {b : Bool} {e : Expr} {m : M} (h : MT X P O W0 b e m) : MTs X P O b [e] m := by
  obtain ⟨t, h1, h2⟩ := h.run
  exact ⟨_, pts_one h1, h2⟩
theorem ptsW {X : Cx} {es : List Expr} {t t' : TT} (h : PTs X es t) (k : ∀ σ H Q, t' σ H Q → t σ H Q) : PTs X es t' := ⟨fun pins s σ H Q I w => h.run pins s σ H Q I (k _ _ _ w)⟩
theorem peW {X : Cx} {e : Expr} {t t' : TE} (h : PE X e t) (k : ∀ σ H Q, t' σ H Q → t σ H Q) : PE X e t' := ⟨fun pins s σ H Q I w => h.run pins s σ H Q I (k _ _ _ w)⟩
theorem ME.mo {X : Cx} {P O : List Nat} {W : WX} {b : Bool} {e : Expr} {m : M} (h : ME X P O W 0 b e m) : MO X P O W 0 b e m := by
  obtain ⟨t, h1, h2⟩ := h.run
  refine ⟨t, h1, fun β F G env σ H Q S p => h2 β F G env σ H Q S ?_⟩
  cases q : m env with
  | ok d e =>
    rw [q] at p
    exact fun H' S' x' p' v r => p v H' [] S' ⟨x'.ex, x'.gs⟩ p' ⟨rfl, r⟩
  | exc c x e => rw [q] at p; exact p
  | bad => rw [q] at p; exact p
def okOwn (P O own is : List Nat) : Bool := own.all (fun i => !P.contains i && (O.getD i 0 == 0)) && is.all fun i => own.contains i
section
variable {X : Cx} {P O : List Nat} {W : WX} {k : Nat} {b b1 b2 : Bool} {elt tg iter : Expr} {ifs : List Expr} {scope : Scope} {own : List (Str × Nat)} {pos : Pos} {g : TG} {f : D → Sl → Option Sl} {is : List Nat} {mt me : M} {src : Mi (List D)}
theorem nox_ok {α : Type} {r : Rs α} {a : α} {e : Sl} : r.nox = .ok a e ↔ r = .ok a e := by
  cases r <;> simp [Rs.nox]
/-- what a comprehension's reading asks, from its mirror -/
theorem lc_sem (hi : MI X P O W b tg iter src)
    (hg : ∀ s H C cl fp, MG (XB X scope s H C cl fp) P O is tg g f) (ht : ∀ s H C cl fp, MTs (XB X scope s H C cl fp) P O b1 ifs mt) (he : ∀ s H C cl fp, MO (XB X scope s H C cl fp) P O W0 k b2 elt me)
    (hw : okOwn P O (own.map (·.2)) is = true) :
    ∃ w, PI X tg iter w ∧ (∀ s H C cl fp, PTs (XB X scope s H C cl fp) ifs (cT X.K P O b1 mt X)) ∧ (∀ s H C cl fp, PE (XB X scope s H C cl fp) elt (cE X.K P O k b2 me X)) ∧
      ∀ β F G env σ H Q, Stt X.K P O β F G env σ H → PstO X P O W β F G σ H (k + 1) false env Q (mLc (own.map (·.2)) f mt me src env) → tLc w g (cT X.K P O b1 mt X) (cE X.K P O k b2 me X) (own.map (·.2)) σ H Q := by
  obtain ⟨w, pw, hi⟩ := hi.run
  have ht' : ∀ s H C cl fp, PTs (XB X scope s H C cl fp) ifs (cT X.K P O b1 mt X) := fun s H C cl fp => by
    obtain ⟨t, q1, q2⟩ := (ht s H C cl fp).run
    refine ptsW q1 fun σ H Q h => ?_
    obtain ⟨β, F, G, env, S, h⟩ := h
    exact q2 β F G env σ H Q S h
  have he' : ∀ s H C cl fp, PE (XB X scope s H C cl fp) elt (cE X.K P O k b2 me X) := fun s H C cl fp => by
    obtain ⟨t, q1, q2⟩ := (he s H C cl fp).run
    refine peW q1 fun σ H Q h => ?_
    obtain ⟨β, F, G, env, S, h⟩ := h
    exact q2 β F G env σ H Q S h
  unfold okOwn at hw
  rw [Bool.and_eq_true] at hw
  have hP : ∀ i ∈ own.map (·.2), i ∉ P := fun i m => by
    have h := (List.all_eq_true.mp hw.1) i m
    rw [Bool.and_eq_true] at h
    simpa using h.1
  have hO : ∀ i ∈ own.map (·.2), O.getD i 0 = 0 := fun i m => by
    have h := (List.all_eq_true.mp hw.1) i m
    rw [Bool.and_eq_true] at h
    simpa using h.2
  have hI : ∀ i ∈ is, i ∈ own.map (·.2) := fun i m => by simpa using (List.all_eq_true.mp hw.2) i m
  revert hP hO hI
  generalize hvs : own.map (·.2) = vs
  intro hP hO hI
  refine ⟨w, pw, ht', he', fun β F G env σ H Q S z => ?_⟩
  refine hi β F G env σ H _ S ?_
  unfold mLc at z
  cases es : src env with
  | bad => rw [es] at z; exact z
  | exc c x e => rw [es] at z; exact z
  | ok ds e1 =>
    rw [es] at z
    intro H1 S1 x1 p1 J okJ A hA
    have z : PstO X P O W β F G σ H (k + 1) false env Q ((lcL vs f mt me ds (wpE e1 vs)).bind fun l e2 => if l.length ≤ lim then .ok (.lst l) (rstE e1 e2 vs) else .bad) := z
    let B := hid H1 (msk F G)
    -- the whole outcome
    cases el : lcL vs f mt me ds (wpE e1 vs) with
    | bad => rw [el] at z; exact z.elim
    | exc c x e =>
      exfalso
      clear z
      have : ∀ (ds : List D) (e0 : Sl), lcL vs f mt me ds e0 ≠ .exc c x e := by
        intro ds
        induction ds with
        | nil => intro e0 h; cases h
        | cons d ds ih =>
          intro e0 h
          unfold lcL at h
          split at h
          · cases h
          · rename_i e1 _
            cases q1 : mt e1 with
            | bad => rw [q1] at h; cases h
            | exc c x e => rw [q1] at h; cases h
            | ok cc e2 =>
              rw [q1] at h
              have h : (match cc with
                | .bl true => (me e2).nox.bind fun y e3 => (lcL vs f mt me ds (wpE e3 vs)).bind fun l e4 => .ok (y :: l) e4
                | .bl false => lcL vs f mt me ds (wpE e2 vs)
                | _ => .bad) = Rs.exc c x e := h
              split at h
              · cases q2 : me e2 with
                | bad => rw [q2] at h; cases h
                | exc c x e => rw [q2] at h; cases h
                | ok y e3 =>
                  rw [q2] at h
                  have h : ((lcL vs f mt me ds (wpE e3 vs)).bind fun l e4 => .ok (y :: l) e4) = Rs.exc c x e := h
                  cases q3 : lcL vs f mt me ds (wpE e3 vs) with
                  | bad => rw [q3] at h; cases h
                  | ok l e4 => rw [q3] at h; cases h
                  | exc c' x' e' =>
                    rw [q3] at h
                    cases h
                    exact ih _ q3
              · exact ih _ h
              · cases h
      exact this _ _ el
    | ok l e2 =>
      rw [el] at z
      have z : PstO X P O W β F G σ H (k + 1) false env Q (if l.length ≤ lim then .ok (.lst l) (rstE e1 e2 vs) else .bad) := z
      split at z
      · rename_i hlen
        -- W: the turn, what is made so far, what the mirror still has to do
        refine ⟨fun i m H2 => ∃ e3 done acc fps rest, m = ds.length - i ∧ i ≤ ds.length ∧ Stt X.K P O (β.up B) F (A :: fps.flatten ++ G) e3 (wipe σ vs) H2 ∧ Fo F G (A :: fps.flatten) H1 H2 ∧ H2 A = some (.lst acc) ∧
            All3 (Own X.K (hid H2 (msk F (A :: fps.flatten ++ G))) H2 k) done acc fps ∧ lcL vs f mt me (ds.drop i) e3 = .ok rest e2 ∧ done ++ rest = l,
          ⟨ds.length, wpE e1 vs, [], [], [], l, by simp, Nat.zero_le _, ?_, ?_, upd_same, trivial, by simpa using el, rfl⟩, ?_⟩
        · exact Stt.wipe vs hP (S1.rise.newG hA)
        · refine ⟨?_, fun a m => upd_ne fun q => S1.fresh hA (List.mem_append_right _ (q ▸ m))⟩
          have q := hid_newG (o := .lst []) S1 hA
          show Ex (hid H1 (msk F G)) (hid (upd H1 A (.lst [])) (msk F ([A] ++ G)))
          rw [show [A] ++ G = A :: G from rfl, q]
          exact Ex.rfl' _
        · rintro i m H2 ⟨e3, done, acc, fps, rest, rfl, hi2, S2, x2, hA2, own2, el2, hl2⟩
          have eB : Ex B H2 := S2.base.trn hid_le
          by_cases hlt : i < ds.length
          · have hd : ds.drop i = ds[i] :: ds.drop (i + 1) := List.drop_eq_getElem_cons hlt
            rw [hd] at el2
            unfold lcL at el2
            cases hf : f ds[i] e3 with
            | none => rw [hf] at el2; cases el2
            | some e4 =>
              rw [hf] at el2
              dsimp only at el2
              refine .inr ⟨okJ.go i H2 hlt eB, fun H' => ∃ e3 done acc fps rest, Stt X.K P O (β.up B) F (A :: fps.flatten ++ G) e3 (wipe σ vs) H' ∧ Fo F G (A :: fps.flatten) H1 H' ∧ H' A = some (.lst acc) ∧
                All3 (Own X.K (hid H' (msk F (A :: fps.flatten ++ G))) H' k) done acc fps ∧ lcL vs f mt me (ds.drop (i + 1)) e3 = .ok rest e2 ∧ done ++ rest = l, ?_, fun x H3 y => ?_⟩
              · rintro H' ⟨e3, done, acc, fps, rest, q1, q2, q3, q4, q5, q6⟩
                exact ⟨ds.length - (i + 1), by omega, e3, done, acc, fps, rest, rfl, hlt, q1, q2, q3, q4, q5, q6⟩
              · have o := okJ.yld i H2 x H3 eB y ds[i] (List.getElem?_eq_getElem hlt) (hid H2 (msk F (A :: fps.flatten ++ G))) S2.base hid_le
                have S3 := S2.ext o.ex
                refine (hg X.s_0 H A [] []).run (β.up B) F _ e3 e4 (wipe σ vs) H3 _ x _ S3 (o.rp S2) hf fun σ4 S4 w4 => ⟨?_, ?_⟩
                · have ww : ∀ us : List Nat, (∀ i ∈ us, i ∈ vs) → wipe (wipe σ vs) us = wipe σ vs := by
                    intro us
                    induction us with
                    | nil => exact fun _ => rfl
                    | cons u us ih =>
                      intro hu
                      show (wipe (wipe σ vs) us).set u none = wipe σ vs
                      rw [ih fun i m => hu i (List.mem_cons_of_mem _ m)]
                      have hm := hu u List.mem_cons_self
                      clear ih hu
                      have e : ∀ ws : List Nat, u ∈ ws → (wipe σ ws).set u none = wipe σ ws := by
                        intro ws
                        induction ws with
                        | nil => intro h; cases h
                        | cons t ws ih =>
                          intro h
                          show ((wipe σ ws).set t none).set u none = (wipe σ ws).set t none
                          by_cases htu : t = u
                          · subst htu
                            rw [List.set_set]
                          · rw [List.set_comm _ _ htu, ih (by
                              rcases List.mem_cons.mp h with h | h
                              · exact absurd h.symm htu
                              · exact h)]
                      exact e vs hm
                  rw [w4 vs hI, ww vs fun _ m => m]
                · -- the test, then the item
                  have wv : wipe σ4 vs = wipe σ vs := by
                    rw [w4 vs hI]
                    have := w4 vs hI
                    have ww : ∀ us : List Nat, (∀ i ∈ us, i ∈ vs) → wipe (wipe σ vs) us = wipe σ vs := by
                      intro us
                      induction us with
                      | nil => exact fun _ => rfl
                      | cons u us ih =>
                        intro hu
                        show (wipe (wipe σ vs) us).set u none = wipe σ vs
                        rw [ih fun i m => hu i (List.mem_cons_of_mem _ m)]
                        have hm := hu u List.mem_cons_self
                        clear ih hu
                        have e : ∀ ws : List Nat, u ∈ ws → (wipe σ ws).set u none = wipe σ ws := by
                          intro ws
                          induction ws with
                          | nil => intro h; cases h
                          | cons t ws ih =>
                            intro h
                            show ((wipe σ ws).set t none).set u none = (wipe σ ws).set t none
                            by_cases htu : t = u
                            · subst htu
                              rw [List.set_set]
                            · rw [List.set_comm _ _ htu, ih (by
                                rcases List.mem_cons.mp h with h | h
                                · exact absurd h.symm htu
                                · exact h)]
                        exact e vs hm
                    exact ww vs fun _ m => m
                  have fo : ∀ {fps : List (List Addr)} {Ha Hb : Hp}, Fo F G (A :: fps.flatten) H1 Ha → Fw F (A :: fps.flatten ++ G) Ha Hb → Fo F G (A :: fps.flatten) H1 Hb := fun a c => ⟨a.ex.trn c.ex, fun t m => (c.gs t (List.mem_append_right _ m)).trans (a.gs t m)⟩
                  have x3 : Fw F (A :: fps.flatten ++ G) H2 H3 := Fw.of S2 o.ex
                  have frm : ∀ {Ha Hb : Hp}, Fw F (A :: fps.flatten ++ G) Ha Hb → All3 (Own X.K (hid Ha (msk F (A :: fps.flatten ++ G))) Ha k) done acc fps → All3 (Own X.K (hid Hb (msk F (A :: fps.flatten ++ G))) Hb k) done acc fps := fun {Ha Hb} c h =>
                    h.imp fun d x ff m h => h.frame c.ex _ fun t mt => c.gs t (List.mem_append_left _ (List.mem_cons_of_mem _ (mem_flat_of m mt)))
                  have atA : ∀ {Ha Hb : Hp}, Fw F (A :: fps.flatten ++ G) Ha Hb → Ha A = some (.lst acc) → Hb A = some (.lst acc) := fun c h => by
                    rw [c.gs A (List.mem_append_left _ List.mem_cons_self)]; exact h
                  refine ⟨β.up B, F, _, e4, S4, ?_⟩
                  cases q1 : mt e4 with
                  | bad => rw [q1] at el2; cases el2
                  | exc c x e => rw [q1] at el2; cases el2
                  | ok cc e5 =>
                    rw [q1] at el2
                    have el2 : (match (generalizing := false) cc with
                      | .bl true => (me e5).nox.bind fun y e3 => (lcL vs f mt me (ds.drop (i + 1)) (wpE e3 vs)).bind fun l e4 => .ok (y :: l) e4
                      | .bl false => lcL vs f mt me (ds.drop (i + 1)) (wpE e5 vs)
                      | _ => .bad) = Rs.ok rest e2 := el2
                    intro H5 S5 x5 p5
                    have x25 := x3.trn x5
                    split at el2
                    · refine ⟨true, rfl, ?_⟩
                      refine iteT ?_
                      refine ⟨β.up B, F, _, e5, S5, ?_⟩
                      cases q2 : me e5 with
                      | bad => rw [q2] at el2; cases el2
                      | exc c x e => rw [q2] at el2; cases el2
                      | ok y0 e6 =>
                        rw [q2] at el2
                        have el2 : ((lcL vs f mt me (ds.drop (i + 1)) (wpE e6 vs)).bind fun l e4 => .ok (y0 :: l) e4) = Rs.ok rest e2 := el2
                        intro yv H6 fp S6 x6 p6 o6
                        cases q3 : lcL vs f mt me (ds.drop (i + 1)) (wpE e6 vs) with
                        | bad => rw [q3] at el2; cases el2
                        | exc c x e => rw [q3] at el2; cases el2
                        | ok rest' e7 =>
                          rw [q3] at el2
                          cases el2
                          have hAR : A ∉ (β.up B).R := fun m => S1.fresh hA (List.mem_append_right _ (S1.rr A m).1)
                          have hA6 : H6 A = some (.lst acc) := by
                            rw [x6.gs A (List.mem_append_left _ List.mem_cons_self)]
                            exact atA x25 hA2
                          have lacc : acc.length = done.length := own2.len.1
                          refine ⟨acc, hA6, ?_, ?_⟩
                          · rw [lacc]
                            refine lim_lt ?_
                            have : done.length + (y0 :: rest').length ≤ lim := by rw [← List.length_append, hl2]; exact hlen
                            simp at this
                            omega
                          · have pm : (fp ++ (A :: fps.flatten ++ G)).Perm (A :: (fps ++ [fp]).flatten ++ G) := by
                              rw [List.flatten_append]
                              show (fp ++ (A :: (fps.flatten ++ G))).Perm (A :: ((fps.flatten ++ [fp].flatten) ++ G))
                              refine List.perm_middle.trans (List.Perm.cons A ?_)
                              rw [List.flatten_cons, List.flatten_nil, List.append_nil, ← List.append_assoc]
                              exact List.perm_append_comm.append_right G
                            have S6' := S6.perm pm
                            have hAm : A ∈ A :: (fps ++ [fp]).flatten ++ G := List.mem_append_left _ List.mem_cons_self
                            have hh : hid (upd H6 A (.lst (acc ++ [yv]))) (msk F (A :: (fps ++ [fp]).flatten ++ G)) = hid H6 (msk F (A :: (fps ++ [fp]).flatten ++ G)) := hid_updG hAm
                            have hp2 : hid H6 (msk F (fp ++ (A :: fps.flatten ++ G))) = hid H6 (msk F (A :: (fps ++ [fp]).flatten ++ G)) := hid_perm pm
                            have nd6 := (List.nodup_append.mp S6.nd).2.1
                            have nAfp : A ∉ fp := fun m => (List.nodup_append.mp nd6).2.2 A m A (List.mem_append_left _ List.mem_cons_self) rfl
                            have nAfps : A ∉ fps.flatten := fun m => by
                              have h := (List.nodup_append.mp nd6).2.1
                              exact (List.nodup_cons.mp h).1 (List.mem_append_left _ m)
                            refine ⟨wpE e6 vs, done ++ [y0], acc ++ [yv], fps ++ [fp], rest', ?_, ?_, upd_same, ?_, q3, by rw [List.append_assoc]; exact hl2⟩
                            · have h := Stt.wipe vs hP (S6'.updG (o := .lst (acc ++ [yv])) hAm hAR)
                              rw [wv] at h
                              exact h
                            · refine ⟨?_, fun t m => ?_⟩
                              · show Ex _ (hid (upd H6 A (.lst (acc ++ [yv]))) (msk F (A :: (fps ++ [fp]).flatten ++ G)))
                                rw [hh, ← hp2]
                                exact (x2.ex.trn x25.ex).trn x6.ex
                              · have nt : t ≠ A := fun z => by
                                  subst z
                                  have h := (List.nodup_append.mp nd6).2.1
                                  exact (List.nodup_cons.mp h).1 (List.mem_append_right _ m)
                                rw [upd_ne nt, x6.gs t (List.mem_append_right _ m), x25.gs t (List.mem_append_right _ m), x2.gs t m]
                            · rw [hh]
                              refine All3.snoc ?_ ?_
                              · refine (frm x25 own2).imp fun d x ff m h => h.frame (by rw [← hp2]; exact x6.ex) _ fun t mt => ?_
                                have nt : t ≠ A := fun z => nAfps (by rw [← z]; exact mem_flat_of m mt)
                                rw [upd_ne nt]
                                exact x6.gs t (List.mem_append_left _ (List.mem_cons_of_mem _ (mem_flat_of m mt)))
                              · rw [← hp2]
                                exact o6.frame (Ex.rfl' _) _ fun t mt => upd_ne fun z => nAfp (z ▸ mt)
                    · refine ⟨false, rfl, ?_⟩
                      refine iteF ?_
                      refine ⟨wpE e5 vs, done, acc, fps, rest, ?_, fo x2 x25, atA x25 hA2, frm x25 own2, el2, hl2⟩
                      have h := Stt.wipe vs hP S5
                      rw [wv] at h
                      exact h
                    · cases el2
          · have e : i = ds.length := by omega
            subst e
            rw [List.drop_length] at el2
            cases el2
            rw [List.append_nil] at hl2
            subst hl2
            refine .inl ⟨okJ.stop H2 eB, ?_⟩
            have Sf : Stt X.K P O β F (A :: fps.flatten ++ G) (rstE e1 e2 vs) σ H2 := Stt.rst S1 (S2.fall S1.base) x2.ex hO hP
            refine z (.ref A) H2 (A :: fps.flatten) Sf (x1.tro x2) (fun z => by cases z) ⟨A, acc, fps, rfl, rfl, .inl ⟨_, rfl, hA2, own2⟩⟩
      · exact z.elim
theorem mo_lc {vs : List Nat} (hc : X.calm = true) (hN : X.N.Nodup) (ok : BlkOk X.N X.env.scope scope own) (hi : MI X P O W b tg iter src)
    (hg : ∀ s H C cl fp, MG (XB X scope s H C cl fp) P O is tg g f) (ht : ∀ s H C cl fp, MTs (XB X scope s H C cl fp) P O b1 ifs mt) (he : ∀ s H C cl fp, MO (XB X scope s H C cl fp) P O W0 k b2 elt me)
    (hw : okOwn P O vs is = true := by rfl) (hs : ∀ x, foldedSetIterable iter X.env x = pure x := by intro _; rfl) (hvs : own.map (·.2) = vs := by rfl) :
    MO X P O W (k + 1) false (.ListComp elt [⟨tg, iter, ifs, 0⟩] scope pos) (mLc vs f mt me src) := by
  subst hvs
  obtain ⟨w, q1, q2, q3, q4⟩ := lc_sem (own := own) hi hg ht he hw
  exact ⟨_, pe_lc hc hN q1 ok (fun s H C cl fp => (hg s H C cl fp).pg) q2 q3 hs, q4⟩
/-- y = [..], y a plain local name -/
theorem ms_lc {vs : List Nat} {c : Fc} {Ol O' : List Nat} {i : Nat} {y : Str} {py spos : Pos} (hc : X.calm = true) (hN : X.N.Nodup) (ok : BlkOk X.N X.env.scope scope own) (hi : MI X c.P O c.W b tg iter src)
    (hg : ∀ s H C cl fp, MG (XB X scope s H C cl fp) c.P O is tg g f) (ht : ∀ s H C cl fp, MTs (XB X scope s H C cl fp) c.P O b1 ifs mt) (he : ∀ s H C cl fp, MO (XB X scope s H C cl fp) c.P O W0 k b2 elt me)
    (hO : O' = O.set i (k + 1) := by rfl) (hw : okOwn c.P O vs is = true := by rfl) (hii : (decide (i < O.length) && !c.P.contains i) = true := by rfl) (hy : X.N[i]? = some y := by rfl) (hyl : X.env.scope.names.lookup y = some .local := by rfl)
    (hsw : swapsWith (.ListComp elt [⟨tg, iter, ifs, 0⟩] scope pos) (some (.Name y py)) spos.line X.env = pure true := by exact sw_true rfl rfl rfl (by decide +kernel)) (hs : ∀ x, foldedSetIterable iter X.env x = pure x := by intro _; rfl) (hvs : own.map (·.2) = vs := by rfl) :
    MS X c Ol O O' (.Assign [.Name y py] (.ListComp elt [⟨tg, iter, ifs, 0⟩] scope pos) spos) (sSet i (mLc vs f mt me src)) := by
  subst hvs
  obtain ⟨w, q1, q2, q3, q4⟩ := lc_sem (own := own) hi hg ht he hw
  rw [Bool.and_eq_true] at hii
  subst hO
  refine ⟨_, ps_setLc hc hN hy hyl hsw q1 ok (fun s H C cl fp => (hg s H C cl fp).pg) q2 q3 hs, fun β F G env σ H Dn S z => q4 β F G env σ H _ S (z.bindO fun d e1 v H1 fp S1 o q => ?_)⟩
  exact q _ H1 _ (Stt.store (fp := fp) S1 (fun a m => (S.rr a m).1) (ltO S1 (of_decide_eq_true hii.1)) (by simpa using hii.2) o)
end
end M3

/-! MF -/
set_option Elab.async false
set_option linter.all false
set_option maxRecDepth 100000
set_option maxHeartbeats 4000000
namespace M3
open PySem PySem.Spec PyProof.Rows L2

/-- what a def comes to: its answer and its slots behind, or an exception -/
inductive FRs where
  | ok (d : D) (e : Sl)
  | exc (c : Addr) (x : D)
  | bad
abbrev Fn := List D → FRs
def toF (r : Nat) : SRs → FRs
  | .rt d e => .ok d e
  | .nx e => if r = 0 then .ok .non e else .bad
  | .exc c x _ => .exc c x
  | _ => .bad
def mFn (r nl np : Nat) (m : MSt) : Fn := fun ds => toF r (m (ds.map some ++ List.replicate (nl - np) none))
/-- what a def promises, by its mirror: R what the caller keeps hidden -/
def spM (K : Fg) (P J : List Nat) (r np : Nat) (m : Fn) : Sp := fun vs H Q E =>
  ∃ (ds : List D) (F : List (List Addr)) (R : List Addr), vs.length = np ∧ ds.length = np ∧ F.length = np ∧ (msk F R).Nodup ∧ (∀ a ∈ R, ∃ o, H a = some o) ∧
    (∀ i, i < np → ∃ d v, ds[i]? = some d ∧ vs[i]? = some v ∧ Own K (hid H (msk F R)) H (J.getD i 0) d v (F.getD i [])) ∧
    match m ds with
    | .ok d e => ∀ v H' fp, (msk F (fp ++ R)).Nodup → Ex (hid H (msk F R)) (hid H' (msk F (fp ++ R))) → (∀ a ∈ R, H' a = H a) → Own K (hid H' (msk F (fp ++ R))) H' r d v fp →
        (∀ i ∈ P, ∀ d' w, e[i]? = some (some d') → vs[i]? = some w → Own K (hid H' (msk F (fp ++ R))) H' (J.getD i 0) d' w (F.getD i [])) → Q v H'
    | .exc c x => ∀ dx v H', Ex (hid H (msk F R)) (hid H' (msk F R)) → (∀ a ∈ R, H' a = H a) → H' dx = some (.xd [("value", v)]) → Rp K (hid H' (msk F R)) x v → E (.ref c) (some dx) H'
    | .bad => False

theorem getD_lt {α : Type} {l : List α} {i : Nat} {d a : α} (h : l[i]? = some a) : l.getD i d = a := by
  rw [List.getD_eq_getElem?_getD, h]; rfl
theorem rep_none {n : Nat} : ∀ {i : Nat} {o : Option D}, (List.replicate n (none : Option D))[i]? = some o → o = none := fun {i o} h => by
  have := List.mem_of_getElem? h
  exact (List.mem_replicate.mp this).2

section
variable {Pg : Program} {w : World} {K : PySem.W.Frag} {mg : Str → Option Value} {base : Heap}
theorem fn_ok {x qual : Str} {st : Stmt} {f : Addr} {fd : FuncData} {N ps : List Str} {k : Nat} (P O O' : List Nat) (r np : Nat) {mb : MSt} (F0 : Fun K x qual st f fd) (S : FnScope N ps (defScope st))
    (hb : ∀ (cdv : Value) (A : Around) (outer : List Env) (s : Shared) (H : Hp) (E : XK), Room k (A.deeper (envOfC qual (defScope st) s.heap.objs.size f cdv)) →
      MSs (cxOf (L2.CX Pg w) Pg w K mg base N qual (defScope st) f cdv A outer s H E) ⟨P, O, fun cls d _ H => E cls d H, r⟩ [] O O' (defBody st) mb)
    (hnp : ps.length = np := by rfl) (hO : O.length = N.length := by rfl) (hP : (P.all fun i => decide (i < np)) = true := by rfl) (hz : ((List.range O.length).all fun i => P.contains i || O.getD i 0 == 0) = true := by rfl) (hJ : okJ P O' O = true := by rfl) :
    FnOk Pg w K mg base (L2.CX Pg w) (k + 1) f fd ps (spM K P O r np (mFn r N.length np mb)) := by
  refine F0.okX S (fun vs H Q E h => ?_) (fun cdv A outer s H vs Q E hr h => ?_)
  · obtain ⟨ds, F, R, h1, _⟩ := h
    rw [h1, hnp]
  · obtain ⟨ds, F, R, h1, h2, h3, nd, pr, hown, hm⟩ := h
    obtain ⟨t, pt, hb⟩ := (hb cdv A outer s H E hr).run
    refine ⟨t, pt, ?_⟩
    have hle : np ≤ N.length := by
      have := congrArg List.length S.pre
      rw [List.length_take, hnp] at this
      omega
    have flat : (F ++ List.replicate (N.length - np) []).flatten = F.flatten := by
      rw [List.flatten_append]
      have : ∀ n : Nat, (List.replicate n ([] : List Addr)).flatten = [] := fun n => by
        induction n with
        | zero => rfl
        | succ n ih => rw [List.replicate_succ, List.flatten_cons, ih]; rfl
      rw [this, List.append_nil]
    have mk : ∀ G, msk (F ++ List.replicate (N.length - np) []) G = msk F G := fun G => by
      show (F ++ List.replicate (N.length - np) []).flatten ++ G = _
      rw [flat]
    have Fg : ∀ i, i < np → (F ++ List.replicate (N.length - np) []).getD i [] = F.getD i [] := fun i hi => by
      rw [List.getD_eq_getElem?_getD, List.getElem?_append_left (by omega), List.getD_eq_getElem?_getD]
    have Fz : ∀ i, np ≤ i → (F ++ List.replicate (N.length - np) []).getD i [] = [] := fun i hi => by
      rw [List.getD_eq_getElem?_getD, List.getElem?_append_right (by omega)]
      cases q : (List.replicate (N.length - np) ([] : List Addr))[i - F.length]? with
      | none => rfl
      | some o => rw [(List.mem_replicate.mp (List.mem_of_getElem? q)).2]; rfl
    let β : Bc := ⟨hid H (msk F R), fun i => vs.getD i .non, fun i => F.getD i [], R, H⟩
    have hPi : ∀ i ∈ P, i < np := fun i m => of_decide_eq_true ((List.all_eq_true.mp hP) i m)
    have S0 : Stt K P O β (F ++ List.replicate (N.length - np) []) R (ds.map some ++ List.replicate (N.length - np) none) (L2.start N vs) H := by
      refine ⟨?_, ?_, ?_, by rw [mk]; exact nd, fun a m => ?_, by rw [mk]; exact Ex.rfl' _, fun i d hd => ?_, fun i hi => ?_, fun i hi => ?_, fun a m => ⟨m, rfl⟩⟩
      · unfold L2.start
        simp [h1, h2]
      · rw [List.length_append, List.length_map, List.length_replicate, h2, hO]; omega
      · rw [List.length_append, List.length_append, List.length_map, List.length_replicate, List.length_replicate, h2, h3]
      · rw [mk] at m
        rcases List.mem_append.mp m with m | m
        · obtain ⟨g, hg, ha⟩ := List.mem_flatten.mp m
          obtain ⟨i, hi⟩ := List.mem_iff_getElem?.mp hg
          have hi' : i < np := by rw [← h3]; exact (List.getElem?_eq_some_iff.mp hi).1
          obtain ⟨d, v, _, _, o⟩ := hown i hi'
          exact o.pres _ a (by rw [getD_lt hi]; exact ha)
        · exact pr a m
      · by_cases hi : i < np
        · obtain ⟨d', v, e1, e2, o⟩ := hown i hi
          rw [List.getElem?_append_left (by rw [List.length_map]; omega), List.getElem?_map, e1] at hd
          cases hd
          refine ⟨v, ?_, by rw [Fg i hi, mk]; exact o⟩
          unfold L2.start
          rw [List.getElem?_append_left (by rw [List.length_map]; omega), List.getElem?_map, e2]; rfl
        · rw [List.getElem?_append_right (by rw [List.length_map]; omega)] at hd
          have := rep_none hd
          cases this
      · have hi' := hPi i hi
        obtain ⟨d', v, e1, e2, o⟩ := hown i hi'
        refine ⟨?_, Fg i hi'⟩
        unfold L2.start
        rw [List.getElem?_append_left (by rw [List.length_map]; omega), List.getElem?_map, e2]
        show some (some v) = some (some (vs.getD i .non))
        rw [getD_lt e2]
      · by_cases h' : i < np
        · obtain ⟨d', v, e1, e2, o⟩ := hown i h'
          rw [hi] at o
          rw [Fg i h']
          exact o.1
        · exact Fz i (by omega)
    refine hb β _ R _ _ H _ S0 ?_
    have e0 : mFn r N.length np mb ds = toF r (mb (ds.map some ++ List.replicate (N.length - np) none)) := rfl
    rw [e0] at hm
    -- the owned arguments are the pinned ones
    have own0 : ∀ i, i < np → i ∉ P → F.getD i [] = [] := fun i hi hp => by
      obtain ⟨d, v, _, _, o⟩ := hown i hi
      have h := (List.all_eq_true.mp hz) i (List.mem_range.mpr (by omega))
      rw [Bool.or_eq_true] at h
      rcases h with h | h
      · exact absurd (by simpa using h) hp
      · rw [show O.getD i 0 = 0 by simpa using h] at o
        exact o.1
    have inF : ∀ {F' : List (List Addr)}, (∀ i ∈ P, ∀ a ∈ F.getD i [], a ∈ F'.flatten) → ∀ b ∈ F.flatten, b ∈ F'.flatten := fun {F'} hF b m => by
      obtain ⟨g, hg, hb'⟩ := List.mem_flatten.mp m
      obtain ⟨i, hi⟩ := List.mem_iff_getElem?.mp hg
      have hi' : i < np := by rw [← h3]; exact (List.getElem?_eq_some_iff.mp hi).1
      have hb'' : b ∈ F.getD i [] := by rw [getD_lt hi]; exact hb'
      by_cases hp : i ∈ P
      · exact hF i hp b hb''
      · rw [own0 i hi' hp] at hb''; cases hb''
    have inM : ∀ {F' : List (List Addr)} {G : List Addr}, (∀ i ∈ P, ∀ a ∈ F.getD i [], a ∈ F'.flatten) → ∀ b ∈ msk F G, b ∈ msk F' G := fun {F' G} hF b m => by
      rcases List.mem_append.mp m with m | m
      · exact List.mem_append_left _ (inF hF b m)
      · exact List.mem_append_right _ m
    cases hr' : mb (ds.map some ++ List.replicate (N.length - np) none) with
    | bad => rw [hr'] at hm; exact hm
    | bk e => rw [hr'] at hm; exact hm.elim
    | ct e => rw [hr'] at hm; exact hm.elim
    | exc a x e =>
      rw [hr'] at hm
      refine fun dx v σ' H' O2 F' S' hd hx => ?_
      have hF : ∀ i ∈ P, ∀ a ∈ F.getD i [], a ∈ F'.flatten := fun i hi a m => by
        refine getD_mem_flat (i := i) ?_
        rw [(S'.pin i hi).2]; exact m
      have e1 : Ex (hid H' (msk F' R)) (hid H' (msk F R)) := hid_sub (inM hF)
      exact hm dx v H' (S'.base.trn e1) (fun b m => (S'.rr b m).2) hd (Rp.ex e1 x hx)
    | nx e =>
      rw [hr'] at hm
      unfold toF at hm
      by_cases h0 : r = 0
      · simp only [h0, if_true] at hm
        refine fun σ' H' F' S' => ?_
        have hF : ∀ i ∈ P, ∀ a ∈ F.getD i [], a ∈ F'.flatten := fun i hi a m => by
          refine getD_mem_flat (i := i) ?_
          rw [(S'.pin i hi).2]; exact m
        have e1 : Ex (hid H' (msk F' R)) (hid H' (msk F R)) := hid_sub (inM hF)
        refine hm .non H' [] nd (S'.base.trn e1) (fun b m => (S'.rr b m).2) ⟨rfl, rfl⟩ fun i hi d' u hd hu => ?_
        have h := S'.io hJ hi hd
        rw [show β.pv i = u from getD_lt hu] at h
        exact h.frame e1 _ fun _ _ => rfl
      · simp only [h0, if_false] at hm
    | rt d e =>
      rw [hr'] at hm
      refine fun v H' fp F' R' => ?_
      have hF : ∀ i ∈ P, ∀ a ∈ F.getD i [], a ∈ F'.flatten := R'.pf
      have e1 : Ex (hid H' (msk F' (fp ++ R))) (hid H' (msk F (fp ++ R))) := hid_sub (inM hF)
      refine hm v H' fp ?_ (R'.base.trn e1) R'.rr (R'.own.frame e1 _ fun _ _ => rfl) fun i hi d' u hd hu => ?_
      · have n1 := (List.nodup_append.mp nd).1
        have n2 := List.nodup_append.mp R'.nd
        refine List.nodup_append.mpr ⟨n1, n2.2.1, fun a ma b mb => n2.2.2 a (inF hF a ma) b mb⟩
      · have h := R'.io i hi d' hd
        rw [show β.pv i = u from getD_lt hu] at h
        exact h.frame e1 _ fun _ _ => rfl
end

/-! ### calls -/
/-- an argument list: what is shared is evaluated, an owned local is handed in as it stands -/
def AgI (K : Fg) (Hm : Hp) (σ : L2.St) : List (Option Nat) → List D → List V → Prop
  | [], [], [] => True
  | none :: io, d :: ds, v :: vs => Rp K Hm d v ∧ AgI K Hm σ io ds vs
  | some i :: io, _ :: ds, v :: vs => σ[i]? = some (some v) ∧ AgI K Hm σ io ds vs
  | _, _, _ => False
structure MAI (X : Cx) (P O : List Nat) (W : WX) (b : Bool) (io : List (Option Nat)) (es : List Expr) (m : Mi (List D)) : Prop where
  run : ∃ t, PA X es t ∧ ∀ β F G env σ H Q, Stt X.K P O β F G env σ H →
    Pst X P O W β F G σ H b env (fun ds H' => ∀ vs, AgI X.K (hid H' (msk F G)) σ io ds vs → Q vs H') (m env) → t σ H Q
def mHole (i : Nat) : M := fun e => match e[i]? with | some (some _) => .ok .non e | _ => .bad
theorem AgI.ex {K : Fg} {Hm Hm' : Hp} {σ : L2.St} (e : Ex Hm Hm') : ∀ {io : List (Option Nat)} {ds : List D} {vs : List V}, AgI K Hm σ io ds vs → AgI K Hm' σ io ds vs
  | [], [], [], _ => trivial
  | none :: io, d :: ds, v :: vs, ⟨h1, h2⟩ => ⟨Rp.ex e d h1, AgI.ex e h2⟩
  | some i :: io, _ :: ds, v :: vs, ⟨h1, h2⟩ => ⟨h1, AgI.ex e h2⟩
  | [], _ :: _, _, h => h.elim
  | [], [], _ :: _, h => h.elim
  | none :: _, [], _, h => h.elim
  | none :: _, _ :: _, [], h => h.elim
  | some _ :: _, [], _, h => h.elim
  | some _ :: _, _ :: _, [], h => h.elim
section
variable {X : Cx} {P O : List Nat} {W : WX} {b b1 b2 : Bool} {a e : Expr} {es : List Expr} {ma : M} {ms : Mi (List D)} {io : List (Option Nat)} {pos p : Pos}
theorem mai_nil : MAI X P O W true [] [] mNil := ⟨_, pa_nil, fun β F G env σ H Q S p => p.here S [] trivial⟩
theorem mai_cons (ha : ME X P O W 0 b1 a ma) (hr : MAI X P O W b2 io es ms) (hs : starEach (a :: es) X.env = (false, eval a X.env) :: starEach es X.env := by rfl) : MAI X P O W (b1 && b2) (none :: io) (a :: es) (mCons ma ms) := by
  obtain ⟨ta, pa, ha⟩ := ha.run
  obtain ⟨tr, pr, hr⟩ := hr.run
  refine ⟨_, pa_cons pa pr hs, fun β F G env σ H Q S p => ?_⟩
  refine ha β F G env σ H _ S (p.bind fun d1 env1 H1 S1 x1 p1 q v1 r1 => ?_)
  refine hr β F G env1 σ H1 _ S1 (q.bindL fun ds env2 H2 S2 x2 p2 q2 vs r2 => ?_)
  exact q2.here S2 (v1 :: vs) ⟨Rp.ex x2.ex d1 r1, r2⟩
theorem mai_io (i : Nat) {x : Str} (hr : MAI X P O W b2 io es ms) (hN : X.N[i]? = some x := by rfl) (hv : Vis X.env.scope x := by first | exact Or.inl rfl | exact Or.inr (Or.inl rfl) | exact Or.inr (Or.inr rfl)) (hd : (x == ("__debug__" : Str)) = false := by decide)
    (hcd : (x == ("__classdict__" : Str)) = false := by decide) (hs : starEach (.Name x p :: es) X.env = (false, eval (.Name x p) X.env) :: starEach es X.env := by rfl) : MAI X P O W b2 (some i :: io) (.Name x p :: es) (mCons (mHole i) ms) := by
  obtain ⟨tr, pr, hr⟩ := hr.run
  refine ⟨_, pa_cons (pe_var hN hv hd hcd) pr hs, fun β F G env σ H Q S p => ?_⟩
  cases q : env[i]? with
  | none =>
    have : mCons (mHole i) ms env = .bad := by unfold mCons mHole; rw [q]; rfl
    rw [this] at p; exact p.elim
  | some o =>
    cases o with
    | none =>
      have : mCons (mHole i) ms env = .bad := by unfold mCons mHole; rw [q]; rfl
      rw [this] at p; exact p.elim
    | some d =>
      have e : mCons (mHole i) ms env = (ms env).bind fun xs e2 => .ok (D.non :: xs) e2 := by unfold mCons mHole; rw [q]; rfl
      rw [e] at p
      obtain ⟨v, h1, h2⟩ := S.slot i d q
      refine ⟨v, h1, hr β F G env σ H _ S (p.bindL fun ds env2 H2 S2 x2 p2 q2 vs r2 => ?_)⟩
      exact q2.here S2 (v :: vs) ⟨h1, r2⟩
/-- the arguments' data, the owned ones read when all are evaluated -/
def fillIO (e : Sl) : List (Option Nat) → List D → Option (List D)
  | [], [] => some []
  | none :: io, d :: ds => (fillIO e io ds).map (d :: ·)
  | some i :: io, _ :: ds => match e[i]? with | some (some d) => (fillIO e io ds).map (d :: ·) | _ => none
  | _, _ => none
/-- the owned arguments' slots behind the call -/
def putIO (ios : Sl) : List (Option Nat) → Nat → Sl → Option Sl
  | [], _, e => some e
  | none :: io, k, e => putIO ios io (k + 1) e
  | some i :: io, k, e => match ios[k]? with | some (some d) => putIO ios io (k + 1) (e.set i (some d)) | _ => none
def mCall (m : Fn) (io : List (Option Nat)) (dd : List D) (ms : Mi (List D)) : M := fun e => (ms e).bind fun ds e1 => match fillIO e1 io ds with
  | none => .bad
  | some as => match m (as ++ dd) with
    | .ok d ios => (match putIO ios io 0 e1 with | some e2 => .ok d e2 | none => .bad)
    | .exc c x => if io.all Option.isNone then .exc c x e1 else .bad
    | .bad => .bad
end
end M3

/-! MK -/
set_option Elab.async false
set_option linter.all false
set_option maxRecDepth 100000
set_option maxHeartbeats 4000000
namespace M3
open PySem PySem.Spec PyProof.Rows L2

def ioS : List (Option Nat) → List Nat
  | [] => []
  | none :: l => ioS l
  | some i :: l => i :: ioS l
theorem mem_ioS : ∀ {io : List (Option Nat)} {m i : Nat}, io[m]? = some (some i) → i ∈ ioS io
  | [], m, i, h => by simp at h
  | none :: l, 0, i, h => by simp at h
  | some j :: l, 0, i, h => by
    have e : j = i := by simpa using h
    subst e
    exact List.mem_cons_self
  | none :: l, m + 1, i, h => mem_ioS (io := l) (m := m) (by simpa using h)
  | some j :: l, m + 1, i, h => List.mem_cons_of_mem _ (mem_ioS (io := l) (m := m) (by simpa using h))
def okC (O P' J' : List Nat) (np nd : Nat) (io : List (Option Nat)) : Bool :=
  ((List.range np).all fun m => match io[m]? with
    | some (some i) => P'.contains m && (J'.getD m 0 == O.getD i 0)
    | _ => !P'.contains m && (J'.getD m 0 == 0)) && (decide (ioS io).Nodup && (io.length + nd == np))
theorem okC_some {O P' J' : List Nat} {np nd : Nat} {io : List (Option Nat)} (h : okC O P' J' np nd io = true) {m i : Nat} (hm : m < np) (e : io[m]? = some (some i)) : m ∈ P' ∧ J'.getD m 0 = O.getD i 0 := by
  unfold okC at h
  rw [Bool.and_eq_true] at h
  have q := (List.all_eq_true.mp h.1) m (List.mem_range.mpr hm)
  rw [e] at q
  simpa using q
theorem okC_none {O P' J' : List Nat} {np nd : Nat} {io : List (Option Nat)} (h : okC O P' J' np nd io = true) {m : Nat} (hm : m < np) (e : ∀ i, io[m]? ≠ some (some i)) : m ∉ P' ∧ J'.getD m 0 = 0 := by
  unfold okC at h
  rw [Bool.and_eq_true] at h
  have q := (List.all_eq_true.mp h.1) m (List.mem_range.mpr hm)
  split at q
  · exact absurd (by assumption) (e _)
  · simpa using q
theorem okC_nd {O P' J' : List Nat} {np nd : Nat} {io : List (Option Nat)} (h : okC O P' J' np nd io = true) : (ioS io).Nodup ∧ io.length + nd = np := by
  unfold okC at h
  rw [Bool.and_eq_true, Bool.and_eq_true] at h
  exact ⟨of_decide_eq_true h.2.1, by simpa using h.2.2⟩
/-- the callee's footprints -/
def fIO (F : List (List Addr)) (io : List (Option Nat)) : List (List Addr) := io.map fun o => match o with | some i => F.getD i [] | none => []
theorem io_uniq : ∀ {io : List (Option Nat)} {m m' i : Nat}, (ioS io).Nodup → io[m]? = some (some i) → io[m']? = some (some i) → m = m'
  | [], m, m', i, _, h, _ => by simp at h
  | o :: io, 0, 0, i, _, _, _ => rfl
  | o :: io, 0, m' + 1, i, n, h, h' => by
    have e : o = some i := by simpa using h
    subst e
    have h' : io[m']? = some (some i) := by simpa using h'
    exact absurd (mem_ioS h') (List.nodup_cons.mp n).1
  | o :: io, m + 1, 0, i, n, h, h' => by
    have e : o = some i := by simpa using h'
    subst e
    have h : io[m]? = some (some i) := by simpa using h
    exact absurd (mem_ioS h) (List.nodup_cons.mp n).1
  | o :: io, m + 1, m' + 1, i, n, h, h' => by
    have n' : (ioS io).Nodup := by
      cases o with
      | none => exact n
      | some j => exact (List.nodup_cons.mp n).2
    have e := io_uniq (i := i) (m := m) (m' := m') n' (by simpa using h) (by simpa using h')
    rw [e]
theorem fIO_sub {F : List (List Addr)} {io : List (Option Nat)} {a : Addr} (h : a ∈ (fIO F io).flatten) : a ∈ F.flatten := by
  obtain ⟨g, hg, ha⟩ := List.mem_flatten.mp h
  obtain ⟨o, _, rfl⟩ := List.mem_map.mp hg
  cases o with
  | none => cases ha
  | some i => exact getD_mem_flat ha
theorem fIO_mem {F : List (List Addr)} {io : List (Option Nat)} {a : Addr} (h : a ∈ (fIO F io).flatten) : ∃ (m i : Nat), io[m]? = some (some i) ∧ a ∈ F.getD i [] := by
  obtain ⟨g, hg, ha⟩ := List.mem_flatten.mp h
  obtain ⟨o, ho, rfl⟩ := List.mem_map.mp hg
  cases o with
  | none => cases ha
  | some i =>
    obtain ⟨m, hm⟩ := List.mem_iff_getElem?.mp ho
    exact ⟨m, i, hm, ha⟩
theorem getD_nodup {F : List (List Addr)} {i : Nat} (h : F.flatten.Nodup) : (F.getD i []).Nodup := by
  rw [List.getD_eq_getElem?_getD]
  cases e : F[i]? with
  | none => exact List.Pairwise.nil
  | some f => exact h.sublist (List.sublist_flatten_of_mem (List.mem_of_getElem? e))
theorem fIO_nodup {F : List (List Addr)} (hF : F.flatten.Nodup) : ∀ {io : List (Option Nat)}, (ioS io).Nodup → (fIO F io).flatten.Nodup
  | [], _ => List.Pairwise.nil
  | none :: io, h => fIO_nodup hF (io := io) h
  | some i :: io, h => by
    obtain ⟨h1, h2⟩ := List.nodup_cons.mp (show (i :: ioS io).Nodup from h)
    show (F.getD i [] ++ (fIO F io).flatten).Nodup
    refine List.nodup_append.mpr ⟨getD_nodup hF, fIO_nodup hF h2, fun a ha b hb e => ?_⟩
    subst e
    obtain ⟨m, j, hm, hj⟩ := fIO_mem hb
    have : i = j := flat_disj hF ha hj
    subst this
    exact h1 (mem_ioS hm)
section
variable {K : Fg} {P O : List Nat} {β : Bc} {F : List (List Addr)} {G : List Addr} {e1 e2 ios : Sl} {σ : L2.St} {H H1 : Hp} {io : List (Option Nat)} {ds as : List D} {vs : List V}
theorem args_own (S : Stt K P O β F G e1 σ H1) : ∀ {io : List (Option Nat)} {ds as : List D} {vs : List V}, AgI K (hid H1 (msk F G)) σ io ds vs → fillIO e1 io ds = some as → as.length = io.length ∧ vs.length = io.length ∧
    ∀ j, j < io.length → ∃ d v, as[j]? = some d ∧ vs[j]? = some v ∧ Own K (hid H1 (msk F G)) H1 (match io[j]? with | some (some i) => O.getD i 0 | _ => 0) d v ((fIO F io).getD j [])
  | [], [], as, [], _, h => by
    cases h
    exact ⟨rfl, rfl, fun j hj => absurd hj (by simp)⟩
  | none :: io, d :: ds, as, v :: vs, ⟨r, ag⟩, h => by
    unfold fillIO at h
    cases q : fillIO e1 io ds with
    | none => rw [q] at h; cases h
    | some as' =>
      rw [q] at h
      cases h
      obtain ⟨l1, l2, f⟩ := args_own S ag q
      refine ⟨by simp [l1], by simp [l2], fun j hj => ?_⟩
      cases j with
      | zero => exact ⟨d, v, rfl, rfl, rfl, r⟩
      | succ j =>
        obtain ⟨d', v', q1, q2, q3⟩ := f j (by simpa using hj)
        exact ⟨d', v', by simpa using q1, by simpa using q2, by simpa [fIO] using q3⟩
  | some i :: io, d :: ds, as, v :: vs, ⟨r, ag⟩, h => by
    unfold fillIO at h
    cases z : e1[i]? with
    | none => rw [z] at h; cases h
    | some o =>
      cases o with
      | none => rw [z] at h; cases h
      | some di =>
        rw [z] at h
        dsimp only at h
        cases q : fillIO e1 io ds with
        | none => rw [q] at h; cases h
        | some as' =>
          rw [q] at h
          cases h
          obtain ⟨l1, l2, f⟩ := args_own S ag q
          refine ⟨by simp [l1], by simp [l2], fun j hj => ?_⟩
          cases j with
          | zero =>
            obtain ⟨v', q1, q2⟩ := S.slot i di z
            rw [r] at q1
            cases q1
            exact ⟨di, v, rfl, rfl, q2⟩
          | succ j =>
            obtain ⟨d', v', q1, q2, q3⟩ := f j (by simpa using hj)
            exact ⟨d', v', by simpa using q1, by simpa using q2, by simpa [fIO] using q3⟩
  | [], _ :: _, _, _, h, _ => h.elim
  | [], [], _, _ :: _, h, _ => h.elim
  | none :: _, [], _, _, h, _ => h.elim
  | none :: _, _ :: _, _, [], h, _ => h.elim
  | some _ :: _, [], _, _, h, _ => h.elim
  | some _ :: _, _ :: _, _, [], h, _ => h.elim
theorem putIO_get : ∀ {io : List (Option Nat)} {k : Nat} {e1 e2 : Sl}, putIO ios io k e1 = some e2 → (ioS io).Nodup → e2.length = e1.length ∧
    (∀ m i : Nat, io[m]? = some (some i) → ∃ d, ios[k + m]? = some (some d)) ∧
    ∀ (j : Nat) (d : D), e2[j]? = some (some d) → (∃ m : Nat, io[m]? = some (some j) ∧ ios[k + m]? = some (some d)) ∨ ((∀ m : Nat, io[m]? ≠ some (some j)) ∧ e1[j]? = some (some d))
  | [], k, e1, e2, h, _ => by
    cases h
    exact ⟨rfl, fun m i h => by simp at h, fun j d q => .inr ⟨fun m => by simp, q⟩⟩
  | none :: io, k, e1, e2, h, n => by
    obtain ⟨h1, h2, h3⟩ := putIO_get (io := io) (k := k + 1) (e1 := e1) h n
    refine ⟨h1, fun m i q => ?_, fun j d q => ?_⟩
    · cases m with
      | zero => simp at q
      | succ m =>
        obtain ⟨d, z⟩ := h2 m i (by simpa using q)
        exact ⟨d, by rw [show k + (m + 1) = k + 1 + m by omega]; exact z⟩
    · rcases h3 j d q with ⟨m, q1, q2⟩ | ⟨q1, q2⟩
      · exact .inl ⟨m + 1, by simpa using q1, by rw [show k + (m + 1) = k + 1 + m by omega]; exact q2⟩
      · refine .inr ⟨fun m => ?_, q2⟩
        cases m with
        | zero => simp
        | succ m => simpa using q1 m
  | some i :: io, k, e1, e2, h, n => by
    obtain ⟨n1, n2⟩ := List.nodup_cons.mp (show (i :: ioS io).Nodup from n)
    unfold putIO at h
    cases z : ios[k]? with
    | none => rw [z] at h; cases h
    | some o =>
      cases o with
      | none => rw [z] at h; cases h
      | some di =>
        rw [z] at h
        obtain ⟨h1, h2, h3⟩ := putIO_get (io := io) (k := k + 1) (e1 := e1.set i (some di)) h n2
        rw [List.length_set] at h1
        refine ⟨h1, fun m j q => ?_, fun j d q => ?_⟩
        · cases m with
          | zero => exact ⟨di, z⟩
          | succ m =>
            obtain ⟨d, z⟩ := h2 m j (by simpa using q)
            exact ⟨d, by rw [show k + (m + 1) = k + 1 + m by omega]; exact z⟩
        · rcases h3 j d q with ⟨m, q1, q2⟩ | ⟨q1, q2⟩
          · exact .inl ⟨m + 1, by simpa using q1, by rw [show k + (m + 1) = k + 1 + m by omega]; exact q2⟩
          · by_cases e : i = j
            · subst e
              by_cases hl : i < e1.length
              · rw [List.getElem?_set_self hl] at q2
                cases q2
                exact .inl ⟨0, rfl, z⟩
              · rw [List.getElem?_eq_none (by rw [List.length_set]; omega)] at q2; cases q2
            · rw [List.getElem?_set_ne e] at q2
              refine .inr ⟨fun m => ?_, q2⟩
              cases m with
              | zero => simpa using e
              | succ m => simpa using q1 m
end

section
variable {X : Cx} {P O : List Nat} {W : WX} {b : Bool} {e : Expr} {es : List Expr} {ms : Mi (List D)} {io : List (Option Nat)} {pos p : Pos} {P' J' : List Nat} {r np k : Nat} {m : Fn} {f : Addr} {fd : FuncData} {ps : List Str} {x : Str} {ds : List Value} {dvs : List V} {dd : List D}
theorem call_sem {t : TA} {E : L2.St → XK} (ha : ∀ β F G env σ H Q, Stt X.K P O β F G env σ H → Pst X P O W β F G σ H b env (fun ds H' => ∀ vs, AgI X.K (hid H' (msk F G)) σ io ds vs → Q vs H') (ms env) → t σ H Q)
    (hE : ∀ σ cls d H, W cls d σ H → E σ cls d H) (hd : ∀ H, Rps X.K H dd dvs) (hc : okC O P' J' np dd.length io = true) :
    ∀ β F G env σ H Q, Stt X.K P O β F G env σ H → PstO X P O W β F G σ H r (b && io.all Option.isNone) env Q (mCall m io dd ms env) → tCallSD (spM X.K P' J' r np m) dvs E t σ H Q := by
  intro β F G env σ H Q S z
  refine ha β F G env σ H _ S ?_
  unfold mCall at z
  cases em : ms env with
  | bad => rw [em] at z; exact z
  | exc c x e => rw [em] at z; exact z
  | ok as0 e1 =>
    rw [em] at z
    intro H1 S1 x1 p1 vs ag
    obtain ⟨nio, lio⟩ := okC_nd hc
    have z : PstO X P O W β F G σ H r (b && io.all Option.isNone) env Q (match fillIO e1 io as0 with
      | none => .bad
      | some as => match m (as ++ dd) with
        | .ok d ios => (match putIO ios io 0 e1 with | some e2 => .ok d e2 | none => .bad)
        | .exc c x => if io.all Option.isNone then .exc c x e1 else .bad
        | .bad => .bad) := z
    cases ef : fillIO e1 io as0 with
    | none => rw [ef] at z; exact z.elim
    | some as =>
      rw [ef] at z
      dsimp only at z
      obtain ⟨la, lv, hown⟩ := args_own S1 ag ef
      have ndF : F.flatten.Nodup := (List.nodup_append.mp S1.nd).1
      -- what is hidden from the callee besides its own
      let R : List Addr := (msk F G).filter fun a => decide (a ∉ (fIO F io).flatten)
      let F' : List (List Addr) := fIO F io ++ dd.map fun _ => []
      have ddf : (dd.map fun _ => ([] : List Addr)).flatten = [] := by
        have g : ∀ l : List D, (l.map fun _ => ([] : List Addr)).flatten = [] := fun l => by
          induction l with
          | nil => rfl
          | cons _ _ ih => exact ih
        exact g dd
      have fF' : F'.flatten = (fIO F io).flatten := by
        show (fIO F io ++ dd.map fun _ => []).flatten = _
        rw [List.flatten_append, ddf, List.append_nil]
      have memR : ∀ a, a ∈ R ↔ a ∈ msk F G ∧ a ∉ (fIO F io).flatten := fun a => by
        show a ∈ (msk F G).filter _ ↔ _
        rw [List.mem_filter, decide_eq_true_iff]
      have memM : ∀ a, a ∈ msk F' R ↔ a ∈ msk F G := fun a => by
        show a ∈ F'.flatten ++ R ↔ _
        rw [fF', List.mem_append, memR]
        constructor
        · rintro (h | h)
          · exact List.mem_append_left _ (fIO_sub h)
          · exact h.1
        · intro h
          by_cases k : a ∈ (fIO F io).flatten
          · exact .inl k
          · exact .inr ⟨h, k⟩
      have memMf : ∀ fp a, a ∈ msk F' (fp ++ R) ↔ a ∈ msk F (fp ++ G) := fun fp a => by
        have h1 : a ∈ msk F' (fp ++ R) ↔ a ∈ fp ∨ a ∈ msk F' R := by
          simp only [msk, List.mem_append]
          constructor
          · rintro (h | h | h)
            · exact .inr (.inl h)
            · exact .inl h
            · exact .inr (.inr h)
          · rintro (h | h | h)
            · exact .inr (.inl h)
            · exact .inl h
            · exact .inr (.inr h)
        have h2 : a ∈ msk F (fp ++ G) ↔ a ∈ fp ∨ a ∈ msk F G := by
          simp only [msk, List.mem_append]
          constructor
          · rintro (h | h | h)
            · exact .inr (.inl h)
            · exact .inl h
            · exact .inr (.inr h)
          · rintro (h | h | h)
            · exact .inr (.inl h)
            · exact .inl h
            · exact .inr (.inr h)
        rw [h1, h2, memM]
      have eM : hid H1 (msk F' R) = hid H1 (msk F G) := hid_same memM
      have lF' : F'.length = np := by
        show (fIO F io ++ dd.map fun _ => []).length = np
        rw [List.length_append, List.length_map, ← lio]
        unfold fIO
        rw [List.length_map]
      have F'l : ∀ j, j < io.length → F'.getD j [] = (fIO F io).getD j [] := fun j hj => by
        rw [List.getD_eq_getElem?_getD, List.getElem?_append_left (by unfold fIO; rw [List.length_map]; exact hj), List.getD_eq_getElem?_getD]
      have F'at : ∀ j i, io[j]? = some (some i) → F'.getD j [] = F.getD i [] := fun j i h => by
        rw [F'l j (List.getElem?_eq_some_iff.mp h).1, List.getD_eq_getElem?_getD]
        unfold fIO
        rw [List.getElem?_map, h]; rfl
      have hv : (vs ++ dvs).length = np := by
        have := (hd H1).len
        rw [List.length_append, lv, this]; exact lio
      refine ⟨as ++ dd, F', R, hv, by rw [List.length_append, la]; exact lio, lF', ?_, fun a ma => S1.pres a ((memR a).mp ma).1, fun i hi => ?_, ?_⟩
      · show (F'.flatten ++ R).Nodup
        rw [fF']
        exact List.nodup_append.mpr ⟨fIO_nodup ndF nio, S1.nd.sublist (List.filter_sublist), fun a ha c hcR e => ((memR c).mp hcR).2 (e ▸ ha)⟩
      · by_cases h : i < io.length
        · obtain ⟨d, v, q1, q2, q3⟩ := hown i h
          refine ⟨d, v, by rw [List.getElem?_append_left (by omega)]; exact q1, by rw [List.getElem?_append_left (by omega)]; exact q2, ?_⟩
          rw [F'l i h, eM]
          cases eo : io[i]? with
          | none => exact absurd (List.getElem?_eq_none_iff.mp eo) (by omega)
          | some o =>
            cases o with
            | none =>
              rw [eo] at q3
              rw [(okC_none hc hi fun j => by rw [eo]; simp).2]
              exact q3
            | some j =>
              rw [eo] at q3
              rw [(okC_some hc hi eo).2]
              exact q3
        · have hn : io[i]? = none := List.getElem?_eq_none_iff.mpr (by omega)
          have hj : i - io.length < dd.length := by omega
          obtain ⟨v, q1, q2⟩ := (hd (hid H1 (msk F' R))).get (List.getElem?_eq_getElem hj)
          refine ⟨dd[i - io.length], v, by rw [List.getElem?_append_right (by omega), la]; exact List.getElem?_eq_getElem hj, by rw [List.getElem?_append_right (by omega), lv]; exact q1, ?_⟩
          rw [(okC_none hc hi fun j => by rw [hn]; simp).2]
          refine ⟨?_, q2⟩
          rw [List.getD_eq_getElem?_getD, List.getElem?_append_right (by unfold fIO; rw [List.length_map]; omega), List.getElem?_map]
          cases dd[i - (fIO F io).length]? <;> rfl
      · cases hm : m (as ++ dd) with
        | bad => rw [hm] at z; exact z
        | exc c x =>
          rw [hm] at z
          dsimp only at z
          split at z
          · rename_i hall
            refine fun dx v H' q1 q2 q3 q4 => hE σ _ _ _ ?_
            have fe : (fIO F io).flatten = [] := by
              refine List.eq_nil_iff_forall_not_mem.mpr fun a ma => ?_
              obtain ⟨mm, i, h1, _⟩ := fIO_mem ma
              have := (List.all_eq_true.mp hall) _ (List.mem_of_getElem? h1)
              cases this
            have eM' : hid H' (msk F' R) = hid H' (msk F G) := hid_same memM
            rw [eM, eM'] at q1
            rw [eM'] at q4
            have q2' : ∀ a ∈ msk F G, H' a = H1 a := fun a ma => q2 a ((memR a).mpr ⟨ma, by rw [fe]; simp⟩)
            exact z dx v H' (S1.grow q1 q2') (x1.ex.trn q1) q3 q4
          · exact z.elim
        | ok d ios =>
          rw [hm] at z
          dsimp only at z
          cases ep : putIO ios io 0 e1 with
          | none => rw [ep] at z; exact z.elim
          | some e2 =>
            rw [ep] at z
            obtain ⟨le2, hio, hget⟩ := putIO_get ep nio
            intro v H' fp q1 q2 q3 q4 q5
            have eMf : hid H' (msk F' (fp ++ R)) = hid H' (msk F (fp ++ G)) := hid_same (memMf fp)
            rw [eM, eMf] at q2
            rw [eMf] at q4 q5
            have nfp : ∀ a ∈ fp, a ∉ msk F G := fun a ma mg => by
              rcases List.mem_append.mp ((memM a).mpr mg) with h | h
              · exact (List.nodup_append.mp q1).2.2 a h a (List.mem_append_left _ ma) rfl
              · exact (List.nodup_append.mp (List.nodup_append.mp q1).2.1).2.2 a ma a h rfl
            have notin : ∀ {j : Nat} {a : Addr}, (∀ mm, io[mm]? ≠ some (some j)) → a ∈ F.getD j [] → a ∈ R := fun {j a} hj ha => (memR a).mpr ⟨List.mem_append_left _ (getD_mem_flat ha), fun h => by
              obtain ⟨mm, i, h1, h2⟩ := fIO_mem h
              have : i = j := flat_disj ndF h2 ha
              subst this
              exact hj mm h1⟩
            have ownio : ∀ mm i, io[mm]? = some (some i) → ∃ d' w, ios[mm]? = some (some d') ∧ σ[i]? = some (some w) ∧ Own X.K (hid H' (msk F (fp ++ G))) H' (O.getD i 0) d' w (F.getD i []) := fun mm i h => by
              have hlt : mm < io.length := (List.getElem?_eq_some_iff.mp h).1
              obtain ⟨d', hd'⟩ := hio mm i h
              rw [Nat.zero_add] at hd'
              obtain ⟨hp', hj'⟩ := okC_some hc (show mm < np by omega) h
              have hvs : ∃ w, vs[mm]? = some w ∧ σ[i]? = some (some w) := by
                clear z q5 hown hv
                revert h hlt ag ef
                clear hio hget ep la lv hm
                have gen : ∀ {io : List (Option Nat)} {ds : List D} {vs : List V} {mm : Nat}, AgI X.K (hid H1 (msk F G)) σ io ds vs → io[mm]? = some (some i) → ∃ w, vs[mm]? = some w ∧ σ[i]? = some (some w) := by
                  intro io
                  induction io with
                  | nil => intro ds vs mm _ h; simp at h
                  | cons o io ih =>
                    intro ds vs mm ag h
                    cases ds with
                    | nil => cases o <;> exact ag.elim
                    | cons d ds =>
                      cases vs with
                      | nil => cases o <;> exact ag.elim
                      | cons v vs =>
                        cases mm with
                        | zero =>
                          have e : o = some i := by simpa using h
                          subst e
                          exact ⟨v, rfl, ag.1⟩
                        | succ mm =>
                          cases o with
                          | none =>
                            obtain ⟨w, h1, h2⟩ := ih ag.2 (by simpa using h)
                            exact ⟨w, by simpa using h1, h2⟩
                          | some j =>
                            obtain ⟨w, h1, h2⟩ := ih ag.2 (by simpa using h)
                            exact ⟨w, by simpa using h1, h2⟩
                intro h hlt ag _
                exact gen h ag
              obtain ⟨w, hw, hσ⟩ := hvs
              have o := q5 mm hp' d' w hd' (by rw [List.getElem?_append_left (by omega)]; exact hw)
              rw [hj', F'at mm i h] at o
              exact ⟨d', w, hd', hσ, o⟩
            have S2 : Stt X.K P O β F (fp ++ G) e2 σ H' := by
              refine ⟨by rw [le2]; exact S1.len, by rw [le2]; exact S1.olen, by rw [le2]; exact S1.flen, ?_, fun a ma => ?_, S1.base.trn q2, fun j d' hj => ?_, S1.pin, S1.z, fun a ma => ⟨List.mem_append_right _ (S1.rr a ma).1, ?_⟩⟩
              · have n3 := List.nodup_append.mp q1
                have n4 := List.nodup_append.mp n3.2.1
                have n5 := List.nodup_append.mp S1.nd
                refine List.nodup_append.mpr ⟨n5.1, List.nodup_append.mpr ⟨n4.1, n5.2.1, fun a ha c hc' e => nfp a ha (e ▸ List.mem_append_right _ hc')⟩, fun a ha c hc' e => ?_⟩
                subst e
                rcases List.mem_append.mp hc' with h | h
                · exact nfp a h (List.mem_append_left _ ha)
                · exact n5.2.2 a ha a h rfl
              · rcases List.mem_append.mp ((memMf fp a).mpr ma) with h | h
                · rw [fF'] at h
                  obtain ⟨mm, i, h1, h2⟩ := fIO_mem h
                  obtain ⟨d', w, _, _, o⟩ := ownio mm i h1
                  exact o.pres _ a h2
                · rcases List.mem_append.mp h with h | h
                  · exact q4.pres _ a h
                  · rw [q3 a h]
                    exact S1.pres a ((memR a).mp h).1
              · rcases hget j d' hj with ⟨mm, h1, h2⟩ | ⟨h1, h2⟩
                · obtain ⟨d2, w, h3, h4, o⟩ := ownio mm j h1
                  rw [Nat.zero_add] at h2
                  rw [h2] at h3
                  cases h3
                  exact ⟨w, h4, o⟩
                · obtain ⟨w, h3, o⟩ := S1.slot j d' h2
                  exact ⟨w, h3, o.frame q2 _ fun a ha => q3 a (notin h1 ha)⟩
              · rw [q3 a ((memR a).mpr ⟨List.mem_append_right _ (S1.rr a ma).1, fun h => (List.nodup_append.mp S1.nd).2.2 a (fIO_sub h) a (S1.rr a ma).1 rfl⟩)]
                exact (S1.rr a ma).2
            refine z v H' fp S2 (x1.tro ⟨q2, fun a ma => q3 a ((memR a).mpr ⟨List.mem_append_right _ ma, fun h => (List.nodup_append.mp S1.nd).2.2 a (fIO_sub h) a ma rfl⟩)⟩) (fun hb => ?_) q4
            rw [Bool.and_eq_true] at hb
            obtain ⟨e3, e4⟩ := p1 hb.1
            have fe : (fIO F io).flatten = [] := by
              refine List.eq_nil_iff_forall_not_mem.mpr fun a ma => ?_
              obtain ⟨mm, i, h1, _⟩ := fIO_mem ma
              have := (List.all_eq_true.mp hb.2) _ (List.mem_of_getElem? h1)
              cases this
            have e5 : e2 = e1 := by
              have h : ∀ (io : List (Option Nat)) (k : Nat), io.all Option.isNone = true → putIO ios io k e1 = some e1 := by
                intro io
                induction io with
                | nil => intro k _; rfl
                | cons o io ih =>
                  intro k h
                  cases o with
                  | none => exact ih (k + 1) h
                  | some j => cases h
              rw [h io 0 hb.2] at ep
              cases ep; rfl
            refine ⟨by rw [e5]; exact e3, e4.trn fun a o ho => ?_⟩
            by_cases h : a ∈ msk F G
            · rw [q3 a ((memR a).mpr ⟨h, by rw [fe]; simp⟩)]; exact ho
            · have := q2 a o (by rw [hid_out h]; exact ho)
              exact hid_le a o this
theorem mo_call (G0 : FnOk X.prog X.w X.K X.mg X.base (L2.CX X.prog X.w) k f fd ps (spM X.K P' J' r np m)) (hr : Room k X.A) (hm : X.mg x = some (.ref f)) (hk : PySem.W.keepIn X.K (.ref f) = true) (hb : Binds X.K fd ps ds) (hv : Vals dvs ds) (hd : ∀ H, Rps X.K H dd dvs) (tk : Takes X W)
    (ha : MAI X P O W b io (e :: es) ms) (hc : okC O P' J' np dd.length io = true := by rfl) (hg : Gl X x := by rfl) (hdb : (x == ("__debug__" : Str)) = false := by decide) (he : starEach (e :: es) X.env = (false, eval e X.env) :: starEach es X.env := by rfl) (hpl : (backTo pos (starEach es X.env)).any (·.1) = false := by rfl) :
    MO X P O W r (b && io.all Option.isNone) (.Call (.Name x p) (e :: es) [] pos) (mCall m io dd ms) := by
  obtain ⟨t, pa, ha⟩ := ha.run
  exact ⟨_, pe_callSD G0 hr hg hm hk hb hv (E := WE W) (fun σ => passAt tk σ) pa hdb he hpl, call_sem ha (fun _ _ _ _ h => h) hd hc⟩
end
end M3

/-! MK2 -/
set_option Elab.async false
set_option linter.all false
set_option maxRecDepth 100000
set_option maxHeartbeats 4000000
namespace M3
open PySem PySem.Spec PyProof.Rows L2

/-! ### calls by keywords alone -/
structure MKs (X : Cx) (P O : List Nat) (W : WX) (b : Bool) (kws : List Keyword) (m : Mi (List D)) : Prop where
  run : ∃ t, PK X kws t ∧ ∀ β F G env σ H Q, Stt X.K P O β F G env σ H →
    Pst X P O W β F G σ H b env (fun ds H' => ∀ vs, Rps X.K (hid H' (msk F G)) ds vs → Q vs H') (m env) → t σ H Q
section
variable {X : Cx} {P O : List Nat} {W : WX} {b b1 b2 : Bool} {a e : Expr} {kws : List Keyword} {ma : M} {ms : Mi (List D)} {pos p kpos : Pos} {nm : Option Str}
theorem mks_nil : MKs X P O W true [] mNil := ⟨_, pk_nil, fun β F G env σ H Q S p => p.here S [] rfl⟩
theorem mks_cons (ha : ME X P O W 0 b1 a ma) (hr : MKs X P O W b2 kws ms) : MKs X P O W (b1 && b2) (⟨nm, a, kpos⟩ :: kws) (mCons ma ms) := by
  obtain ⟨ta, pa, ha⟩ := ha.run
  obtain ⟨tr, pr, hr⟩ := hr.run
  refine ⟨_, pk_cons pa pr, fun β F G env σ H Q S p => ?_⟩
  refine ha β F G env σ H _ S (p.bind fun d1 env1 H1 S1 x1 p1 q v1 r1 => ?_)
  refine hr β F G env1 σ H1 _ S1 (q.bindL fun ds env2 H2 S2 x2 p2 q2 vs r2 => ?_)
  exact q2.here S2 (v1 :: vs) ⟨v1, vs, rfl, Rp.ex x2.ex d1 r1, r2⟩
/-- the values in the parameters' order -/
def permO : List Nat → List D → Option (List D)
  | [], _ => some []
  | j :: pm, ds => match ds[j]? with | some d => (permO pm ds).map (d :: ·) | none => none
def mPerm (pm : List Nat) (ms : Mi (List D)) : Mi (List D) := fun e => (ms e).bind fun ds e1 => liftO (if ds.length = pm.length then permO pm ds else none) e1
def gPm (pm : List Nat) (n : Nat) (us ws : List Value) : List Value := if us.length = 0 ∧ ws.length = n then pm.map fun j => ws.getD j .none else []
def gPmV (pm : List Nat) (n : Nat) (vs zs : List V) : List V := if vs.length = 0 ∧ zs.length = n then pm.map fun j => zs.getD j .non else []
theorem kb_perm {K : Fg} {fd : FuncData} {ps ks : List Str} {pm : List Nat} {n : Nat} (hp : ps ≠ []) (hn : ks.length = n) (h : ∀ ws : List Value, ws.length = n → bindArgs fd ⟨[], ks.zip ws⟩ = pure (ps.zip (pm.map fun j => ws.getD j .none))) : KBinds K fd ps ks (gPm pm n) (gPmV pm n) := by
  refine ⟨fun s us ws _ hl => ?_, fun {vs us zs ws} r1 r2 => ?_⟩
  · unfold gPm at hl ⊢
    split at hl
    · rename_i hh
      rw [if_pos hh]
      have e : us = [] := List.eq_nil_of_length_eq_zero hh.1
      subst e
      exact .of_eq (h ws hh.2)
    · exact absurd (List.eq_nil_of_length_eq_zero hl.symm) hp
  · have g : ∀ pm : List Nat, Vals (pm.map fun j => zs.getD j .non) (pm.map fun j => ws.getD j .none) := fun pm => by
      induction pm with
      | nil => exact .nil
      | cons j pm ih =>
        refine .cons ?_ ih
        show L2.RelV (zs.getD j .non) (ws.getD j .none)
        rw [List.getD_eq_getElem?_getD, List.getD_eq_getElem?_getD]
        cases q : zs[j]? with
        | none => rw [r2.none_of q]; rfl
        | some z =>
          obtain ⟨u, h1, h2⟩ := r2.get q
          rw [h1]; exact h2
    unfold gPm gPmV
    rw [r1.length, r2.length]
    split
    · exact g pm
    · exact .nil
def tCallK0 (sp : Sp) (gV : List V → List V → List V) (E : XK) (tk : TA) : TE := fun σ H Q => tk σ H fun zs H2 => sp (gV [] zs) H2 Q E
theorem pe_callK0 {CX : CXT} {k : Nat} {f : Addr} {fd : FuncData} {ps ks : List Str} {sp : Sp} {E : XK} {x : Str} {tk : TA} {g : List Value → List Value → List Value} {gV : List V → List V → List V} (F : FnOk X.prog X.w X.K X.mg X.base CX k f fd ps sp) (hr : Room k X.A) (hg : Gl X x) (hm : X.mg x = some (.ref f)) (hk : PySem.W.keepIn X.K (.ref f) = true) (hb : KBinds X.K fd ps ks g gV) (hx : Passes CX X E) (hkw : PK X kws tk)
    (hall : (backToKw pos (keywordEach kws X.env)).all (·.1.isSome) = true := by rfl) (hks : (backToKw pos (keywordEach kws X.env)).filterMap (·.1) = ks := by rfl) (hdb : (x == ("__debug__" : Str)) = false := by decide)
    (hpl : ((backTo pos (starEach [] X.env)).any (·.1) || (backToKw pos (keywordEach kws X.env)).any (·.1.isNone)) = false := by rfl) : PE X (.Call (.Name x p) [] kws pos) (tCallK0 sp gV E tk) := by
  constructor
  intro pins s0 σ H Q I0 h
  refine wpAny_Call_Name_kw (ld_glob I0 hg hm ?_ hdb)
  refine PySem.W.callWith_KW0 (h₀ := X.base) I0.ok.mod.kin hk hall (thn (hkw.run pos pins s0 σ H _ I0 h) fun us sh hh => ?_) hpl
  obtain ⟨zs, H2, I2, rz, q2⟩ := hh
  refine ⟨I2.kIn, ?_⟩
  rw [hks]
  exact run_fnk F hr hb hx I2 .nil rz q2
def mQt (m : M) : M := fun e => (m e).nox
def ioN (n : Nat) : List (Option Nat) := List.replicate n none
theorem mo_callK {P' J' : List Nat} {r np k : Nat} {m : Fn} {f : Addr} {fd : FuncData} {ps ks : List Str} {x : Str} {pm : List Nat} (G0 : FnOk X.prog X.w X.K X.mg X.base (L2.CX X.prog X.w) k f fd ps (spM X.K P' J' r np m)) (hr : Room k X.A) (hm : X.mg x = some (.ref f)) (hk : PySem.W.keepIn X.K (.ref f) = true) (hb : KBinds X.K fd ps ks (gPm pm pm.length) (gPmV pm pm.length))
    (ha : MKs X P O W0 b kws ms) (hc : okC O P' J' np 0 (ioN pm.length) = true := by rfl) (hlen : kws.length = pm.length := by rfl) (hg : Gl X x := by rfl)
    (hall : (backToKw pos (keywordEach kws X.env)).all (·.1.isSome) = true := by rfl) (hks : (backToKw pos (keywordEach kws X.env)).filterMap (·.1) = ks := by rfl) (hdb : (x == ("__debug__" : Str)) = false := by decide)
    (hpl : ((backTo pos (starEach [] X.env)).any (·.1) || (backToKw pos (keywordEach kws X.env)).any (·.1.isNone)) = false := by rfl) :
    MO X P O W r (b && (ioN pm.length).all Option.isNone) (.Call (.Name x p) [] kws pos) (mQt (mCall m (ioN pm.length) [] (mPerm pm ms))) := by
  obtain ⟨t, pk, ha⟩ := ha.run
  refine ⟨_, pe_callK0 G0 hr hg hm hk hb (E := E0) passL pk hall hks hdb hpl, fun β F G env σ H Q S z => ?_⟩
  have z : PstO X P O W0 β F G σ H r (b && (ioN pm.length).all Option.isNone) env Q (mCall m (ioN pm.length) [] (mPerm pm ms) env) := by
    have z : PstO X P O W β F G σ H r (b && (ioN pm.length).all Option.isNone) env Q (mCall m (ioN pm.length) [] (mPerm pm ms) env).nox := z
    cases e : mCall m (ioN pm.length) [] (mPerm pm ms) env with
    | ok d e1 => rw [e] at z; exact z
    | exc c x e1 => rw [e] at z; exact z.elim
    | bad => rw [e] at z; exact z.elim
  have q := call_sem (X := X) (W := W0) (E := fun _ => E0) (dvs := []) (dd := []) (t := fun σ H Q => t σ H fun zs H' => Q (gPmV pm pm.length [] zs) H') (ms := mPerm pm ms) (b := b) (io := ioN pm.length) (fun β F G env σ H Q S z => ?_) (fun _ _ _ _ h => h) (fun H => rfl) hc β F G env σ H Q S z
  · have q : t σ H fun zs H' => spM X.K P' J' r np m (gPmV pm pm.length [] zs ++ []) H' Q E0 := q
    simp only [List.append_nil] at q
    exact q
  · refine ha β F G env σ H _ S (z.bindL fun ds env1 H1 S1 x1 p1 q vs r1 => ?_)
    obtain ⟨as, e1, q3⟩ := q.lift
    by_cases hdl : ds.length = pm.length
    case neg => rw [if_neg hdl] at e1; cases e1
    rw [if_pos hdl] at e1
    refine q3.here S1 _ ?_
    have gen : ∀ (pm : List Nat) (as : List D), permO pm ds = some as → AgI X.K (hid H1 (msk F G)) σ (ioN pm.length) as (pm.map fun j => vs.getD j .non) := by
      intro pm
      induction pm with
      | nil => intro as h; cases h; exact trivial
      | cons j pm ih =>
        intro as h
        unfold permO at h
        cases q : ds[j]? with
        | none => rw [q] at h; cases h
        | some d =>
          rw [q] at h
          dsimp only at h
          cases q2 : permO pm ds with
          | none => rw [q2] at h; cases h
          | some as' =>
            rw [q2] at h
            cases h
            obtain ⟨v, h1, h2⟩ := r1.get q
            refine ⟨?_, ih as' q2⟩
            show Rp X.K _ d (vs.getD j .non)
            rw [getD_lt h1]; exact h2
    have := gen pm as e1
    unfold gPmV
    rw [if_pos ⟨rfl, r1.len.trans hdl⟩]
    exact this
end
theorem fun_kb {K : PySem.W.Frag} {x qual : Str} {st : Stmt} {f : Addr} {fd : FuncData} {ps ks : List Str} {pm : List Nat} {n : Nat} (F : Fun K x qual st f fd) (hp : ps ≠ []) (hn : ks.length = n)
    (h : ∀ (kV doc pmm : Value) (an : Option Addr) (cdv ct : Value) (ws : List Value), ws.length = n → bindArgs (PySem.W.fnOf x qual (defArgs st) (defBody st) (defScope st) .none kV doc pmm an cdv ct) ⟨[], ks.zip ws⟩ = pure (ps.zip (pm.map fun j => ws.getD j .none))) :
    KBinds K fd ps ks (gPm pm n) (gPmV pm n) := by
  obtain ⟨oc, od, kV, doc, pmm, an, cdv, ct, osl, rfl, lk, hcd⟩ := F.ex
  exact kb_perm hp hn (h kV doc pmm an cdv ct)
theorem fn_bad {Pg : Program} {w : World} {K : PySem.W.Frag} {mg : Str → Option Value} {base : Heap} {k : Nat} {f : Addr} {fd : FuncData} {ps : List Str} {P J : List Nat} {r np : Nat} : FnOk Pg w K mg base (L2.CX Pg w) k f fd ps (spM K P J r np fun _ => .bad) :=
  ⟨fun vs H Q E h => (by obtain ⟨_, _, _, _, _, _, _, _, _, h⟩ := h; exact h.elim), fun A outer s H args us vs Q E _ _ _ _ h => (by obtain ⟨_, _, _, _, _, _, _, _, _, h⟩ := h; exact h.elim)⟩
end M3

/-! MW -/
set_option Elab.async false
set_option linter.all false
set_option maxRecDepth 100000
set_option maxHeartbeats 4000000
namespace M3
open PySem PySem.Spec PyProof.Rows L2

/-! ### what a mirror comes to -/
def RP {α : Type} (r : Rs α) (Q : α → Sl → Prop) : Prop := match r with | .ok a e => Q a e | _ => False
def OP {α : Type} (o : Option α) (Q : α → Prop) : Prop := match o with | some a => Q a | none => False
structure KS where
  nx : Sl → Prop
  rt : D → Sl → Prop
  bk : Sl → Prop
  ct : Sl → Prop
def SP (r : SRs) (k : KS) : Prop := match r with | .nx e => k.nx e | .rt d e => k.rt d e | .bk e => k.bk e | .ct e => k.ct e | _ => False
def FP (r : FRs) (Q : D → Sl → Prop) : Prop := match r with | .ok d e => Q d e | _ => False
def BP (d : D) (A B : Prop) : Prop := match d with | .bl true => A | .bl false => B | _ => False
def BQ (d : D) (F : Bool → Prop) : Prop := match d with | .bl k => F k | _ => False
theorem RP.mono {α : Type} {r : Rs α} {Q R : α → Sl → Prop} (h : RP r Q) (k : ∀ a e, Q a e → R a e) : RP r R := by
  cases r with
  | ok a e => exact k a e h
  | _ => exact h
theorem OP.mono {α : Type} {r : Option α} {Q R : α → Prop} (h : OP r Q) (k : ∀ a, Q a → R a) : OP r R := by
  cases r with
  | some a => exact k a h
  | _ => exact h
theorem FP.mono {r : FRs} {Q R : D → Sl → Prop} (h : FP r Q) (k : ∀ a e, Q a e → R a e) : FP r R := by
  cases r with
  | ok a e => exact k a e h
  | _ => exact h
theorem SP.mono {r : SRs} {Q R : KS} (h : SP r Q) (kn : ∀ e, Q.nx e → R.nx e) (kr : ∀ d e, Q.rt d e → R.rt d e) (kb : ∀ e, Q.bk e → R.bk e) (kc : ∀ e, Q.ct e → R.ct e) : SP r R := by
  cases r with
  | nx e => exact kn e h
  | rt d e => exact kr d e h
  | bk e => exact kb e h
  | ct e => exact kc e h
  | _ => exact h
section
variable {α : Type} {e : Sl} {Q : D → Sl → Prop} {QL : List D → Sl → Prop} {QM : α → Sl → Prop} {k : KS} {i j : Nat} {a b c m : M} {ms src : Mi (List D)} {s s1 s2 : MSt}
theorem RP_ok {a : α} : RP (.ok a e) QM = QM a e := rfl
theorem RP_bind {β : Type} {r : Rs β} {f : β → Sl → Rs α} : RP (r.bind f) QM = RP r fun x e1 => RP (f x e1) QM := by cases r <;> rfl
theorem RP_nox {r : Rs α} : RP r.nox QM = RP r QM := by cases r <;> rfl
theorem RP_lift {o : Option α} : RP (liftO o e) QM = OP o fun a => QM a e := by cases o <;> rfl
theorem RP_var {d : D} (h : e[i]? = some (some d)) : RP (mVar i e) Q = Q d e := by unfold mVar; rw [h]; rfl
theorem RP_hole {d : D} (h : e[i]? = some (some d)) : RP (mHole i e) Q = Q .non e := by unfold mHole; rw [h]; rfl
theorem RP_c {d : D} : RP (mC d e) Q = Q d e := rfl
theorem RP_1 {f : D → Option D} : RP (m1 f a e) Q = RP (a e) fun x e1 => OP (f x) fun z => Q z e1 := by
  unfold m1; rw [RP_bind]; simp only [RP_lift]
theorem RP_2 {f : D → D → Option D} : RP (m2 f a b e) Q = RP (a e) fun x e1 => RP (b e1) fun y e2 => OP (f x y) fun z => Q z e2 := by
  unfold m2; simp only [RP_bind, RP_lift]
theorem RP_f {f : List D → Option D} : RP (mf f ms e) Q = RP (ms e) fun x e1 => OP (f x) fun z => Q z e1 := by
  unfold mf; simp only [RP_bind, RP_lift]
theorem RP_nil : RP (mNil e) QL = QL [] e := rfl
theorem RP_cons : RP (mCons a ms e) QL = RP (a e) fun x e1 => RP (ms e1) fun xs e2 => QL (x :: xs) e2 := by
  unfold mCons; simp only [RP_bind, RP_ok]
theorem RP_mat {d : D} {r1 r2 : Rs α} : RP (match d with | .bl true => r1 | .bl false => r2 | _ => .bad) QM = BP d (RP r1 QM) (RP r2 QM) := by
  cases d with
  | bl t => cases t <;> rfl
  | _ => rfl
theorem RP_if : RP (mIf c a b e) Q = RP (c e) fun x e1 => BP x (RP (a e1) Q) (RP (b e1) Q) := by
  unfold mIf; rw [RP_bind]; congr; funext x e1; exact RP_mat
theorem RP_and : RP (mAnd a b e) Q = RP (a e) fun x e1 => BP x (RP (b e1) Q) (Q (.bl false) e1) := by
  unfold mAnd; rw [RP_bind]; congr; funext x e1; exact RP_mat
theorem RP_or : RP (mOr a b e) Q = RP (a e) fun x e1 => BP x (Q (.bl true) e1) (RP (b e1) Q) := by
  unfold mOr; rw [RP_bind]; congr; funext x e1; exact RP_mat
theorem RP_not : RP (mNot a e) Q = RP (a e) fun x e1 => BQ x fun t => Q (.bl !t) e1 := by
  unfold mNot; rw [RP_bind]; congr; funext x e1; cases x <;> rfl
theorem RP_B : RP (mB a e) Q = RP (a e) fun x e1 => BQ x fun t => Q (.bl t) e1 := by
  unfold mB; rw [RP_bind]; congr; funext x e1; cases x <;> rfl
theorem RP_qt : RP (mQt a e) Q = RP (a e) Q := RP_nox
theorem RP_perm {pm : List Nat} : RP (mPerm pm ms e) QL = RP (ms e) fun ds e1 => OP (if ds.length = pm.length then permO pm ds else none) fun z => QL z e1 := by
  unfold mPerm; simp only [RP_bind, RP_lift]
theorem RP_pn {Q : Option Int → Sl → Prop} : RP (mPn e) Q = Q none e := rfl
theorem RP_ps {Q : Option Int → Sl → Prop} : RP (mPs a e) Q = RP (a e) fun x e1 => match x with | .int i => Q (some i) e1 | _ => False := by
  unfold mPs; rw [RP_bind]; congr; funext x e1; cases x <;> rfl
theorem RP_sl {ml mh : Mi (Option Int)} : RP (mSl a ml mh e) Q = RP (a e) fun x e1 => RP (ml e1) fun lo e2 => RP (mh e2) fun hi e3 => OP (D.sl x lo hi) fun z => Q z e3 := by
  unfold mSl; simp only [RP_bind, RP_lift]
theorem RP_call {f : Fn} {io : List (Option Nat)} {dd : List D} : RP (mCall f io dd ms e) Q = RP (ms e) fun ds e1 => OP (fillIO e1 io ds) fun as => FP (f (as ++ dd)) fun d ios => OP (putIO ios io 0 e1) fun e2 => Q d e2 := by
  unfold mCall; rw [RP_bind]; congr; funext x e1
  cases fillIO e1 io x with
  | none => rfl
  | some as =>
    show RP (match f (as ++ dd) with | .ok d ios => _ | .exc c x => _ | .bad => _) Q = FP (f (as ++ dd)) _
    cases f (as ++ dd) with
    | ok d ios =>
      dsimp only [FP]
      cases putIO ios io 0 e1 <;> rfl
    | exc c x => dsimp only [FP]; split <;> rfl
    | bad => rfl
theorem RP_src : RP (iSrc a e) QL = RP (a e) fun x e1 => match x with | .lst l => QL l e1 | .tup l => QL l e1 | _ => False := by
  unfold iSrc; rw [RP_bind]; congr; funext x e1; cases x <;> rfl
theorem RP_r1 : RP (iR1 ms e) QL = RP (ms e) fun x e1 => match x with | [.int j] => rOk j ∧ QL (rngD 0 j.toNat) e1 | _ => False := by
  unfold iR1; rw [RP_bind]; congr; funext x e1
  split
  · split
    · rename_i h; simp only [RP, h, true_and]
    · rename_i h; simp only [RP, h, false_and]
  · rename_i h
    first
    | rfl
    | (split
       · exact absurd rfl (h _)
       · rfl)
theorem RP_r2 : RP (iR2 ms e) QL = RP (ms e) fun x e1 => match x with | [.int i, .int j] => (rOk i ∧ rOk j) ∧ QL (rngD i (j - i).toNat) e1 | _ => False := by
  unfold iR2; rw [RP_bind]; congr; funext x e1
  split
  · split
    · rename_i h; simp only [RP, h, true_and]
    · rename_i h; simp only [RP, h, false_and]
  · rename_i h
    first
    | rfl
    | (split
       · exact absurd rfl (h _ _)
       · rfl)
theorem RP_en : RP (iEn ms e) QL = RP (ms e) fun x e1 => match x with | [.lst l] => QL (enumD 0 l) e1 | _ => False := by
  unfold iEn; rw [RP_bind]; congr; funext x e1
  split
  · rfl
  · rename_i h
    first
    | rfl
    | (split
       · exact absurd rfl (h _)
       · rfl)
theorem RP_lc {own : List Nat} {f : D → Sl → Option Sl} {tst el : M} : RP (mLc own f tst el src e) Q = RP (src e) fun ds e1 => RP (lcL own f tst el ds (wpE e1 own)) fun l e2 => l.length ≤ lim ∧ Q (.lst l) (rstE e1 e2 own) := by
  unfold mLc; simp only [RP_bind]; congr; funext x e1; congr; funext l e2
  split
  · rename_i h; simp only [RP, h, true_and]
  · rename_i h; simp only [RP, h, false_and]
theorem RP_lcn {own : List Nat} {f : D → Sl → Option Sl} {tst el : M} : RP (lcL own f tst el [] e) QL = QL [] e := rfl
theorem RP_lcc {own : List Nat} {f : D → Sl → Option Sl} {tst el : M} {d : D} {ds : List D} : RP (lcL own f tst el (d :: ds) e) QL = OP (f d e) fun e1 => RP (tst e1) fun c e2 => BP c (RP (el e2) fun y e3 => RP (lcL own f tst el ds (wpE e3 own)) fun l e4 => QL (y :: l) e4) (RP (lcL own f tst el ds (wpE e2 own)) QL) := by
  have u : lcL own f tst el (d :: ds) e = match f d e with
    | none => .bad
    | some e1 => (tst e1).nox.bind fun c e2 => match c with
      | .bl true => (el e2).nox.bind fun y e3 => (lcL own f tst el ds (wpE e3 own)).bind fun l e4 => .ok (y :: l) e4
      | .bl false => lcL own f tst el ds (wpE e2 own)
      | _ => .bad := rfl
  rw [u]
  cases f d e with
  | none => rfl
  | some e1 =>
    show RP ((tst e1).nox.bind _) QL = RP (tst e1) _
    rw [RP_bind, RP_nox]; congr; funext x e2
    cases x with
    | bl t =>
      cases t with
      | true =>
        show RP ((el e2).nox.bind _) QL = RP (el e2) _
        rw [RP_bind, RP_nox]
        congr; funext y e3
        rw [RP_bind]
        rfl
      | false => rfl
    | _ => rfl
theorem RP_yes : RP (mYes e) Q = Q (.bl true) e := rfl
/-! statements -/
theorem SP_toS {r : Rs α} {f : α → Sl → SRs} : SP (r.toS f) k = RP r fun x e1 => SP (f x e1) k := by cases r <;> rfl
theorem SP_nx : SP (sNx e) k = k.nx e := rfl
theorem SP_seq : SP (sSeq s1 s2 e) k = SP (s1 e) ⟨fun e1 => SP (s2 e1) k, k.rt, k.bk, k.ct⟩ := by
  unfold sSeq; cases s1 e <;> rfl
theorem SP_drop : SP (sDrop a e) k = RP (a e) fun _ e1 => k.nx e1 := by unfold sDrop; rw [SP_toS]; rfl
theorem SP_ret : SP (sRet a e) k = RP (a e) fun d e1 => k.rt d e1 := by unfold sRet; rw [SP_toS]; rfl
theorem SP_set : SP (sSet i a e) k = RP (a e) fun d e1 => k.nx (e1.set i (some d)) := by unfold sSet; rw [SP_toS]; rfl
theorem SP_if : SP (sIf c s1 s2 e) k = RP (c e) fun x e1 => BP x (SP (s1 e1) k) (SP (s2 e1) k) := by
  unfold sIf; rw [SP_toS]; congr; funext x e1
  cases x with
  | bl t => cases t <;> rfl
  | _ => rfl
theorem SP_stO {o : Option D} : SP (stO i o e) k = OP o fun d => k.nx (e.set i (some d)) := by unfold stO; cases o <;> rfl
theorem SP_sub {mk mv : M} : SP (sSub i mk mv e) k = RP (mv e) fun d e1 => RP (mVar i e1) fun _ e1 => RP (mk e1) fun key e2 => OP (setD key d e2[i]?) fun z => k.nx (e2.set i (some z)) := by
  unfold sSub; simp only [SP_toS, SP_stO]
theorem SP_app : SP (sApp i m e) k = RP (mVar i e) fun d0 e => OP (isL d0) fun _ => RP (m e) fun d e1 => OP (appD d e1[i]?) fun z => k.nx (e1.set i (some z)) := by
  unfold sApp; simp only [SP_toS, SP_stO, RP_lift]
theorem SP_tgt {f : D → Sl → Option Sl} : SP (sTgt f a e) k = RP (a e) fun d e1 => OP (f d e1) fun e2 => k.nx e2 := by
  unfold sTgt; rw [SP_toS]; congr; funext x e1; cases f x e1 <;> rfl
theorem SP_par : SP (sPar i j ms e) k = RP (ms e) fun ds e1 => match ds with | [d1, d2] => k.nx ((e1.set i (some d1)).set j (some d2)) | _ => False := by
  unfold sPar; rw [SP_toS]; congr; funext x e1
  split
  · rfl
  · rename_i h
    first
    | rfl
    | (split
       · exact absurd rfl (h _ _)
       · rfl)
theorem SP_for {f : D → Sl → Option Sl} : SP (sFor f src s e) k = RP (src e) fun ds e1 => SP (forL f s ds e1) k := by unfold sFor; rw [SP_toS]
theorem SP_forn {f : D → Sl → Option Sl} : SP (forL f s [] e) k = k.nx e := rfl
theorem SP_forc {f : D → Sl → Option Sl} {d : D} {ds : List D} : SP (forL f s (d :: ds) e) k = OP (f d e) fun e1 => SP (s e1) ⟨fun e2 => SP (forL f s ds e2) k, k.rt, k.nx, fun e2 => SP (forL f s ds e2) k⟩ := by
  have u : forL f s (d :: ds) e = match f d e with
    | none => .bad
    | some e1 => match s e1 with
      | .nx e2 => forL f s ds e2
      | .ct e2 => forL f s ds e2
      | .bk e2 => .nx e2
      | r => r := rfl
  rw [u]
  cases f d e with
  | none => rfl
  | some e1 =>
    dsimp only [OP]
    cases s e1 <;> rfl
/-- a for by an invariant -/
theorem SP_forI {f : D → Sl → Option Sl} {ds : List D} (I : Nat → Sl → Prop) (h0 : I 0 e)
    (hs : ∀ (i : Nat) (hi : i < ds.length) (e : Sl), I i e → OP (f ds[i] e) fun e1 => SP (s e1) ⟨fun e2 => I (i + 1) e2, k.rt, k.nx, fun e2 => I (i + 1) e2⟩)
    (hd : ∀ e, I ds.length e → k.nx e) : SP (forL f s ds e) k := by
  have h : ∀ (n i : Nat) (e : Sl), n + i = ds.length → I i e → SP (forL f s (ds.drop i) e) k := by
    intro n
    induction n with
    | zero =>
      intro i e hn hI
      rw [List.drop_eq_nil_of_le (by omega)]
      have : i = ds.length := by omega
      subst this
      exact hd e hI
    | succ n ih =>
      intro i e hn hI
      have hlt : i < ds.length := by omega
      rw [List.drop_eq_getElem_cons hlt, SP_forc]
      refine (hs i hlt e hI).mono fun e1 h => h.mono (fun e2 h => ih (i + 1) e2 (by omega) h) (fun d e h => h) (fun e h => h) fun e2 h => ih (i + 1) e2 (by omega) h
  exact h ds.length 0 e (by omega) h0
theorem SP_whln {n : Nat} : SP (whlN c s (n + 1) e) k = RP (c e) fun x e1 => BP x (SP (s e1) ⟨fun e2 => SP (whlN c s n e2) k, k.rt, k.nx, fun e2 => SP (whlN c s n e2) k⟩) (k.nx e1) := by
  have u : whlN c s (n + 1) e = (c e).toS fun x e1 => match x with
    | .bl false => .nx e1
    | .bl true => (match s e1 with
      | .nx e2 => whlN c s n e2
      | .ct e2 => whlN c s n e2
      | .bk e2 => .nx e2
      | r => r)
    | _ => .bad := rfl
  rw [u, SP_toS]; congr; funext x e1
  cases x with
  | bl t =>
    cases t with
    | true => dsimp only [BP]; cases s e1 <;> rfl
    | false => rfl
  | _ => rfl
/-- a while by a measure -/
theorem SP_whl (I : Nat → Sl → Prop) (n : Nat) (hn : n < fuel) (h0 : I n e)
    (hs : ∀ (n : Nat) (e : Sl), I n e → RP (c e) fun x e1 => BP x (SP (s e1) ⟨fun e2 => ∃ n', n' < n ∧ I n' e2, k.rt, k.nx, fun e2 => ∃ n', n' < n ∧ I n' e2⟩) (k.nx e1)) : SP (sWhl c s e) k := by
  unfold sWhl
  revert hn h0
  generalize fuel = N
  induction N generalizing n e with
  | zero => intro hn; omega
  | succ N ih =>
    intro hn h0
    rw [SP_whln]
    refine (hs n e h0).mono fun x e1 h => ?_
    cases x with
    | bl t =>
      cases t with
      | true =>
        refine SP.mono h (fun e2 h => ?_) (fun d e h => h) (fun e h => h) fun e2 h => ?_
        · obtain ⟨n', h1, h2⟩ := h
          exact ih n' (by omega) h2
        · obtain ⟨n', h1, h2⟩ := h
          exact ih n' (by omega) h2
      | false => exact h
    | _ => exact h
theorem FP_fn {r nl np : Nat} {ds : List D} : FP (mFn r nl np s ds) Q = SP (s (ds.map some ++ List.replicate (nl - np) none)) ⟨fun e => r = 0 ∧ Q .non e, Q, fun _ => False, fun _ => False⟩ := by
  unfold mFn
  cases s (ds.map some ++ List.replicate (nl - np) none) with
  | nx e =>
    dsimp only [toF, SP]
    split
    · rename_i h; simp only [FP, h, true_and]
    · rename_i h; simp only [FP, h, false_and]
  | _ => rfl
end
end M3

/-! MWb -/
set_option Elab.async false
set_option linter.all false
set_option maxRecDepth 100000
set_option maxHeartbeats 400000
namespace M3
open PySem PySem.Spec PyProof.Rows L2
/-! ### operations on whole numbers -/
section
variable {Q : D → Prop} {i j : Int} {d : D}
theorem OP_some {α : Type} {a : α} {Q : α → Prop} : OP (some a) Q = Q a := rfl
theorem OP_map {α β : Type} {o : Option α} {f : α → β} {Q : β → Prop} : OP (o.map f) Q = OP o fun a => Q (f a) := by cases o <;> rfl
theorem OP_ite {α : Type} {c : Prop} [Decidable c] {o : Option α} {Q : α → Prop} : OP (if c then o else none) Q = (c ∧ OP o Q) := by
  split
  · rename_i h; simp only [h, true_and]
  · rename_i h; simp only [h, false_and]; rfl
theorem OP_add : OP (D.add (.int i) (.int j)) Q = Q (.int (i + j)) := rfl
theorem OP_sub : OP (D.sub (.int i) (.int j)) Q = Q (.int (i - j)) := rfl
theorem OP_mul : OP (D.mul (.int i) (.int j)) Q = ((i.natAbs < bigN ∧ j.natAbs < bigN) ∧ Q (.int (i * j))) := by
  show OP (if i.natAbs < bigN ∧ j.natAbs < bigN then some (D.int (i * j)) else none) Q = _
  rw [OP_ite]; rfl
theorem OP_fdiv : OP (D.fdiv (.int i) (.int j)) Q = ((j ≠ 0 ∧ j.natAbs < divN) ∧ Q (.int (i.fdiv j))) := OP_ite
theorem OP_fmod : OP (D.fmod (.int i) (.int j)) Q = (j ≠ 0 ∧ Q (.int (i.fmod j))) := OP_ite
theorem OP_pow : OP (D.pow (.int i) (.int j)) Q = ((0 ≤ j ∧ j ≤ 1000 ∧ i.natAbs < 2 ^ 1000) ∧ Q (.int (i ^ j.toNat))) := OP_ite
theorem OP_neg : OP (D.neg (.int i)) Q = Q (.int (-i)) := rfl
theorem OP_lt : OP (D.lt (.int i) (.int j)) Q = Q (.bl (decide (i < j))) := rfl
theorem OP_le : OP (D.le (.int i) (.int j)) Q = Q (.bl (decide (i ≤ j))) := rfl
theorem OP_gt : OP (D.gt (.int i) (.int j)) Q = Q (.bl (decide (j < i))) := rfl
theorem OP_ge : OP (D.ge (.int i) (.int j)) Q = Q (.bl (decide (j ≤ i))) := rfl
theorem OP_eqi : OP (D.eq (.int i) (.int j)) Q = Q (.bl (i == j)) := rfl
theorem OP_nei : OP (D.ne (.int i) (.int j)) Q = Q (.bl (!(i == j))) := rfl
theorem OP_bits : OP (fBits (.int i)) Q = Q (.int (Builtin.Int.intBits i : Nat)) := rfl
theorem OP_int : OP (fInt [.int i]) Q = Q (.int i) := rfl
theorem OP_intb {b : Bool} : OP (fInt [.bl b]) Q = Q (.int (if b then 1 else 0)) := rfl
theorem OP_tup {ds : List D} : OP (mkTup ds) Q = (ds.length ≤ lim ∧ Q (.tup ds)) := OP_ite
theorem OP_lst {ds : List D} : OP (mkLst ds) Q = (ds.length ≤ lim ∧ Q (.lst ds)) := OP_ite
theorem OP_lenl {ds : List D} : OP (fLen [.lst ds]) Q = Q (.int ds.length) := rfl
theorem OP_lent {ds : List D} : OP (fLen [.tup ds]) Q = Q (.int ds.length) := rfl
theorem OP_lenf {ds : List D} : OP (fLen [.fro ds]) Q = Q (.int ds.length) := rfl
theorem OP_abs : OP (fAbs [.int i]) Q = Q (.int i.natAbs) := by
  show Q (.int (if i < 0 then -i else i)) = _
  congr; split <;> omega
theorem OP_max2 : OP (fMax2 [.int i, .int j]) Q = Q (.int (max i j)) := by
  show Q (.int (if j > i then j else i)) = _
  rw [show (if j > i then j else i) = max i j by split <;> omega]
theorem OP_min2 : OP (fMin2 [.int i, .int j]) Q = Q (.int (min i j)) := by
  show Q (.int (if j < i then j else i)) = _
  rw [show (if j < i then j else i) = min i j by split <;> omega]
theorem OP_gcd : OP (fGcd [.int i, .int j]) Q = Q (.int ((Nat.gcd i.natAbs j.natAbs : Nat) : Int)) := rfl
theorem OP_ixl {l : List D} : OP (D.ix (.lst l) (.int i)) Q = OP (atI l i) Q := rfl
theorem OP_ixt {l : List D} : OP (D.ix (.tup l) (.int i)) Q = OP (atI l i) Q := rfl
theorem OP_ixf {l : List D} : OP (D.ix (.fro l) (.int i)) Q = OP (atI l i) Q := rfl
theorem atI_of {α : Type} {l : List α} {n : Nat} {a : α} (h : l[n]? = some a) : atI l (n : Int) = some a := by
  have hl : n < l.length := by
    rcases Nat.lt_or_ge n l.length with h' | h'
    · exact h'
    · rw [List.getElem?_eq_none h'] at h; cases h
  unfold atI ixN
  rw [List.getElem?_eq_getElem hl] at h
  simp [hl, Option.some.inj h]
theorem OP_cat {l m : List D} : OP (D.add (.lst l) (.lst m)) Q = (l.length + m.length ≤ lim ∧ Q (.lst (l ++ m))) := OP_ite
theorem OP_rep {l : List D} : OP (D.mul (.lst l) (.int i)) Q = ((l.length * i.toNat ≤ lim ∧ -1000000 ≤ i ∧ i ≤ 1000000) ∧ Q (.lst (List.replicate i.toNat l).flatten)) := OP_ite
theorem OP_subb {a b : Bool} : OP (D.sub (.bl a) (.bl b)) Q = Q (.int (b2i a - b2i b)) := rfl
theorem OP_gN {e : Sl} {n : Nat} {Q : Sl → Prop} : OP (gN n d e) Q = Q (e.set n (some d)) := rfl
theorem BQ_b {b : Bool} {F : Bool → Prop} : BQ (.bl b) F = F b := rfl
theorem BP_t {A B : Prop} : BP (.bl true) A B = A := rfl
theorem BP_f {A B : Prop} : BP (.bl false) A B = B := rfl
theorem BP_d {c : Prop} [Decidable c] {A B : Prop} : BP (.bl (decide c)) A B = ((c → A) ∧ (¬c → B)) := by
  by_cases h : c
  · simp only [h, decide_true, BP_t, not_true, true_imp_iff, false_imp_iff, and_true]
  · simp only [h, decide_false, BP_f, not_false_iff, true_imp_iff, false_imp_iff, true_and]
theorem BP_n {b : Bool} {A B : Prop} : BP (.bl !b) A B = BP (.bl b) B A := by cases b <;> rfl
end
end M3

/-! MB -/
set_option Elab.async false
set_option linter.all false
set_option maxRecDepth 100000
set_option maxHeartbeats 400000
namespace M3
open PySem PySem.Spec PyProof.Rows L2

/-! ### sizes -/
def Bd (n : Nat) (x : Int) : Prop := x.natAbs < 2 ^ n
theorem Bd.up {m n : Nat} {x : Int} (h : Bd m x) (k : m ≤ n) : Bd n x := Nat.lt_of_lt_of_le h (Nat.pow_le_pow_right (by decide) k)
theorem Bd.mul {m n : Nat} {x y : Int} (h : Bd m x) (k : Bd n y) : Bd (m + n) (x * y) := by
  unfold Bd at *
  rw [Int.natAbs_mul, Nat.pow_add]
  exact Nat.mul_lt_mul'' h k
theorem Bd.add {m n : Nat} {x y : Int} (h : Bd m x) (k : Bd n y) : Bd (m + n + 1) (x + y) := by
  unfold Bd at *
  have h1 : (2:Nat) ^ m ≤ 2 ^ (m + n) := Nat.pow_le_pow_right (by decide) (by omega)
  have h2 : (2:Nat) ^ n ≤ 2 ^ (m + n) := Nat.pow_le_pow_right (by decide) (by omega)
  rw [Nat.pow_succ]
  have := Int.natAbs_add_le x y
  omega
theorem Bd.neg {m : Nat} {x : Int} (h : Bd m x) : Bd m (-x) := by unfold Bd at *; rwa [Int.natAbs_neg]
theorem Bd.sub {m n : Nat} {x y : Int} (h : Bd m x) (k : Bd n y) : Bd (m + n + 1) (x - y) := by
  rw [Int.sub_eq_add_neg]; exact h.add k.neg
theorem Bd.self (x : Int) : Bd (x.natAbs.log2 + 1) x := Nat.lt_log2_self
theorem Bd.lt {n : Nat} {x y : Int} (h0 : 0 ≤ x) (h : x ≤ y) (k : Bd n y) : Bd n x := by
  unfold Bd at *; omega
theorem Bd.abs {n : Nat} {x : Int} (h : Bd n x) : Bd n (x.natAbs : Int) := by unfold Bd at *; simpa using h
theorem Bd.fdiv {m : Nat} {x y : Int} (h : Bd m x) : Bd (m + 1) (x.fdiv y) := by
  unfold Bd at *
  have h1 : (x.fdiv y).natAbs ≤ x.natAbs + 1 := by
    rcases Int.lt_trichotomy y 0 with hy | hy | hy
    · rw [← Int.neg_fdiv_neg, Int.fdiv_eq_ediv_of_nonneg _ (by omega)]
      have := Int.natAbs_ediv_le_natAbs (-x) (-y)
      omega
    · subst hy; rw [Int.fdiv_zero]; simp
    · rw [Int.fdiv_eq_ediv_of_nonneg _ (by omega)]
      have := Int.natAbs_ediv_le_natAbs x y
      omega
  have h2 : 0 < 2 ^ m := Nat.two_pow_pos m
  rw [Nat.pow_succ]
  omega
theorem Bd.fmod {m : Nat} {x y : Int} (hy : 0 < y) (k : Bd m y) : Bd m (x.fmod y) := by
  have h1 := Int.fmod_nonneg_of_pos x hy
  have h2 := Int.fmod_lt_of_pos x hy
  exact Bd.lt h1 (by omega) k
theorem Bd.big {n : Nat} {x : Int} (h : Bd n x) (k : n ≤ 400000) : x.natAbs < bigN := by rw [bigN_e]; exact Nat.lt_of_lt_of_le h (Nat.pow_le_pow_right (by decide) k)
theorem Bd.dv {n : Nat} {x : Int} (h : Bd n x) (k : n ≤ 8000) : x.natAbs < divN := by rw [divN_e]; exact Nat.lt_of_lt_of_le h (Nat.pow_le_pow_right (by decide) k)
/-! ### lists at hand -/
section
variable {α : Type} {a b c d : α} {l : List α}
theorem at0 : atI (a :: l) 0 = some a := atI_of (n := 0) rfl
theorem at1 : atI (a :: b :: l) 1 = some b := atI_of (n := 1) rfl
theorem at2 : atI (a :: b :: c :: l) 2 = some c := atI_of (n := 2) rfl
theorem at3 : atI (a :: b :: c :: d :: l) 3 = some d := atI_of (n := 3) rfl
theorem set_of {l : List D} {n : Nat} {d : D} (h : n < l.length) : setAt l (n : Int) d = some (l.set n d) := by
  unfold setAt ixN
  simp [h]
theorem set0 {a d : D} {l : List D} : setAt (a :: l) 0 d = some (d :: l) := set_of (n := 0) (by simp)
theorem set1 {a b d : D} {l : List D} : setAt (a :: b :: l) 1 d = some (a :: d :: l) := set_of (n := 1) (by simp)
theorem set2 {a b c d : D} {l : List D} : setAt (a :: b :: c :: l) 2 d = some (a :: b :: d :: l) := set_of (n := 2) (by simp)
theorem setD_l {l : List D} {i : Int} {d : D} : setD (.int i) d (some (some (.lst l))) = (setAt l i d).map .lst := rfl
end
example {s i : Int} (hs : Bd 40 s) (hi : Bd 100 i) : (s * 1140671 + 27644437 * i * i).natAbs < bigN ∧ i.natAbs < bigN := by ((refine And.intro ?_ ?_ <;> ((apply Bd.big; (case h => repeat' (with_reducible first | assumption | (apply Bd.add) | (apply Bd.sub) | (apply Bd.mul) | (apply Bd.neg) | (apply Bd.abs) | (apply Bd.fdiv) | exact Bd.self _)); all_goals decide +kernel))))
theorem BP_eq {i j : Int} {A B : Prop} : BP (.bl (i == j)) A B = ((i = j → A) ∧ (¬i = j → B)) := by
  rw [show (i == j) = decide (i = j) from rfl, BP_d]
theorem fmod_rng (x : Int) {y : Int} (h : 0 < y) : 0 ≤ x.fmod y ∧ x.fmod y < y := ⟨Int.fmod_nonneg_of_pos x h, Int.fmod_lt_of_pos x h⟩
theorem RP_varm {e : Sl} {i : Nat} {Q : D → Sl → Prop} : RP (mVar i e) Q = match e[i]? with | some (some d) => Q d e | _ => False := by
  unfold mVar
  split
  · rename_i h; first | rfl | (rw [h]; rfl)
  · rename_i h
    first
    | rfl
    | (split
       · rename_i h2; exact absurd h2 (h _)
       · rfl)
theorem RP_holem {e : Sl} {i : Nat} {Q : D → Sl → Prop} : RP (mHole i e) Q = match e[i]? with | some (some _) => Q .non e | _ => False := by
  unfold mHole
  split
  · rename_i h; first | rfl | (rw [h]; rfl)
  · rename_i h
    first
    | rfl
    | (split
       · rename_i h2; exact absurd h2 (h _)
       · rfl)
theorem is_non_np {b : Bool} {i : Int} {x : Str} {l : List D} : D.is false .non .non = some (.bl (true)) := rfl
theorem is_non_ng {b : Bool} {i : Int} {x : Str} {l : List D} : D.is true .non .non = some (.bl (false)) := rfl
theorem is_non_tp {b : Bool} {i : Int} {x : Str} {l : List D} : D.is false .non (.bl true) = some (.bl (false)) := rfl
theorem is_non_tg {b : Bool} {i : Int} {x : Str} {l : List D} : D.is true .non (.bl true) = some (.bl (true)) := rfl
theorem is_non_fp {b : Bool} {i : Int} {x : Str} {l : List D} : D.is false .non (.bl false) = some (.bl (false)) := rfl
theorem is_non_fg {b : Bool} {i : Int} {x : Str} {l : List D} : D.is true .non (.bl false) = some (.bl (true)) := rfl
theorem is_bl_np {b : Bool} {i : Int} {x : Str} {l : List D} : D.is false (.bl b) .non = some (.bl (false)) := rfl
theorem is_bl_ng {b : Bool} {i : Int} {x : Str} {l : List D} : D.is true (.bl b) .non = some (.bl (true)) := rfl
theorem is_bl_tp {b : Bool} {i : Int} {x : Str} {l : List D} : D.is false (.bl b) (.bl true) = some (.bl ((b == true))) := rfl
theorem is_bl_tg {b : Bool} {i : Int} {x : Str} {l : List D} : D.is true (.bl b) (.bl true) = some (.bl (!(b == true))) := rfl
theorem is_bl_fp {b : Bool} {i : Int} {x : Str} {l : List D} : D.is false (.bl b) (.bl false) = some (.bl ((b == false))) := rfl
theorem is_bl_fg {b : Bool} {i : Int} {x : Str} {l : List D} : D.is true (.bl b) (.bl false) = some (.bl (!(b == false))) := rfl
theorem is_int_np {b : Bool} {i : Int} {x : Str} {l : List D} : D.is false (.int i) .non = some (.bl (false)) := rfl
theorem is_int_ng {b : Bool} {i : Int} {x : Str} {l : List D} : D.is true (.int i) .non = some (.bl (true)) := rfl
theorem is_int_tp {b : Bool} {i : Int} {x : Str} {l : List D} : D.is false (.int i) (.bl true) = some (.bl (false)) := rfl
theorem is_int_tg {b : Bool} {i : Int} {x : Str} {l : List D} : D.is true (.int i) (.bl true) = some (.bl (true)) := rfl
theorem is_int_fp {b : Bool} {i : Int} {x : Str} {l : List D} : D.is false (.int i) (.bl false) = some (.bl (false)) := rfl
theorem is_int_fg {b : Bool} {i : Int} {x : Str} {l : List D} : D.is true (.int i) (.bl false) = some (.bl (true)) := rfl
theorem is_str_np {b : Bool} {i : Int} {x : Str} {l : List D} : D.is false (.str x) .non = some (.bl (false)) := rfl
theorem is_str_ng {b : Bool} {i : Int} {x : Str} {l : List D} : D.is true (.str x) .non = some (.bl (true)) := rfl
theorem is_str_tp {b : Bool} {i : Int} {x : Str} {l : List D} : D.is false (.str x) (.bl true) = some (.bl (false)) := rfl
theorem is_str_tg {b : Bool} {i : Int} {x : Str} {l : List D} : D.is true (.str x) (.bl true) = some (.bl (true)) := rfl
theorem is_str_fp {b : Bool} {i : Int} {x : Str} {l : List D} : D.is false (.str x) (.bl false) = some (.bl (false)) := rfl
theorem is_str_fg {b : Bool} {i : Int} {x : Str} {l : List D} : D.is true (.str x) (.bl false) = some (.bl (true)) := rfl
theorem is_lst_np {b : Bool} {i : Int} {x : Str} {l : List D} : D.is false (.lst l) .non = some (.bl (false)) := rfl
theorem is_lst_ng {b : Bool} {i : Int} {x : Str} {l : List D} : D.is true (.lst l) .non = some (.bl (true)) := rfl
theorem is_lst_tp {b : Bool} {i : Int} {x : Str} {l : List D} : D.is false (.lst l) (.bl true) = some (.bl (false)) := rfl
theorem is_lst_tg {b : Bool} {i : Int} {x : Str} {l : List D} : D.is true (.lst l) (.bl true) = some (.bl (true)) := rfl
theorem is_lst_fp {b : Bool} {i : Int} {x : Str} {l : List D} : D.is false (.lst l) (.bl false) = some (.bl (false)) := rfl
theorem is_lst_fg {b : Bool} {i : Int} {x : Str} {l : List D} : D.is true (.lst l) (.bl false) = some (.bl (true)) := rfl
theorem is_tup_np {b : Bool} {i : Int} {x : Str} {l : List D} : D.is false (.tup l) .non = some (.bl (false)) := rfl
theorem is_tup_ng {b : Bool} {i : Int} {x : Str} {l : List D} : D.is true (.tup l) .non = some (.bl (true)) := rfl
theorem is_tup_tp {b : Bool} {i : Int} {x : Str} {l : List D} : D.is false (.tup l) (.bl true) = some (.bl (false)) := rfl
theorem is_tup_tg {b : Bool} {i : Int} {x : Str} {l : List D} : D.is true (.tup l) (.bl true) = some (.bl (true)) := rfl
theorem is_tup_fp {b : Bool} {i : Int} {x : Str} {l : List D} : D.is false (.tup l) (.bl false) = some (.bl (false)) := rfl
theorem is_tup_fg {b : Bool} {i : Int} {x : Str} {l : List D} : D.is true (.tup l) (.bl false) = some (.bl (true)) := rfl
theorem isi_non_int {b : Bool} {i : Int} {x : Str} {l : List D} : fIsi [.non, .val (.ty "int")] = some (.bl false) := rfl
theorem isi_non_bool {b : Bool} {i : Int} {x : Str} {l : List D} : fIsi [.non, .val (.ty "bool")] = some (.bl false) := rfl
theorem isi_non_list {b : Bool} {i : Int} {x : Str} {l : List D} : fIsi [.non, .val (.ty "list")] = some (.bl false) := rfl
theorem isi_non_tuple {b : Bool} {i : Int} {x : Str} {l : List D} : fIsi [.non, .val (.ty "tuple")] = some (.bl false) := rfl
theorem isi_non_str {b : Bool} {i : Int} {x : Str} {l : List D} : fIsi [.non, .val (.ty "str")] = some (.bl false) := rfl
theorem isi_non_dict {b : Bool} {i : Int} {x : Str} {l : List D} : fIsi [.non, .val (.ty "dict")] = some (.bl false) := rfl
theorem isi_non_lt {b : Bool} {i : Int} {x : Str} {l : List D} : fIsi [.non, .tup [.val (.ty "list"), .val (.ty "tuple")]] = some (.bl false) := rfl
theorem isi_bl_int {b : Bool} {i : Int} {x : Str} {l : List D} : fIsi [(.bl b), .val (.ty "int")] = some (.bl true) := rfl
theorem isi_bl_bool {b : Bool} {i : Int} {x : Str} {l : List D} : fIsi [(.bl b), .val (.ty "bool")] = some (.bl true) := rfl
theorem isi_bl_list {b : Bool} {i : Int} {x : Str} {l : List D} : fIsi [(.bl b), .val (.ty "list")] = some (.bl false) := rfl
theorem isi_bl_tuple {b : Bool} {i : Int} {x : Str} {l : List D} : fIsi [(.bl b), .val (.ty "tuple")] = some (.bl false) := rfl
theorem isi_bl_str {b : Bool} {i : Int} {x : Str} {l : List D} : fIsi [(.bl b), .val (.ty "str")] = some (.bl false) := rfl
theorem isi_bl_dict {b : Bool} {i : Int} {x : Str} {l : List D} : fIsi [(.bl b), .val (.ty "dict")] = some (.bl false) := rfl
theorem isi_bl_lt {b : Bool} {i : Int} {x : Str} {l : List D} : fIsi [(.bl b), .tup [.val (.ty "list"), .val (.ty "tuple")]] = some (.bl false) := rfl
theorem isi_int_int {b : Bool} {i : Int} {x : Str} {l : List D} : fIsi [(.int i), .val (.ty "int")] = some (.bl true) := rfl
theorem isi_int_bool {b : Bool} {i : Int} {x : Str} {l : List D} : fIsi [(.int i), .val (.ty "bool")] = some (.bl false) := rfl
theorem isi_int_list {b : Bool} {i : Int} {x : Str} {l : List D} : fIsi [(.int i), .val (.ty "list")] = some (.bl false) := rfl
theorem isi_int_tuple {b : Bool} {i : Int} {x : Str} {l : List D} : fIsi [(.int i), .val (.ty "tuple")] = some (.bl false) := rfl
theorem isi_int_str {b : Bool} {i : Int} {x : Str} {l : List D} : fIsi [(.int i), .val (.ty "str")] = some (.bl false) := rfl
theorem isi_int_dict {b : Bool} {i : Int} {x : Str} {l : List D} : fIsi [(.int i), .val (.ty "dict")] = some (.bl false) := rfl
theorem isi_int_lt {b : Bool} {i : Int} {x : Str} {l : List D} : fIsi [(.int i), .tup [.val (.ty "list"), .val (.ty "tuple")]] = some (.bl false) := rfl
theorem isi_str_int {b : Bool} {i : Int} {x : Str} {l : List D} : fIsi [(.str x), .val (.ty "int")] = some (.bl false) := rfl
theorem isi_str_bool {b : Bool} {i : Int} {x : Str} {l : List D} : fIsi [(.str x), .val (.ty "bool")] = some (.bl false) := rfl
theorem isi_str_list {b : Bool} {i : Int} {x : Str} {l : List D} : fIsi [(.str x), .val (.ty "list")] = some (.bl false) := rfl
theorem isi_str_tuple {b : Bool} {i : Int} {x : Str} {l : List D} : fIsi [(.str x), .val (.ty "tuple")] = some (.bl false) := rfl
theorem isi_str_str {b : Bool} {i : Int} {x : Str} {l : List D} : fIsi [(.str x), .val (.ty "str")] = some (.bl true) := rfl
theorem isi_str_dict {b : Bool} {i : Int} {x : Str} {l : List D} : fIsi [(.str x), .val (.ty "dict")] = some (.bl false) := rfl
theorem isi_str_lt {b : Bool} {i : Int} {x : Str} {l : List D} : fIsi [(.str x), .tup [.val (.ty "list"), .val (.ty "tuple")]] = some (.bl false) := rfl
theorem isi_lst_int {b : Bool} {i : Int} {x : Str} {l : List D} : fIsi [(.lst l), .val (.ty "int")] = some (.bl false) := rfl
theorem isi_lst_bool {b : Bool} {i : Int} {x : Str} {l : List D} : fIsi [(.lst l), .val (.ty "bool")] = some (.bl false) := rfl
theorem isi_lst_list {b : Bool} {i : Int} {x : Str} {l : List D} : fIsi [(.lst l), .val (.ty "list")] = some (.bl true) := rfl
theorem isi_lst_tuple {b : Bool} {i : Int} {x : Str} {l : List D} : fIsi [(.lst l), .val (.ty "tuple")] = some (.bl false) := rfl
theorem isi_lst_str {b : Bool} {i : Int} {x : Str} {l : List D} : fIsi [(.lst l), .val (.ty "str")] = some (.bl false) := rfl
theorem isi_lst_dict {b : Bool} {i : Int} {x : Str} {l : List D} : fIsi [(.lst l), .val (.ty "dict")] = some (.bl false) := rfl
theorem isi_lst_lt {b : Bool} {i : Int} {x : Str} {l : List D} : fIsi [(.lst l), .tup [.val (.ty "list"), .val (.ty "tuple")]] = some (.bl true) := rfl
theorem isi_tup_int {b : Bool} {i : Int} {x : Str} {l : List D} : fIsi [(.tup l), .val (.ty "int")] = some (.bl false) := rfl
theorem isi_tup_bool {b : Bool} {i : Int} {x : Str} {l : List D} : fIsi [(.tup l), .val (.ty "bool")] = some (.bl false) := rfl
theorem isi_tup_list {b : Bool} {i : Int} {x : Str} {l : List D} : fIsi [(.tup l), .val (.ty "list")] = some (.bl false) := rfl
theorem isi_tup_tuple {b : Bool} {i : Int} {x : Str} {l : List D} : fIsi [(.tup l), .val (.ty "tuple")] = some (.bl true) := rfl
theorem isi_tup_str {b : Bool} {i : Int} {x : Str} {l : List D} : fIsi [(.tup l), .val (.ty "str")] = some (.bl false) := rfl
theorem isi_tup_dict {b : Bool} {i : Int} {x : Str} {l : List D} : fIsi [(.tup l), .val (.ty "dict")] = some (.bl false) := rfl
theorem isi_tup_lt {b : Bool} {i : Int} {x : Str} {l : List D} : fIsi [(.tup l), .tup [.val (.ty "list"), .val (.ty "tuple")]] = some (.bl true) := rfl
end M3

/-! MT -/
set_option Elab.async false
set_option linter.all false
set_option maxRecDepth 100000
set_option maxHeartbeats 400000
namespace M3
open PySem PySem.Spec PyProof.Rows L2
/-- what the law's own call promises, from its mirror -/
theorem top_sp {K : Fg} {H : Hp} {a : Addr} {ns : List Int} {m : Fn} {E : XK} (hS : SqL K H a (ns.map V.int)) (h : FP (m [.fro (ns.map .int)]) fun d _ => d = .bl true) :
    spM K [] [0] 0 1 m [.ref a] H (fun v _ => v = .bl true) E := by
  have e0 : ∀ H : Hp, hid H (msk [[]] []) = H := fun H => hid_nil
  refine ⟨[.fro (ns.map .int)], [[]], [], rfl, rfl, rfl, List.nodup_nil, fun a m => (by cases m), fun i hi => ?_, ?_⟩
  · have : i = 0 := by omega
    subst this
    refine ⟨_, _, rfl, rfl, rfl, ?_⟩
    rw [e0]
    exact ⟨a, ns.map V.int, rfl, hS, ints_map _⟩
  · cases q : m [.fro (ns.map .int)] with
    | ok d e =>
      rw [q] at h
      cases (h : d = .bl true)
      intro v H' fp _ _ _ o _
      exact o.2
    | exc c x => rw [q] at h; exact h.elim
    | bad => rw [q] at h; exact h.elim
end M3

/-! W_k02 -/
set_option Elab.async false
set_option linter.all false
set_option maxRecDepth 100000
set_option maxHeartbeats 4000000
namespace M3
open PySem PySem.Spec PyProof.Rows L2
def topS (i : Nat) : Stmt := PySem.Challenge.pw_whobetter_k02_fractions.main.body.getD i (.Pass ⟨0, 0, 0, 0⟩)
abbrev s_lowest : Stmt := topS 2
abbrev N_lowest : List Str := ["number", "bottom", "common"]
theorem sc_lowest : FnScope N_lowest ["number", "bottom"] (defScope s_lowest) := ⟨rfl, rfl, rfl, by decide +kernel, rfl, by decide +kernel, by decide +kernel⟩
abbrev s_plus : Stmt := topS 3
abbrev N_plus : List Str := ["one", "other"]
theorem sc_plus : FnScope N_plus ["one", "other"] (defScope s_plus) := ⟨rfl, rfl, rfl, by decide +kernel, rfl, by decide +kernel, by decide +kernel⟩
abbrev s_minus : Stmt := topS 4
abbrev N_minus : List Str := ["one", "other"]
theorem sc_minus : FnScope N_minus ["one", "other"] (defScope s_minus) := ⟨rfl, rfl, rfl, by decide +kernel, rfl, by decide +kernel, by decide +kernel⟩
abbrev s_times : Stmt := topS 5
abbrev N_times : List Str := ["one", "other"]
theorem sc_times : FnScope N_times ["one", "other"] (defScope s_times) := ⟨rfl, rfl, rfl, by decide +kernel, rfl, by decide +kernel, by decide +kernel⟩
abbrev s_over : Stmt := topS 6
abbrev N_over : List Str := ["one", "other"]
theorem sc_over : FnScope N_over ["one", "other"] (defScope s_over) := ⟨rfl, rfl, rfl, by decide +kernel, rfl, by decide +kernel, by decide +kernel⟩
abbrev s_compared : Stmt := topS 7
abbrev N_compared : List Str := ["one", "other", "difference"]
theorem sc_compared : FnScope N_compared ["one", "other"] (defScope s_compared) := ⟨rfl, rfl, rfl, by decide +kernel, rfl, by decide +kernel, by decide +kernel⟩
abbrev s_law_hash : Stmt := topS 9
abbrev N_law_hash : List Str := ["seed", "index", "mixed"]
theorem sc_law_hash : FnScope N_law_hash ["seed", "index"] (defScope s_law_hash) := ⟨rfl, rfl, rfl, by decide +kernel, rfl, by decide +kernel, by decide +kernel⟩
abbrev s_law_random : Stmt := topS 10
abbrev N_law_random : List Str := ["generator", "bound", "drawn", "turn"]
theorem sc_law_random : FnScope N_law_random ["generator", "bound"] (defScope s_law_random) := ⟨rfl, rfl, rfl, by decide +kernel, rfl, by decide +kernel, by decide +kernel⟩
abbrev s_law_cell : Stmt := topS 11
abbrev N_law_cell : List Str := ["script", "index"]
theorem sc_law_cell : FnScope N_law_cell ["script", "index"] (defScope s_law_cell) := ⟨rfl, rfl, rfl, by decide +kernel, rfl, by decide +kernel, by decide +kernel⟩
abbrev s_law_generator : Stmt := topS 12
abbrev N_law_generator : List Str := ["script", "index", "seed"]
theorem sc_law_generator : FnScope N_law_generator ["script", "index"] (defScope s_law_generator) := ⟨rfl, rfl, rfl, by decide +kernel, rfl, by decide +kernel, by decide +kernel⟩
abbrev s_law_pick : Stmt := topS 13
abbrev N_law_pick : List Str := ["generator", "things"]
theorem sc_law_pick : FnScope N_law_pick ["generator", "things"] (defScope s_law_pick) := ⟨rfl, rfl, rfl, by decide +kernel, rfl, by decide +kernel, by decide +kernel⟩
abbrev s_law_same : Stmt := topS 14
abbrev N_law_same : List Str := ["told", "due", "at"]
theorem sc_law_same : FnScope N_law_same ["told", "due"] (defScope s_law_same) := ⟨rfl, rfl, rfl, by decide +kernel, rfl, by decide +kernel, by decide +kernel⟩
abbrev s_law_common : Stmt := topS 15
abbrev N_law_common : List Str := ["one", "other"]
theorem sc_law_common : FnScope N_law_common ["one", "other"] (defScope s_law_common) := ⟨rfl, rfl, rfl, by decide +kernel, rfl, by decide +kernel, by decide +kernel⟩
abbrev s_law_lowest : Stmt := topS 16
abbrev N_law_lowest : List Str := ["number", "bottom", "common"]
theorem sc_law_lowest : FnScope N_law_lowest ["number", "bottom"] (defScope s_law_lowest) := ⟨rfl, rfl, rfl, by decide +kernel, rfl, by decide +kernel, by decide +kernel⟩
abbrev s_law_case_right : Stmt := topS 17
abbrev N_law_case_right : List Str := ["script", "index", "generator", "most", "one", "other", "number", "bottom", "sums", "told", "difference", "due"]
theorem sc_law_case_right : FnScope N_law_case_right ["script", "index"] (defScope s_law_case_right) := ⟨rfl, rfl, rfl, by decide +kernel, rfl, by decide +kernel, by decide +kernel⟩
abbrev s_law : Stmt := topS 18
abbrev N_law : List Str := ["script"]
theorem sc_law : FnScope N_law ["script"] (defScope s_law) := ⟨rfl, rfl, rfl, by decide +kernel, rfl, by decide +kernel, by decide +kernel⟩
/-- where the defs stand -/
structure Ad where
  a_lowest : Addr
  d_lowest : FuncData
  a_plus : Addr
  d_plus : FuncData
  a_minus : Addr
  d_minus : FuncData
  a_times : Addr
  d_times : FuncData
  a_over : Addr
  d_over : FuncData
  a_compared : Addr
  d_compared : FuncData
  a_law_hash : Addr
  d_law_hash : FuncData
  a_law_random : Addr
  d_law_random : FuncData
  a_law_cell : Addr
  d_law_cell : FuncData
  a_law_generator : Addr
  d_law_generator : FuncData
  a_law_pick : Addr
  d_law_pick : FuncData
  a_law_same : Addr
  d_law_same : FuncData
  a_law_common : Addr
  d_law_common : FuncData
  a_law_lowest : Addr
  d_law_lowest : FuncData
  a_law_case_right : Addr
  d_law_case_right : FuncData
  a_law : Addr
  d_law : FuncData
/-- what stands behind the top -/
structure GF (K : Fg) (mg : Str → Option Value) (A : Ad) : Prop where
  F_lowest : Fun K "lowest" "lowest" s_lowest A.a_lowest A.d_lowest
  g_lowest : mg "lowest" = some (.ref A.a_lowest)
  b_lowest : Binds K A.d_lowest ["number", "bottom"] []
  F_plus : Fun K "plus" "plus" s_plus A.a_plus A.d_plus
  g_plus : mg "plus" = some (.ref A.a_plus)
  b_plus : Binds K A.d_plus ["one", "other"] []
  F_minus : Fun K "minus" "minus" s_minus A.a_minus A.d_minus
  g_minus : mg "minus" = some (.ref A.a_minus)
  b_minus : Binds K A.d_minus ["one", "other"] []
  F_times : Fun K "times" "times" s_times A.a_times A.d_times
  g_times : mg "times" = some (.ref A.a_times)
  b_times : Binds K A.d_times ["one", "other"] []
  F_over : Fun K "over" "over" s_over A.a_over A.d_over
  g_over : mg "over" = some (.ref A.a_over)
  b_over : Binds K A.d_over ["one", "other"] []
  F_compared : Fun K "compared" "compared" s_compared A.a_compared A.d_compared
  g_compared : mg "compared" = some (.ref A.a_compared)
  b_compared : Binds K A.d_compared ["one", "other"] []
  F_law_hash : Fun K "_law_hash" "_law_hash" s_law_hash A.a_law_hash A.d_law_hash
  g_law_hash : mg "_law_hash" = some (.ref A.a_law_hash)
  b_law_hash : Binds K A.d_law_hash ["seed", "index"] []
  F_law_random : Fun K "_law_random" "_law_random" s_law_random A.a_law_random A.d_law_random
  g_law_random : mg "_law_random" = some (.ref A.a_law_random)
  b_law_random : Binds K A.d_law_random ["generator", "bound"] []
  F_law_cell : Fun K "_law_cell" "_law_cell" s_law_cell A.a_law_cell A.d_law_cell
  g_law_cell : mg "_law_cell" = some (.ref A.a_law_cell)
  b_law_cell : Binds K A.d_law_cell ["script", "index"] []
  F_law_generator : Fun K "_law_generator" "_law_generator" s_law_generator A.a_law_generator A.d_law_generator
  g_law_generator : mg "_law_generator" = some (.ref A.a_law_generator)
  b_law_generator : Binds K A.d_law_generator ["script", "index"] []
  F_law_pick : Fun K "_law_pick" "_law_pick" s_law_pick A.a_law_pick A.d_law_pick
  g_law_pick : mg "_law_pick" = some (.ref A.a_law_pick)
  b_law_pick : Binds K A.d_law_pick ["generator", "things"] []
  F_law_same : Fun K "_law_same" "_law_same" s_law_same A.a_law_same A.d_law_same
  g_law_same : mg "_law_same" = some (.ref A.a_law_same)
  b_law_same : Binds K A.d_law_same ["told", "due"] []
  F_law_common : Fun K "_law_common" "_law_common" s_law_common A.a_law_common A.d_law_common
  g_law_common : mg "_law_common" = some (.ref A.a_law_common)
  b_law_common : Binds K A.d_law_common ["one", "other"] []
  F_law_lowest : Fun K "_law_lowest" "_law_lowest" s_law_lowest A.a_law_lowest A.d_law_lowest
  g_law_lowest : mg "_law_lowest" = some (.ref A.a_law_lowest)
  b_law_lowest : Binds K A.d_law_lowest ["number", "bottom"] []
  F_law_case_right : Fun K "_law_case_right" "_law_case_right" s_law_case_right A.a_law_case_right A.d_law_case_right
  g_law_case_right : mg "_law_case_right" = some (.ref A.a_law_case_right)
  b_law_case_right : Binds K A.d_law_case_right ["script", "index"] []
  F_law : Fun K "law" "law" s_law A.a_law A.d_law
  g_law : mg "law" = some (.ref A.a_law)
  b_law : Binds K A.d_law ["script"] []
  n_abs : mg "abs" = none
  n_bool : mg "bool" = none
  n_dict : mg "dict" = none
  n_int : mg "int" = none
  n_isinstance : mg "isinstance" = none
  n_len : mg "len" = none
  n_list : mg "list" = none
  n_max : mg "max" = none
  n_range : mg "range" = none
  n_str : mg "str" = none
  n_sum : mg "sum" = none
  n_tuple : mg "tuple" = none
  i_gcd : mg "gcd" = some (.builtin "math.gcd")
section
variable {Pg : Program} {w : World} {K : PySem.W.Frag} {mg : Str → Option Value} {base : Heap} {A : Ad}
def b_lowest : MSt :=
 (sSeq (sSet 2 (mf fGcd (mCons (mVar 0) (mCons (mVar 1) mNil))))
 (sSeq (sIf (mB (m2 D.lt (mVar 1) (mC (.int 0))))
 (sSet 2 (m1 D.neg (mVar 2)))
 sNx)
 (sRet (mf mkTup (mCons (m2 D.fdiv (mVar 0) (mVar 2)) (mCons (m2 D.fdiv (mVar 1) (mVar 2)) mNil))))))
def m_lowest : Fn := mFn 0 3 2 b_lowest
theorem ok_lowest (T : GF K mg A) : FnOk Pg w K mg base (L2.CX Pg w) 1 A.a_lowest A.d_lowest ["number", "bottom"] (spM K [] [0, 0, 0] 0 2 m_lowest) := by
    exact fn_ok [] [0, 0, 0] [0, 0, 0] 0 2 T.F_lowest sc_lowest (fun cdv Ar outer s H E hr =>
 (mss_cons (ms_set 2 sc_lowest.nd (me_cF cGcd (mab_cons (me_var 0) (mab_cons (me_var 1) mab_nil)) T.i_gcd))
 (mss_cons (ms_if (mt_cmp oLt (me_var 1) me_int)
 (mss_one (ms_set 2 sc_lowest.nd (me_un oNeg (me_var 2))))
 mss_nil)
 (mss_one (ms_ret rfl (me_tup (ma_cons (me_bin oFdiv (me_var 0) (me_var 2)) (ma_cons (me_bin oFdiv (me_var 1) (me_var 2)) ma_nil))))))))
def b_plus : MSt :=
 (sRet (mCall m_lowest [none, none] [] (mCons (m2 D.add (m2 D.mul (m2 D.ix (mVar 0) (mC (.int 0))) (m2 D.ix (mVar 1) (mC (.int 1)))) (m2 D.mul (m2 D.ix (mVar 1) (mC (.int 0))) (m2 D.ix (mVar 0) (mC (.int 1))))) (mCons (m2 D.mul (m2 D.ix (mVar 0) (mC (.int 1))) (m2 D.ix (mVar 1) (mC (.int 1)))) mNil))))
def m_plus : Fn := mFn 0 2 2 b_plus
theorem ok_plus (T : GF K mg A) : FnOk Pg w K mg base (L2.CX Pg w) 2 A.a_plus A.d_plus ["one", "other"] (spM K [] [0, 0] 0 2 m_plus) := by
    have G_lowest := ok_lowest (Pg := Pg) (w := w) (base := base) T
    exact fn_ok [] [0, 0] [0, 0] 0 2 T.F_plus sc_plus (fun cdv Ar outer s H E hr =>
 (mss_one (ms_ret rfl (MO.me (mo_call (dd := []) (dvs := []) G_lowest (hr.mono (by decide)) T.g_lowest T.F_lowest.kp T.b_lowest .nil (fun _ => rfl) (takes_of rfl rfl rfl rfl) (mai_cons (me_binG oAdd (me_binG oMul (me_ix (me_var 0) me_int) (me_ix (me_var 1) me_int)) (me_binG oMul (me_ix (me_var 1) me_int) (me_ix (me_var 0) me_int))) (mai_cons (me_binG oMul (me_ix (me_var 0) me_int) (me_ix (me_var 1) me_int)) mai_nil)))))))
def b_minus : MSt :=
 (sRet (mCall m_lowest [none, none] [] (mCons (m2 D.sub (m2 D.mul (m2 D.ix (mVar 0) (mC (.int 0))) (m2 D.ix (mVar 1) (mC (.int 1)))) (m2 D.mul (m2 D.ix (mVar 1) (mC (.int 0))) (m2 D.ix (mVar 0) (mC (.int 1))))) (mCons (m2 D.mul (m2 D.ix (mVar 0) (mC (.int 1))) (m2 D.ix (mVar 1) (mC (.int 1)))) mNil))))
def m_minus : Fn := mFn 0 2 2 b_minus
theorem ok_minus (T : GF K mg A) : FnOk Pg w K mg base (L2.CX Pg w) 2 A.a_minus A.d_minus ["one", "other"] (spM K [] [0, 0] 0 2 m_minus) := by
    have G_lowest := ok_lowest (Pg := Pg) (w := w) (base := base) T
    exact fn_ok [] [0, 0] [0, 0] 0 2 T.F_minus sc_minus (fun cdv Ar outer s H E hr =>
 (mss_one (ms_ret rfl (MO.me (mo_call (dd := []) (dvs := []) G_lowest (hr.mono (by decide)) T.g_lowest T.F_lowest.kp T.b_lowest .nil (fun _ => rfl) (takes_of rfl rfl rfl rfl) (mai_cons (me_bin oSub (me_binG oMul (me_ix (me_var 0) me_int) (me_ix (me_var 1) me_int)) (me_binG oMul (me_ix (me_var 1) me_int) (me_ix (me_var 0) me_int))) (mai_cons (me_binG oMul (me_ix (me_var 0) me_int) (me_ix (me_var 1) me_int)) mai_nil)))))))
def b_times : MSt :=
 (sRet (mCall m_lowest [none, none] [] (mCons (m2 D.mul (m2 D.ix (mVar 0) (mC (.int 0))) (m2 D.ix (mVar 1) (mC (.int 0)))) (mCons (m2 D.mul (m2 D.ix (mVar 0) (mC (.int 1))) (m2 D.ix (mVar 1) (mC (.int 1)))) mNil))))
def m_times : Fn := mFn 0 2 2 b_times
theorem ok_times (T : GF K mg A) : FnOk Pg w K mg base (L2.CX Pg w) 2 A.a_times A.d_times ["one", "other"] (spM K [] [0, 0] 0 2 m_times) := by
    have G_lowest := ok_lowest (Pg := Pg) (w := w) (base := base) T
    exact fn_ok [] [0, 0] [0, 0] 0 2 T.F_times sc_times (fun cdv Ar outer s H E hr =>
 (mss_one (ms_ret rfl (MO.me (mo_call (dd := []) (dvs := []) G_lowest (hr.mono (by decide)) T.g_lowest T.F_lowest.kp T.b_lowest .nil (fun _ => rfl) (takes_of rfl rfl rfl rfl) (mai_cons (me_binG oMul (me_ix (me_var 0) me_int) (me_ix (me_var 1) me_int)) (mai_cons (me_binG oMul (me_ix (me_var 0) me_int) (me_ix (me_var 1) me_int)) mai_nil)))))))
def b_over : MSt :=
 (sRet (mCall m_lowest [none, none] [] (mCons (m2 D.mul (m2 D.ix (mVar 0) (mC (.int 0))) (m2 D.ix (mVar 1) (mC (.int 1)))) (mCons (m2 D.mul (m2 D.ix (mVar 0) (mC (.int 1))) (m2 D.ix (mVar 1) (mC (.int 0)))) mNil))))
def m_over : Fn := mFn 0 2 2 b_over
theorem ok_over (T : GF K mg A) : FnOk Pg w K mg base (L2.CX Pg w) 2 A.a_over A.d_over ["one", "other"] (spM K [] [0, 0] 0 2 m_over) := by
    have G_lowest := ok_lowest (Pg := Pg) (w := w) (base := base) T
    exact fn_ok [] [0, 0] [0, 0] 0 2 T.F_over sc_over (fun cdv Ar outer s H E hr =>
 (mss_one (ms_ret rfl (MO.me (mo_call (dd := []) (dvs := []) G_lowest (hr.mono (by decide)) T.g_lowest T.F_lowest.kp T.b_lowest .nil (fun _ => rfl) (takes_of rfl rfl rfl rfl) (mai_cons (me_binG oMul (me_ix (me_var 0) me_int) (me_ix (me_var 1) me_int)) (mai_cons (me_binG oMul (me_ix (me_var 0) me_int) (me_ix (me_var 1) me_int)) mai_nil)))))))
def b_compared : MSt :=
 (sSeq (sSet 2 (m2 D.sub (m2 D.mul (m2 D.ix (mVar 0) (mC (.int 0))) (m2 D.ix (mVar 1) (mC (.int 1)))) (m2 D.mul (m2 D.ix (mVar 1) (mC (.int 0))) (m2 D.ix (mVar 0) (mC (.int 1))))))
 (sRet (m2 D.sub (m2 D.gt (mVar 2) (mC (.int 0))) (m2 D.lt (mVar 2) (mC (.int 0))))))
def m_compared : Fn := mFn 0 3 2 b_compared
theorem ok_compared (T : GF K mg A) : FnOk Pg w K mg base (L2.CX Pg w) 1 A.a_compared A.d_compared ["one", "other"] (spM K [] [0, 0, 0] 0 2 m_compared) := by
    exact fn_ok [] [0, 0, 0] [0, 0, 0] 0 2 T.F_compared sc_compared (fun cdv Ar outer s H E hr =>
 (mss_cons (ms_set 2 sc_compared.nd (me_bin oSub (me_binG oMul (me_ix (me_var 0) me_int) (me_ix (me_var 1) me_int)) (me_binG oMul (me_ix (me_var 1) me_int) (me_ix (me_var 0) me_int))))
 (mss_one (ms_ret rfl (me_bin oSub (me_cmp oGt (me_var 2) me_int) (me_cmp oLt (me_var 2) me_int))))))
def b_law_hash : MSt :=
 (sSeq (sSet 2 (m2 D.fmod (mf fInt (mCons (m2 D.add (m2 D.add (m2 D.add (m2 D.mul (mVar 0) (mC (.int 1140671))) (m2 D.mul (m2 D.mul (mC (.int 27644437)) (mVar 1)) (mVar 1))) (m2 D.mul (mC (.int 131)) (mVar 1))) (mC (.int 19))) mNil)) (mC (.int 2147483629))))
 (sSeq (sSet 2 (m2 D.fmod (mf fInt (mCons (m2 D.add (m2 D.add (m2 D.mul (mVar 2) (mVar 2)) (m2 D.mul (mC (.int 62089)) (mVar 1))) (mC (.int 32416187))) mNil)) (mC (.int 2147483587))))
 (sRet (m2 D.fmod (mf fInt (mCons (m2 D.mul (mVar 2) (mC (.int 48271))) mNil)) (mC (.int 2147483647))))))
def m_law_hash : Fn := mFn 0 3 2 b_law_hash
theorem ok_law_hash (T : GF K mg A) : FnOk Pg w K mg base (L2.CX Pg w) 1 A.a_law_hash A.d_law_hash ["seed", "index"] (spM K [] [0, 0, 0] 0 2 m_law_hash) := by
    exact fn_ok [] [0, 0, 0] [0, 0, 0] 0 2 T.F_law_hash sc_law_hash (fun cdv Ar outer s H E hr =>
 (mss_cons (ms_set 2 sc_law_hash.nd (me_bin oFmod (me_cT cInt (mab_cons (me_binG oAdd (me_binG oAdd (me_binG oAdd (me_binG oMul (me_var 0) me_int) (me_binG oMul (me_binG oMul me_int (me_var 1)) (me_var 1))) (me_binG oMul me_int (me_var 1))) me_int) mab_nil) T.n_int) me_int))
 (mss_cons (ms_set 2 sc_law_hash.nd (me_bin oFmod (me_cT cInt (mab_cons (me_binG oAdd (me_binG oAdd (me_binG oMul (me_var 2) (me_var 2)) (me_binG oMul me_int (me_var 1))) me_int) mab_nil) T.n_int) me_int))
 (mss_one (ms_ret rfl (me_bin oFmod (me_cT cInt (mab_cons (me_binG oMul (me_var 2) me_int) mab_nil) T.n_int) me_int))))))
def b_law_random : MSt :=
 (sSeq (sIf (mB (m2 D.gt (m2 D.ix (mVar 0) (mC (.int 0))) (mC (.int 0))))
 (sSeq (sSet 2 (m2 D.fmod (mf fInt (mCons (m2 D.ix (mVar 0) (mC (.int 0))) mNil)) (mVar 1)))
 (sSeq (sSub 0 (mC (.int 0)) (m2 D.fdiv (m2 D.ix (mVar 0) (mC (.int 0))) (mVar 1)))
 (sRet (mVar 2))))
 sNx)
 (sSeq (sSet 2 (mC (.int 0)))
 (sSeq (sFor (gN 3) (iR1 (mCons (m2 D.add (mC (.int 1)) (m2 D.fdiv (m1 fBits (mVar 1)) (mC (.int 30)))) mNil))
 (sSeq (sSub 0 (mC (.int 2)) (m2 D.add (m2 D.ix (mVar 0) (mC (.int 2))) (mC (.int 1))))
 (sSet 2 (m2 D.add (m2 D.mul (mVar 2) (mC (.int 2147483587))) (mCall m_law_hash [none, none] [] (mCons (m2 D.ix (mVar 0) (mC (.int 1))) (mCons (m2 D.ix (mVar 0) (mC (.int 2))) mNil)))))))
 (sRet (m2 D.fmod (mf fInt (mCons (mVar 2) mNil)) (mVar 1))))))
def m_law_random : Fn := mFn 0 4 2 b_law_random
theorem ok_law_random (T : GF K mg A) : FnOk Pg w K mg base (L2.CX Pg w) 2 A.a_law_random A.d_law_random ["generator", "bound"] (spM K [0] [1, 0, 0, 0] 0 2 m_law_random) := by
    have G_law_hash := ok_law_hash (Pg := Pg) (w := w) (base := base) T
    exact fn_ok [0] [1, 0, 0, 0] [1, 0, 0, 0] 0 2 T.F_law_random sc_law_random (fun cdv Ar outer s H E hr =>
 (mss_cons (ms_if (mt_cmp oGt (me_ix (me_var 0) me_int) me_int)
 (mss_cons (ms_set 2 sc_law_random.nd (me_bin oFmod (me_cT cInt (mab_cons (me_ix (me_var 0) me_int) mab_nil) T.n_int) (me_var 1)))
 (mss_cons (ms_sub 0 (me_bin oFdiv (me_ix (me_var 0) me_int) (me_var 1)) me_int)
 (mss_one (ms_ret rfl (me_var 2)))))
 mss_nil)
 (mss_cons (ms_set 2 sc_law_random.nd me_int)
 (mss_cons (ms_for (passes_of rfl) rfl (mi_r1 (ma_cons (me_binG oAdd me_int (me_bin oFdiv (me_bits (me_var 1)) me_int)) ma_nil) T.n_range) (mg_name 3 sc_law_random.nd)
 (mss_cons (ms_sub 0 (me_binG oAdd (me_ix (me_var 0) me_int) me_int) me_int)
 (mss_one (ms_set 2 sc_law_random.nd (me_binG oAdd (me_binG oMul (me_var 2) me_int) (MO.me (mo_call (dd := []) (dvs := []) G_law_hash (hr.mono (by decide)) T.g_law_hash T.F_law_hash.kp T.b_law_hash .nil (fun _ => rfl) (takes_of rfl rfl rfl rfl) (mai_cons (me_ix (me_var 0) me_int) (mai_cons (me_ix (me_var 0) me_int) mai_nil)))))))))
 (mss_one (ms_ret rfl (me_bin oFmod (me_cT cInt (mab_cons (me_var 2) mab_nil) T.n_int) (me_var 1))))))))
def b_law_cell : MSt :=
 (sSeq (sIf (mB (m2 D.lt (mVar 1) (mf fLen (mCons (mVar 0) mNil))))
 (sRet (m2 D.ix (mVar 0) (mVar 1)))
 sNx)
 (sRet (m2 D.fmod (mf fSumF (mCons (mSl (mVar 0) mPn (mPs (mC (.int 1)))) mNil)) (mC (.int 1000003)))))
def m_law_cell : Fn := mFn 0 2 2 b_law_cell
theorem ok_law_cell (T : GF K mg A) : FnOk Pg w K mg base (L2.CX Pg w) 1 A.a_law_cell A.d_law_cell ["script", "index"] (spM K [] [0, 0] 0 2 m_law_cell) := by
    exact fn_ok [] [0, 0] [0, 0] 0 2 T.F_law_cell sc_law_cell (fun cdv Ar outer s H E hr =>
 (mss_cons (ms_if (mt_cmp oLt (me_var 1) (me_cB cLen (mab_cons (me_var 0) mab_nil) T.n_len))
 (mss_one (ms_ret rfl (me_ix (me_var 0) (me_var 1))))
 mss_nil)
 (mss_one (ms_ret rfl (me_bin oFmod (me_cB (cSum rfl) (mab_cons (me_sl (me_var 0) mpt_none (mpt_some me_int)) mab_nil) T.n_sum) me_int)))))
def b_law_generator : MSt :=
 (sSeq (sSet 2 (mCall m_law_cell [none, none] [] (mCons (mVar 0) (mCons (mVar 1) mNil))))
 (sRet (mf mkLst (mCons (m2 D.fmod (mf fInt (mCons (mf fMax2 (mCons (m2 D.sub (mVar 2) (m2 D.pow (mC (.int 10)) (mC (.int 18)))) (mCons (mC (.int 0)) mNil))) mNil)) (m2 D.pow (m2 D.pow (mC (.int 10)) (mC (.int 60))) (mC (.int 10)))) (mCons (m2 D.fmod (mf fInt (mCons (mVar 2) mNil)) (mC (.int 2147483647))) (mCons (m2 D.mul (mC (.int 1000)) (mVar 1)) mNil))))))
def m_law_generator : Fn := mFn 1 3 2 b_law_generator
theorem ok_law_generator (T : GF K mg A) : FnOk Pg w K mg base (L2.CX Pg w) 2 A.a_law_generator A.d_law_generator ["script", "index"] (spM K [] [0, 0, 0] 1 2 m_law_generator) := by
    have G_law_cell := ok_law_cell (Pg := Pg) (w := w) (base := base) T
    exact fn_ok [] [0, 0, 0] [0, 0, 0] 1 2 T.F_law_generator sc_law_generator (fun cdv Ar outer s H E hr =>
 (mss_cons (ms_set 2 sc_law_generator.nd (MO.me (mo_call (dd := []) (dvs := []) G_law_cell (hr.mono (by decide)) T.g_law_cell T.F_law_cell.kp T.b_law_cell .nil (fun _ => rfl) (takes_of rfl rfl rfl rfl) (mai_cons (me_var 0) (mai_cons (me_var 1) mai_nil)))))
 (mss_one (ms_retO rfl (mo_lst (ma_cons (me_bin oFmod (me_cT cInt (mab_cons (me_cB (cMax2 rfl) (mab_cons (me_bin oSub (me_var 2) (me_bin oPow me_int me_int)) (mab_cons me_int mab_nil)) T.n_max) mab_nil) T.n_int) (me_bin oPow (me_bin oPow me_int me_int) me_int)) (ma_cons (me_bin oFmod (me_cT cInt (mab_cons (me_var 2) mab_nil) T.n_int) me_int) (ma_cons (me_binG oMul me_int (me_var 1)) ma_nil))))))))
def b_law_pick : MSt :=
 (sRet (m2 D.ix (mVar 1) (mCall m_law_random [some 0, none] [] (mCons (mHole 0) (mCons (mf fLen (mCons (mVar 1) mNil)) mNil)))))
def m_law_pick : Fn := mFn 0 2 2 b_law_pick
theorem ok_law_pick (T : GF K mg A) : FnOk Pg w K mg base (L2.CX Pg w) 3 A.a_law_pick A.d_law_pick ["generator", "things"] (spM K [0] [1, 0] 0 2 m_law_pick) := by
    have G_law_random := ok_law_random (Pg := Pg) (w := w) (base := base) T
    exact fn_ok [0] [1, 0] [1, 0] 0 2 T.F_law_pick sc_law_pick (fun cdv Ar outer s H E hr =>
 (mss_one (ms_ret rfl (me_ix (me_var 1) (MO.me (mo_call (dd := []) (dvs := []) G_law_random (hr.mono (by decide)) T.g_law_random T.F_law_random.kp T.b_law_random .nil (fun _ => rfl) (takes_of rfl rfl rfl rfl) (mai_io 0 (mai_cons (me_cB cLen (mab_cons (me_var 1) mab_nil) T.n_len) mai_nil))))))))
def b_law_same (self : Fn) : MSt :=
 (sSeq (sIf (mOr (mB (m2 (D.is false) (mVar 1) (mC .non))) (mOr (mB (m2 (D.is false) (mVar 1) (mC (.bl true)))) (mB (m2 (D.is false) (mVar 1) (mC (.bl false))))))
 (sRet (mIf (mB (m2 (D.is false) (mVar 1) (mC .non))) (m2 (D.is false) (mVar 0) (mC .non)) (mIf (mB (m2 (D.is false) (mVar 1) (mC (.bl true)))) (m2 (D.is false) (mVar 0) (mC (.bl true))) (m2 (D.is false) (mVar 0) (mC (.bl false))))))
 sNx)
 (sSeq (sIf (mB (mf fIsi (mCons (mVar 1) (mCons (mf mkTup (mCons (mC (.val (.ty "list"))) (mCons (mC (.val (.ty "tuple"))) mNil))) mNil))))
 (sSeq (sIf (mOr (mAnd (mNot (mB (mf fIsi (mCons (mVar 0) (mCons (mC (.val (.ty "list"))) mNil))))) (mB (mf fIsi (mCons (mVar 1) (mCons (mC (.val (.ty "list"))) mNil))))) (mAnd (mNot (mB (mf fIsi (mCons (mVar 0) (mCons (mC (.val (.ty "tuple"))) mNil))))) (mB (mf fIsi (mCons (mVar 1) (mCons (mC (.val (.ty "tuple"))) mNil))))))
 (sRet (mC (.bl false)))
 sNx)
 (sRet (mAnd (m2 D.eq (mf fLen (mCons (mVar 0) mNil)) (mf fLen (mCons (mVar 1) mNil))) (m2 D.eq (mLc [2] (gN 2) (mNot (mB (mCall self [none, none] [] (mCons (m2 D.ix (mVar 0) (mVar 2)) (mCons (m2 D.ix (mVar 1) (mVar 2)) mNil))))) (mVar 2) (iR1 (mCons (mf fLen (mCons (mVar 1) mNil)) mNil))) (mf mkLst mNil)))))
 sNx)
 (sSeq (sIf (mB (mf fIsi (mCons (mVar 1) (mCons (mC (.val (.ty "int"))) mNil))))
 (sRet (mAnd (mf fIsi (mCons (mVar 0) (mCons (mC (.val (.ty "int"))) mNil))) (mAnd (mNot (mf fIsi (mCons (mVar 0) (mCons (mC (.val (.ty "bool"))) mNil)))) (m2 D.eq (mVar 0) (mVar 1)))))
 sNx)
 (sRet (mAnd (mf fIsi (mCons (mVar 0) (mCons (mC (.val (.ty "str"))) mNil))) (m2 D.eq (mVar 0) (mVar 1)))))))
def r_law_same : Nat → Fn
 | 0 => fun _ => .bad
 | n + 1 => mFn 0 3 2 (b_law_same (r_law_same n))
@[irreducible] def m_law_same (n : Nat) : Fn := r_law_same n
theorem z_law_same : m_law_same 0 = fun _ => .bad := by unfold m_law_same; rfl
theorem e_law_same (n : Nat) : m_law_same (n + 1) = mFn 0 3 2 (b_law_same (m_law_same n)) := by unfold m_law_same; rfl
theorem ok_law_same (T : GF K mg A) : ∀ n : Nat, FnOk Pg w K mg base (L2.CX Pg w) (0 + n) A.a_law_same A.d_law_same ["told", "due"] (spM K [] [0, 0, 0] 0 2 (m_law_same n))
  | 0 => by
    rw [z_law_same]
    exact fn_bad
  | n + 1 => by
    have ih := ok_law_same T n
    rw [e_law_same]
    exact fn_ok [] [0, 0, 0] [0, 0, 0] 0 2 T.F_law_same sc_law_same (fun cdv Ar outer s H E hr =>
 (mss_cons (ms_if (MW.mt (mw_or (mt_cmp oIs (me_var 1) me_non) (mw_or (mt_cmp oIs (me_var 1) me_bl) (mw_or1 (mt_cmp oIs (me_var 1) me_bl)))))
 (mss_one (ms_ret rfl (me_if (mt_cmp oIs (me_var 1) me_non) (me_cmp oIs (me_var 0) me_non) (me_if (mt_cmp oIs (me_var 1) me_bl) (me_cmp oIs (me_var 0) me_bl) (me_cmp oIs (me_var 0) me_bl)))))
 mss_nil)
 (mss_cons (ms_if (mt_val (me_cB cIsi (mab_cons (me_var 1) (mab_cons (me_tup (ma_cons (me_ty (T := "list") T.n_list) (ma_cons (me_ty (T := "tuple") T.n_tuple) ma_nil))) mab_nil)) T.n_isinstance))
 (mss_cons (ms_if (MW.mt (mw_or (MW.mt (mw_and (mt_not (mt_val (me_cB cIsi (mab_cons (me_var 0) (mab_cons (me_ty (T := "list") T.n_list) mab_nil)) T.n_isinstance))) (mw_and1 (mt_val (me_cB cIsi (mab_cons (me_var 1) (mab_cons (me_ty (T := "list") T.n_list) mab_nil)) T.n_isinstance))))) (mw_or1 (MW.mt (mw_and (mt_not (mt_val (me_cB cIsi (mab_cons (me_var 0) (mab_cons (me_ty (T := "tuple") T.n_tuple) mab_nil)) T.n_isinstance))) (mw_and1 (mt_val (me_cB cIsi (mab_cons (me_var 1) (mab_cons (me_ty (T := "tuple") T.n_tuple) mab_nil)) T.n_isinstance))))))))
 (mss_one (ms_ret rfl me_bl))
 mss_nil)
 (mss_one (ms_ret rfl (me_and (me_cmp (oEq hr.units) (me_cB cLen (mab_cons (me_var 0) mab_nil) T.n_len) (me_cB cLen (mab_cons (me_var 1) mab_nil) T.n_len)) (me_one (me_cmp (oEq hr.units) (MO.me (mo_lc (own := [("at", 2)]) (vs := [2]) rfl sc_law_same.nd (blkOk_by (N := N_law_same) (sc := defScope s_law_same) (by decide +kernel)) (mi_r1 (ma_cons (me_cB cLen (mab_cons (me_var 1) mab_nil) T.n_len) ma_nil) T.n_range) (fun _ _ _ _ _ => (mg_name 2 sc_law_same.nd)) (fun _ _ _ _ _ => (mts_one (mt_not (mt_val (MO.me (mo_call (dd := []) (dvs := []) ih hr T.g_law_same T.F_law_same.kp T.b_law_same .nil (fun _ => rfl) takes0 (mai_cons (me_ix (me_var 0) (me_var 2)) (mai_cons (me_ix (me_var 1) (me_var 2)) mai_nil)))))))) (fun _ _ _ _ _ => (ME.mo (me_var 2))))) (me_lst ma_nil)))))))
 mss_nil)
 (mss_cons (ms_if (mt_val (me_cB cIsi (mab_cons (me_var 1) (mab_cons (me_ty (T := "int") T.n_int) mab_nil)) T.n_isinstance))
 (mss_one (ms_ret rfl (me_and (me_cB cIsi (mab_cons (me_var 0) (mab_cons (me_ty (T := "int") T.n_int) mab_nil)) T.n_isinstance) (me_and (me_not (me_cB cIsi (mab_cons (me_var 0) (mab_cons (me_ty (T := "bool") T.n_bool) mab_nil)) T.n_isinstance)) (me_one (me_cmp (oEq hr.units) (me_var 0) (me_var 1)))))))
 mss_nil)
 (mss_one (ms_ret rfl (me_and (me_cB cIsi (mab_cons (me_var 0) (mab_cons (me_ty (T := "str") T.n_str) mab_nil)) T.n_isinstance) (me_one (me_cmp (oEq hr.units) (me_var 0) (me_var 1))))))))))
def b_law_common : MSt :=
 (sSeq (sWhl (mB (m2 D.ne (mVar 1) (mC (.int 0))))
 (sPar 0 1 (mCons (mVar 1) (mCons (m2 D.sub (mVar 0) (m2 D.mul (mVar 1) (m2 D.fdiv (mVar 0) (mVar 1)))) mNil))))
 (sRet (mf fAbs (mCons (mVar 0) mNil))))
def m_law_common : Fn := mFn 0 2 2 b_law_common
theorem ok_law_common (T : GF K mg A) : FnOk Pg w K mg base (L2.CX Pg w) 1 A.a_law_common A.d_law_common ["one", "other"] (spM K [] [0, 0] 0 2 m_law_common) := by
    exact fn_ok [] [0, 0] [0, 0] 0 2 T.F_law_common sc_law_common (fun cdv Ar outer s H E hr =>
 (mss_cons (ms_while (passes_of rfl) (mt_cmp (oNe hr.units) (me_var 1) me_int)
 (mss_one (ms_par 0 1 rfl sc_law_common.nd (ma_cons (me_var 1) (ma_cons (me_bin oSub (me_var 0) (me_binG oMul (me_var 1) (me_bin oFdiv (me_var 0) (me_var 1)))) ma_nil)))))
 (mss_one (ms_ret rfl (me_cB cAbs (mab_cons (me_var 0) mab_nil) T.n_abs)))))
def b_law_lowest : MSt :=
 (sSeq (sSet 2 (mCall m_law_common [none, none] [] (mCons (mVar 0) (mCons (mVar 1) mNil))))
 (sSeq (sIf (mB (m2 D.lt (mVar 1) (mC (.int 0))))
 (sSet 2 (m2 D.sub (mC (.int 0)) (mVar 2)))
 sNx)
 (sRet (mf mkTup (mCons (m2 D.fdiv (mVar 0) (mVar 2)) (mCons (m2 D.fdiv (mVar 1) (mVar 2)) mNil))))))
def m_law_lowest : Fn := mFn 0 3 2 b_law_lowest
theorem ok_law_lowest (T : GF K mg A) : FnOk Pg w K mg base (L2.CX Pg w) 2 A.a_law_lowest A.d_law_lowest ["number", "bottom"] (spM K [] [0, 0, 0] 0 2 m_law_lowest) := by
    have G_law_common := ok_law_common (Pg := Pg) (w := w) (base := base) T
    exact fn_ok [] [0, 0, 0] [0, 0, 0] 0 2 T.F_law_lowest sc_law_lowest (fun cdv Ar outer s H E hr =>
 (mss_cons (ms_set 2 sc_law_lowest.nd (MO.me (mo_call (dd := []) (dvs := []) G_law_common (hr.mono (by decide)) T.g_law_common T.F_law_common.kp T.b_law_common .nil (fun _ => rfl) (takes_of rfl rfl rfl rfl) (mai_cons (me_var 0) (mai_cons (me_var 1) mai_nil)))))
 (mss_cons (ms_if (mt_cmp oLt (me_var 1) me_int)
 (mss_one (ms_set 2 sc_law_lowest.nd (me_bin oSub me_int (me_var 2))))
 mss_nil)
 (mss_one (ms_ret rfl (me_tup (ma_cons (me_bin oFdiv (me_var 0) (me_var 2)) (ma_cons (me_bin oFdiv (me_var 1) (me_var 2)) ma_nil))))))))
def b_law_case_right : MSt :=
 (sSeq (sSet 2 (mCall m_law_generator [none, none] [] (mCons (mVar 0) (mCons (mVar 1) mNil))))
 (sSeq (sSet 3 (mCall m_law_pick [some 2, none] [] (mCons (mHole 2) (mCons (mf mkLst (mCons (mC (.int 5)) (mCons (mC (.int 60)) (mCons (m2 D.pow (mC (.int 10)) (mC (.int 20))) mNil)))) mNil))))
 (sSeq (sSet 4 (mCall m_law_lowest [none, none] [] (mCons (m2 D.sub (mCall m_law_random [some 2, none] [] (mCons (mHole 2) (mCons (m2 D.add (m2 D.mul (mC (.int 2)) (mVar 3)) (mC (.int 1))) mNil))) (mVar 3)) (mCons (m2 D.add (mC (.int 1)) (mCall m_law_random [some 2, none] [] (mCons (mHole 2) (mCons (mVar 3) mNil)))) mNil))))
 (sSeq (sSet 5 (mCall m_law_pick [some 2, none] [] (mCons (mHole 2) (mCons (mf mkLst (mCons (mVar 4) (mCons (mCall m_law_lowest [none, none] [] (mCons (m2 D.sub (mCall m_law_random [some 2, none] [] (mCons (mHole 2) (mCons (m2 D.add (m2 D.mul (mC (.int 2)) (mVar 3)) (mC (.int 1))) mNil))) (mVar 3)) (mCons (m2 D.add (mC (.int 1)) (mCall m_law_random [some 2, none] [] (mCons (mHole 2) (mCons (mVar 3) mNil)))) mNil))) mNil))) mNil))))
 (sSeq (sPar 6 7 (mCons (m2 D.sub (mCall m_law_random [some 2, none] [] (mCons (mHole 2) (mCons (m2 D.mul (mC (.int 2)) (mVar 3)) mNil))) (mVar 3)) (mCons (m2 D.mul (mCall m_law_pick [some 2, none] [] (mCons (mHole 2) (mCons (mf mkLst (mCons (mC (.int 1)) (mCons (m2 D.sub (mC (.int 0)) (mC (.int 1))) mNil))) mNil))) (m2 D.add (mC (.int 1)) (mCall m_law_random [some 2, none] [] (mCons (mHole 2) (mCons (mVar 3) mNil))))) mNil)))
 (sSeq (sSet 8 (mf mkLst (mCons (mCall m_law_lowest [none, none] [] (mCons (m2 D.add (m2 D.mul (m2 D.ix (mVar 4) (mC (.int 0))) (m2 D.ix (mVar 5) (mC (.int 1)))) (m2 D.mul (m2 D.ix (mVar 5) (mC (.int 0))) (m2 D.ix (mVar 4) (mC (.int 1))))) (mCons (m2 D.mul (m2 D.ix (mVar 4) (mC (.int 1))) (m2 D.ix (mVar 5) (mC (.int 1)))) mNil))) (mCons (mCall m_law_lowest [none, none] [] (mCons (m2 D.sub (m2 D.mul (m2 D.ix (mVar 4) (mC (.int 0))) (m2 D.ix (mVar 5) (mC (.int 1)))) (m2 D.mul (m2 D.ix (mVar 5) (mC (.int 0))) (m2 D.ix (mVar 4) (mC (.int 1))))) (mCons (m2 D.mul (m2 D.ix (mVar 4) (mC (.int 1))) (m2 D.ix (mVar 5) (mC (.int 1)))) mNil))) mNil))))
 (sSeq (sSet 9 (mf mkLst (mCons (mCall m_lowest [none, none] [] (mCons (mVar 6) (mCons (mVar 7) mNil))) (mCons (mCall m_plus [none, none] [] (mCons (mVar 4) (mCons (mVar 5) mNil))) (mCons (mCall m_minus [none, none] [] (mCons (mVar 4) (mCons (mVar 5) mNil))) (mCons (mCall m_times [none, none] [] (mCons (mVar 4) (mCons (mVar 5) mNil))) (mCons (mQt (mCall m_lowest (ioN 2) [] (mPerm [1, 0] (mCons (mVar 7) (mCons (mVar 6) mNil))))) (mCons (mQt (mCall m_plus (ioN 2) [] (mPerm [1, 0] (mCons (mVar 5) (mCons (mVar 4) mNil))))) mNil))))))))
 (sSeq (sIf (mNot (mB (mCall (m_law_same 40) [none, none] [] (mCons (mVar 9) (mCons (m2 D.add (m2 D.add (mf mkLst (mCons (mCall m_law_lowest [none, none] [] (mCons (mVar 6) (mCons (mVar 7) mNil))) mNil)) (mVar 8)) (mf mkLst (mCons (mCall m_law_lowest [none, none] [] (mCons (m2 D.mul (m2 D.ix (mVar 4) (mC (.int 0))) (m2 D.ix (mVar 5) (mC (.int 0)))) (mCons (m2 D.mul (m2 D.ix (mVar 4) (mC (.int 1))) (m2 D.ix (mVar 5) (mC (.int 1)))) mNil))) (mCons (mCall m_law_lowest [none, none] [] (mCons (mVar 6) (mCons (mVar 7) mNil))) (mCons (m2 D.ix (mVar 8) (mC (.int 0))) mNil))))) mNil)))))
 (sRet (mC (.bl false)))
 sNx)
 (sSeq (sIf (mAnd (mB (m2 D.ne (m2 D.ix (mVar 5) (mC (.int 0))) (mC (.int 0)))) (mNot (mB (mCall (m_law_same 40) [none, none] [] (mCons (mf mkLst (mCons (mCall m_over [none, none] [] (mCons (mVar 4) (mCons (mVar 5) mNil))) (mCons (mQt (mCall m_over (ioN 2) [] (mPerm [1, 0] (mCons (mVar 5) (mCons (mVar 4) mNil))))) mNil))) (mCons (m2 D.mul (mf mkLst (mCons (mCall m_law_lowest [none, none] [] (mCons (m2 D.mul (m2 D.ix (mVar 4) (mC (.int 0))) (m2 D.ix (mVar 5) (mC (.int 1)))) (mCons (m2 D.mul (m2 D.ix (mVar 4) (mC (.int 1))) (m2 D.ix (mVar 5) (mC (.int 0)))) mNil))) mNil)) (mC (.int 2))) mNil))))))
 (sRet (mC (.bl false)))
 sNx)
 (sSeq (sSet 10 (m2 D.sub (m2 D.mul (m2 D.ix (mVar 4) (mC (.int 0))) (m2 D.ix (mVar 5) (mC (.int 1)))) (m2 D.mul (m2 D.ix (mVar 5) (mC (.int 0))) (m2 D.ix (mVar 4) (mC (.int 1))))))
 (sSeq (sSet 11 (m2 D.sub (mf fInt (mCons (m2 D.gt (mVar 10) (mC (.int 0))) mNil)) (mf fInt (mCons (m2 D.lt (mVar 10) (mC (.int 0))) mNil))))
 (sRet (mCall (m_law_same 40) [none, none] [] (mCons (mf mkLst (mCons (mCall m_compared [none, none] [] (mCons (mVar 4) (mCons (mVar 5) mNil))) (mCons (mCall m_compared [none, none] [] (mCons (mVar 5) (mCons (mVar 4) mNil))) (mCons (mQt (mCall m_compared (ioN 2) [] (mPerm [1, 0] (mCons (mVar 4) (mCons (mVar 4) mNil))))) mNil)))) (mCons (mf mkLst (mCons (mVar 11) (mCons (m2 D.sub (mC (.int 0)) (mVar 11)) (mCons (mC (.int 0)) mNil)))) mNil)))))))))))))))
def m_law_case_right : Fn := mFn 0 12 2 b_law_case_right
theorem ok_law_case_right (T : GF K mg A) : FnOk Pg w K mg base (L2.CX Pg w) 41 A.a_law_case_right A.d_law_case_right ["script", "index"] (spM K [] [0, 0, 0, 0, 0, 0, 0, 0, 0, 0, 0, 0] 0 2 m_law_case_right) := by
    have G_law_generator := ok_law_generator (Pg := Pg) (w := w) (base := base) T
    have G_law_pick := ok_law_pick (Pg := Pg) (w := w) (base := base) T
    have G_law_lowest := ok_law_lowest (Pg := Pg) (w := w) (base := base) T
    have G_law_same := ok_law_same (Pg := Pg) (w := w) (base := base) T 40
    have G_lowest := ok_lowest (Pg := Pg) (w := w) (base := base) T
    have G_plus := ok_plus (Pg := Pg) (w := w) (base := base) T
    have G_minus := ok_minus (Pg := Pg) (w := w) (base := base) T
    have G_times := ok_times (Pg := Pg) (w := w) (base := base) T
    have G_law_random := ok_law_random (Pg := Pg) (w := w) (base := base) T
    have G_compared := ok_compared (Pg := Pg) (w := w) (base := base) T
    have G_over := ok_over (Pg := Pg) (w := w) (base := base) T
    exact fn_ok [] [0, 0, 0, 0, 0, 0, 0, 0, 0, 0, 0, 0] [0, 0, 1, 0, 0, 0, 0, 0, 0, 0, 0, 0] 0 2 T.F_law_case_right sc_law_case_right (fun cdv Ar outer s H E hr =>
 (mss_cons (ms_setO 2 sc_law_case_right.nd (mo_call (dd := []) (dvs := []) G_law_generator (hr.mono (by decide)) T.g_law_generator T.F_law_generator.kp T.b_law_generator .nil (fun _ => rfl) (takes_of rfl rfl rfl rfl) (mai_cons (me_var 0) (mai_cons (me_var 1) mai_nil))))
 (mss_cons (ms_set 3 sc_law_case_right.nd (MO.me (mo_call (dd := []) (dvs := []) G_law_pick (hr.mono (by decide)) T.g_law_pick T.F_law_pick.kp T.b_law_pick .nil (fun _ => rfl) (takes_of rfl rfl rfl rfl) (mai_io 2 (mai_cons (me_lst (ma_cons me_int (ma_cons me_int (ma_cons (me_bin oPow me_int me_int) ma_nil)))) mai_nil)))))
 (mss_cons (ms_set 4 sc_law_case_right.nd (MO.me (mo_call (dd := []) (dvs := []) G_law_lowest (hr.mono (by decide)) T.g_law_lowest T.F_law_lowest.kp T.b_law_lowest .nil (fun _ => rfl) (takes_of rfl rfl rfl rfl) (mai_cons (me_bin oSub (MO.me (mo_call (dd := []) (dvs := []) G_law_random (hr.mono (by decide)) T.g_law_random T.F_law_random.kp T.b_law_random .nil (fun _ => rfl) (takes_of rfl rfl rfl rfl) (mai_io 2 (mai_cons (me_binG oAdd (me_binG oMul me_int (me_var 3)) me_int) mai_nil)))) (me_var 3)) (mai_cons (me_binG oAdd me_int (MO.me (mo_call (dd := []) (dvs := []) G_law_random (hr.mono (by decide)) T.g_law_random T.F_law_random.kp T.b_law_random .nil (fun _ => rfl) (takes_of rfl rfl rfl rfl) (mai_io 2 (mai_cons (me_var 3) mai_nil))))) mai_nil)))))
 (mss_cons (ms_set 5 sc_law_case_right.nd (MO.me (mo_call (dd := []) (dvs := []) G_law_pick (hr.mono (by decide)) T.g_law_pick T.F_law_pick.kp T.b_law_pick .nil (fun _ => rfl) (takes_of rfl rfl rfl rfl) (mai_io 2 (mai_cons (me_lst (ma_cons (me_var 4) (ma_cons (MO.me (mo_call (dd := []) (dvs := []) G_law_lowest (hr.mono (by decide)) T.g_law_lowest T.F_law_lowest.kp T.b_law_lowest .nil (fun _ => rfl) (takes_of rfl rfl rfl rfl) (mai_cons (me_bin oSub (MO.me (mo_call (dd := []) (dvs := []) G_law_random (hr.mono (by decide)) T.g_law_random T.F_law_random.kp T.b_law_random .nil (fun _ => rfl) (takes_of rfl rfl rfl rfl) (mai_io 2 (mai_cons (me_binG oAdd (me_binG oMul me_int (me_var 3)) me_int) mai_nil)))) (me_var 3)) (mai_cons (me_binG oAdd me_int (MO.me (mo_call (dd := []) (dvs := []) G_law_random (hr.mono (by decide)) T.g_law_random T.F_law_random.kp T.b_law_random .nil (fun _ => rfl) (takes_of rfl rfl rfl rfl) (mai_io 2 (mai_cons (me_var 3) mai_nil))))) mai_nil)))) ma_nil))) mai_nil)))))
 (mss_cons (ms_par 6 7 rfl sc_law_case_right.nd (ma_cons (me_bin oSub (MO.me (mo_call (dd := []) (dvs := []) G_law_random (hr.mono (by decide)) T.g_law_random T.F_law_random.kp T.b_law_random .nil (fun _ => rfl) (takes_of rfl rfl rfl rfl) (mai_io 2 (mai_cons (me_binG oMul me_int (me_var 3)) mai_nil)))) (me_var 3)) (ma_cons (me_binG oMul (MO.me (mo_call (dd := []) (dvs := []) G_law_pick (hr.mono (by decide)) T.g_law_pick T.F_law_pick.kp T.b_law_pick .nil (fun _ => rfl) (takes_of rfl rfl rfl rfl) (mai_io 2 (mai_cons (me_lst (ma_cons me_int (ma_cons (me_bin oSub me_int me_int) ma_nil))) mai_nil)))) (me_binG oAdd me_int (MO.me (mo_call (dd := []) (dvs := []) G_law_random (hr.mono (by decide)) T.g_law_random T.F_law_random.kp T.b_law_random .nil (fun _ => rfl) (takes_of rfl rfl rfl rfl) (mai_io 2 (mai_cons (me_var 3) mai_nil)))))) ma_nil)))
 (mss_cons (ms_set 8 sc_law_case_right.nd (me_lst (ma_cons (MO.me (mo_call (dd := []) (dvs := []) G_law_lowest (hr.mono (by decide)) T.g_law_lowest T.F_law_lowest.kp T.b_law_lowest .nil (fun _ => rfl) (takes_of rfl rfl rfl rfl) (mai_cons (me_binG oAdd (me_binG oMul (me_ix (me_var 4) me_int) (me_ix (me_var 5) me_int)) (me_binG oMul (me_ix (me_var 5) me_int) (me_ix (me_var 4) me_int))) (mai_cons (me_binG oMul (me_ix (me_var 4) me_int) (me_ix (me_var 5) me_int)) mai_nil)))) (ma_cons (MO.me (mo_call (dd := []) (dvs := []) G_law_lowest (hr.mono (by decide)) T.g_law_lowest T.F_law_lowest.kp T.b_law_lowest .nil (fun _ => rfl) (takes_of rfl rfl rfl rfl) (mai_cons (me_bin oSub (me_binG oMul (me_ix (me_var 4) me_int) (me_ix (me_var 5) me_int)) (me_binG oMul (me_ix (me_var 5) me_int) (me_ix (me_var 4) me_int))) (mai_cons (me_binG oMul (me_ix (me_var 4) me_int) (me_ix (me_var 5) me_int)) mai_nil)))) ma_nil))))
 (mss_cons (ms_set 9 sc_law_case_right.nd (me_lst (ma_cons (MO.me (mo_call (dd := []) (dvs := []) G_lowest (hr.mono (by decide)) T.g_lowest T.F_lowest.kp T.b_lowest .nil (fun _ => rfl) (takes_of rfl rfl rfl rfl) (mai_cons (me_var 6) (mai_cons (me_var 7) mai_nil)))) (ma_cons (MO.me (mo_call (dd := []) (dvs := []) G_plus (hr.mono (by decide)) T.g_plus T.F_plus.kp T.b_plus .nil (fun _ => rfl) (takes_of rfl rfl rfl rfl) (mai_cons (me_var 4) (mai_cons (me_var 5) mai_nil)))) (ma_cons (MO.me (mo_call (dd := []) (dvs := []) G_minus (hr.mono (by decide)) T.g_minus T.F_minus.kp T.b_minus .nil (fun _ => rfl) (takes_of rfl rfl rfl rfl) (mai_cons (me_var 4) (mai_cons (me_var 5) mai_nil)))) (ma_cons (MO.me (mo_call (dd := []) (dvs := []) G_times (hr.mono (by decide)) T.g_times T.F_times.kp T.b_times .nil (fun _ => rfl) (takes_of rfl rfl rfl rfl) (mai_cons (me_var 4) (mai_cons (me_var 5) mai_nil)))) (ma_cons (MO.me (mo_callK G_lowest (hr.mono (by decide)) T.g_lowest T.F_lowest.kp (fun_kb T.F_lowest (ps := ["number", "bottom"]) (pm := [1, 0]) (ks := ["bottom", "number"]) (by decide) rfl fun _ _ _ _ _ _ ws hl => match ws, hl with | [_, _], _ => rfl) (mks_cons (me_var 7) (mks_cons (me_var 6) mks_nil)))) (ma_cons (MO.me (mo_callK G_plus (hr.mono (by decide)) T.g_plus T.F_plus.kp (fun_kb T.F_plus (ps := ["one", "other"]) (pm := [1, 0]) (ks := ["other", "one"]) (by decide) rfl fun _ _ _ _ _ _ ws hl => match ws, hl with | [_, _], _ => rfl) (mks_cons (me_var 5) (mks_cons (me_var 4) mks_nil)))) ma_nil))))))))
 (mss_cons (ms_if (mt_not (mt_val (MO.me (mo_call (dd := []) (dvs := []) G_law_same (hr.mono (by decide)) T.g_law_same T.F_law_same.kp T.b_law_same .nil (fun _ => rfl) (takes_of rfl rfl rfl rfl) (mai_cons (me_var 9) (mai_cons (me_binG oAdd (me_binG oAdd (me_lst (ma_cons (MO.me (mo_call (dd := []) (dvs := []) G_law_lowest (hr.mono (by decide)) T.g_law_lowest T.F_law_lowest.kp T.b_law_lowest .nil (fun _ => rfl) (takes_of rfl rfl rfl rfl) (mai_cons (me_var 6) (mai_cons (me_var 7) mai_nil)))) ma_nil)) (me_var 8)) (me_lst (ma_cons (MO.me (mo_call (dd := []) (dvs := []) G_law_lowest (hr.mono (by decide)) T.g_law_lowest T.F_law_lowest.kp T.b_law_lowest .nil (fun _ => rfl) (takes_of rfl rfl rfl rfl) (mai_cons (me_binG oMul (me_ix (me_var 4) me_int) (me_ix (me_var 5) me_int)) (mai_cons (me_binG oMul (me_ix (me_var 4) me_int) (me_ix (me_var 5) me_int)) mai_nil)))) (ma_cons (MO.me (mo_call (dd := []) (dvs := []) G_law_lowest (hr.mono (by decide)) T.g_law_lowest T.F_law_lowest.kp T.b_law_lowest .nil (fun _ => rfl) (takes_of rfl rfl rfl rfl) (mai_cons (me_var 6) (mai_cons (me_var 7) mai_nil)))) (ma_cons (me_ix (me_var 8) me_int) ma_nil))))) mai_nil))))))
 (mss_one (ms_ret rfl me_bl))
 mss_nil)
 (mss_cons (ms_if (MW.mt (mw_and (mt_cmp (oNe hr.units) (me_ix (me_var 5) me_int) me_int) (mw_and1 (mt_not (mt_val (MO.me (mo_call (dd := []) (dvs := []) G_law_same (hr.mono (by decide)) T.g_law_same T.F_law_same.kp T.b_law_same .nil (fun _ => rfl) (takes_of rfl rfl rfl rfl) (mai_cons (me_lst (ma_cons (MO.me (mo_call (dd := []) (dvs := []) G_over (hr.mono (by decide)) T.g_over T.F_over.kp T.b_over .nil (fun _ => rfl) (takes_of rfl rfl rfl rfl) (mai_cons (me_var 4) (mai_cons (me_var 5) mai_nil)))) (ma_cons (MO.me (mo_callK G_over (hr.mono (by decide)) T.g_over T.F_over.kp (fun_kb T.F_over (ps := ["one", "other"]) (pm := [1, 0]) (ks := ["other", "one"]) (by decide) rfl fun _ _ _ _ _ _ ws hl => match ws, hl with | [_, _], _ => rfl) (mks_cons (me_var 5) (mks_cons (me_var 4) mks_nil)))) ma_nil))) (mai_cons (me_binG oMul (me_lst (ma_cons (MO.me (mo_call (dd := []) (dvs := []) G_law_lowest (hr.mono (by decide)) T.g_law_lowest T.F_law_lowest.kp T.b_law_lowest .nil (fun _ => rfl) (takes_of rfl rfl rfl rfl) (mai_cons (me_binG oMul (me_ix (me_var 4) me_int) (me_ix (me_var 5) me_int)) (mai_cons (me_binG oMul (me_ix (me_var 4) me_int) (me_ix (me_var 5) me_int)) mai_nil)))) ma_nil)) me_int) mai_nil)))))))))
 (mss_one (ms_ret rfl me_bl))
 mss_nil)
 (mss_cons (ms_set 10 sc_law_case_right.nd (me_bin oSub (me_binG oMul (me_ix (me_var 4) me_int) (me_ix (me_var 5) me_int)) (me_binG oMul (me_ix (me_var 5) me_int) (me_ix (me_var 4) me_int))))
 (mss_cons (ms_set 11 sc_law_case_right.nd (me_bin oSub (me_cT cInt (mab_cons (me_cmp oGt (me_var 10) me_int) mab_nil) T.n_int) (me_cT cInt (mab_cons (me_cmp oLt (me_var 10) me_int) mab_nil) T.n_int)))
 (mss_one (ms_ret rfl (MO.me (mo_call (dd := []) (dvs := []) G_law_same (hr.mono (by decide)) T.g_law_same T.F_law_same.kp T.b_law_same .nil (fun _ => rfl) (takes_of rfl rfl rfl rfl) (mai_cons (me_lst (ma_cons (MO.me (mo_call (dd := []) (dvs := []) G_compared (hr.mono (by decide)) T.g_compared T.F_compared.kp T.b_compared .nil (fun _ => rfl) (takes_of rfl rfl rfl rfl) (mai_cons (me_var 4) (mai_cons (me_var 5) mai_nil)))) (ma_cons (MO.me (mo_call (dd := []) (dvs := []) G_compared (hr.mono (by decide)) T.g_compared T.F_compared.kp T.b_compared .nil (fun _ => rfl) (takes_of rfl rfl rfl rfl) (mai_cons (me_var 5) (mai_cons (me_var 4) mai_nil)))) (ma_cons (MO.me (mo_callK G_compared (hr.mono (by decide)) T.g_compared T.F_compared.kp (fun_kb T.F_compared (ps := ["one", "other"]) (pm := [1, 0]) (ks := ["other", "one"]) (by decide) rfl fun _ _ _ _ _ _ ws hl => match ws, hl with | [_, _], _ => rfl) (mks_cons (me_var 4) (mks_cons (me_var 4) mks_nil)))) ma_nil)))) (mai_cons (me_lst (ma_cons (me_var 11) (ma_cons (me_bin oSub me_int (me_var 11)) (ma_cons me_int ma_nil)))) mai_nil))))))))))))))))))
def b_law : MSt :=
 (sRet (mAnd (mCall m_law_case_right [none, none] [] (mCons (mVar 0) (mCons (mC (.int 0)) mNil))) (mCall m_law_case_right [none, none] [] (mCons (mVar 0) (mCons (mC (.int 1)) mNil)))))
def m_law : Fn := mFn 0 1 1 b_law
theorem ok_law (T : GF K mg A) : FnOk Pg w K mg base (L2.CX Pg w) 42 A.a_law A.d_law ["script"] (spM K [] [0] 0 1 m_law) := by
    have G_law_case_right := ok_law_case_right (Pg := Pg) (w := w) (base := base) T
    exact fn_ok [] [0] [0] 0 1 T.F_law sc_law (fun cdv Ar outer s H E hr =>
 (mss_one (ms_ret rfl (me_and (MO.me (mo_call (dd := []) (dvs := []) G_law_case_right (hr.mono (by decide)) T.g_law_case_right T.F_law_case_right.kp T.b_law_case_right .nil (fun _ => rfl) (takes_of rfl rfl rfl rfl) (mai_cons (me_var 0) (mai_cons me_int mai_nil)))) (me_one (MO.me (mo_call (dd := []) (dvs := []) G_law_case_right (hr.mono (by decide)) T.g_law_case_right T.F_law_case_right.kp T.b_law_case_right .nil (fun _ => rfl) (takes_of rfl rfl rfl rfl) (mai_cons (me_var 0) (mai_cons me_int mai_nil)))))))))
end
end M3

/-! PA -/
set_option Elab.async false
set_option linter.all false
set_option maxRecDepth 100000
set_option maxHeartbeats 400000
namespace M3
open PySem PySem.Spec PyProof.Rows L2

/-! ### the drawing -/
theorem sp_hash {s i : Int} {Q : D → Sl → Prop} (hs : Bd 40 s) (hi : Bd 100 i) (q : ∀ r e, 0 ≤ r → r < 2147483647 → Q (.int r) e) : FP (m_law_hash [.int s, .int i]) Q := by
  unfold m_law_hash b_law_hash
  (try simp only [RP_varm, RP_holem, RP_c, RP_1, RP_2, RP_f, RP_nil, RP_cons, RP_if, RP_and, RP_or, RP_not, RP_B, RP_qt, RP_perm, RP_pn, RP_ps, RP_sl, RP_call, RP_src, RP_r1, RP_r2, RP_en, RP_lc, RP_yes,  SP_nx, SP_seq, SP_drop, SP_ret, SP_set, SP_if, SP_sub, SP_app, SP_tgt, SP_par, SP_for, FP_fn, OP_some, OP_map, OP_add, OP_sub, OP_mul, OP_fdiv, OP_fmod, OP_pow, OP_neg, OP_lt, OP_le, OP_gt, OP_ge, OP_eqi, OP_nei, OP_bits, OP_int, OP_intb, OP_tup, OP_lst, OP_lenl, OP_lent, OP_lenf, OP_abs, OP_max2, OP_min2, OP_gcd, OP_ixl, OP_ixt, OP_ixf, OP_cat, OP_rep, OP_subb, OP_gN, BQ_b, BP_t, BP_f, BP_d, BP_n, BP_eq, ↓reduceIte, Option.map_some, is_non_np, is_non_ng, is_non_tp, is_non_tg, is_non_fp, is_non_fg, is_bl_np, is_bl_ng, is_bl_tp, is_bl_tg, is_bl_fp, is_bl_fg, is_int_np, is_int_ng, is_int_tp, is_int_tg, is_int_fp, is_int_fg, is_str_np, is_str_ng, is_str_tp, is_str_tg, is_str_fp, is_str_fg, is_lst_np, is_lst_ng, is_lst_tp, is_lst_tg, is_lst_fp, is_lst_fg, is_tup_np, is_tup_ng, is_tup_tp, is_tup_tg, is_tup_fp, is_tup_fg, isi_non_int, isi_non_bool, isi_non_list, isi_non_tuple, isi_non_str, isi_non_dict, isi_non_lt, isi_bl_int, isi_bl_bool, isi_bl_list, isi_bl_tuple, isi_bl_str, isi_bl_dict, isi_bl_lt, isi_int_int, isi_int_bool, isi_int_list, isi_int_tuple, isi_int_str, isi_int_dict, isi_int_lt, isi_str_int, isi_str_bool, isi_str_list, isi_str_tuple, isi_str_str, isi_str_dict, isi_str_lt, isi_lst_int, isi_lst_bool, isi_lst_list, isi_lst_tuple, isi_lst_str, isi_lst_dict, isi_lst_lt, isi_tup_int, isi_tup_bool, isi_tup_list, isi_tup_tuple, isi_tup_str, isi_tup_dict, isi_tup_lt,  at0, at1, at2, at3, set0, set1, set2, setD_l, fillIO, putIO, ioN, permO, List.map_cons, List.map_nil, List.cons_append, List.nil_append, List.append_nil, List.replicate_succ, List.replicate_zero, Nat.reduceSub, Nat.reduceAdd, List.getElem?_cons_zero, List.getElem?_cons_succ, List.set_cons_zero, List.set_cons_succ, List.length_cons, List.length_nil, List.map_append])
  have b1 : ∀ x : Int, Bd 31 (x.fmod 2147483629) := fun x => Bd.fmod (by decide) (show (2147483629 : Int).natAbs < 2 ^ 31 by decide)
  have b2 : ∀ x : Int, Bd 31 (x.fmod 2147483587) := fun x => Bd.fmod (by decide) (show (2147483587 : Int).natAbs < 2 ^ 31 by decide)
  have e1 := b1 (s * 1140671 + 27644437 * i * i + 131 * i + 19)
  generalize (s * 1140671 + 27644437 * i * i + 131 * i + 19).fmod 2147483629 = m1 at *
  have e2 := b2 (m1 * m1 + 62089 * i + 32416187)
  generalize (m1 * m1 + 62089 * i + 32416187).fmod 2147483587 = m2 at *
  have e3 := fmod_rng (m2 * 48271) (y := 2147483647) (by decide)
  refine ⟨by ((refine And.intro ?_ ?_ <;> ((apply Bd.big; (case h => repeat' (with_reducible first | assumption | (apply Bd.add) | (apply Bd.sub) | (apply Bd.mul) | (apply Bd.neg) | (apply Bd.abs) | (apply Bd.fdiv) | exact Bd.self _)); all_goals decide +kernel)))), by ((refine And.intro ?_ ?_ <;> ((apply Bd.big; (case h => repeat' (with_reducible first | assumption | (apply Bd.add) | (apply Bd.sub) | (apply Bd.mul) | (apply Bd.neg) | (apply Bd.abs) | (apply Bd.fdiv) | exact Bd.self _)); all_goals decide +kernel)))), by ((refine And.intro ?_ ?_ <;> ((apply Bd.big; (case h => repeat' (with_reducible first | assumption | (apply Bd.add) | (apply Bd.sub) | (apply Bd.mul) | (apply Bd.neg) | (apply Bd.abs) | (apply Bd.fdiv) | exact Bd.self _)); all_goals decide +kernel)))), by ((refine And.intro ?_ ?_ <;> ((apply Bd.big; (case h => repeat' (with_reducible first | assumption | (apply Bd.add) | (apply Bd.sub) | (apply Bd.mul) | (apply Bd.neg) | (apply Bd.abs) | (apply Bd.fdiv) | exact Bd.self _)); all_goals decide +kernel)))), by decide, by ((refine And.intro ?_ ?_ <;> ((apply Bd.big; (case h => repeat' (with_reducible first | assumption | (apply Bd.add) | (apply Bd.sub) | (apply Bd.mul) | (apply Bd.neg) | (apply Bd.abs) | (apply Bd.fdiv) | exact Bd.self _)); all_goals decide +kernel)))), by ((refine And.intro ?_ ?_ <;> ((apply Bd.big; (case h => repeat' (with_reducible first | assumption | (apply Bd.add) | (apply Bd.sub) | (apply Bd.mul) | (apply Bd.neg) | (apply Bd.abs) | (apply Bd.fdiv) | exact Bd.self _)); all_goals decide +kernel)))), by decide, by ((refine And.intro ?_ ?_ <;> ((apply Bd.big; (case h => repeat' (with_reducible first | assumption | (apply Bd.add) | (apply Bd.sub) | (apply Bd.mul) | (apply Bd.neg) | (apply Bd.abs) | (apply Bd.fdiv) | exact Bd.self _)); all_goals decide +kernel)))), by decide, q _ _ e3.1 e3.2⟩
def GenOk (k : Nat) (g : D) : Prop := ∃ a b c : Int, g = .lst [.int a, .int b, .int c] ∧ 0 ≤ a ∧ Bd 4000 a ∧ 0 ≤ b ∧ b < 2147483647 ∧ 0 ≤ c ∧ c ≤ 1000000 + k * 1000
theorem sp_random {g : D} {k : Nat} {n : Int} {Q : D → Sl → Prop} (hg : GenOk k g) (hk : k ≤ 1000000000) (h0 : 0 < n) (hn : Bd 3000 n) (q : ∀ r g' e, 0 ≤ r → r < n → GenOk (k + 1) g' → e[0]? = some (some g') → Q (.int r) e) : FP (m_law_random [g, .int n]) Q := by
  obtain ⟨a, b, c, rfl, ha, hA, hb, hB, hc, hC⟩ := hg
  have hbits : (Builtin.Int.intBits n : Nat) ≤ 3000 := intBits_le_iff.mpr hn
  have hT : 0 ≤ (Int.fdiv ((Builtin.Int.intBits n : Nat) : Int) 30) ∧ (Int.fdiv ((Builtin.Int.intBits n : Nat) : Int) 30) ≤ 100 := by
    rw [Int.fdiv_eq_ediv_of_nonneg _ (by omega)]
    omega
  unfold m_law_random b_law_random
  (try simp only [RP_varm, RP_holem, RP_c, RP_1, RP_2, RP_f, RP_nil, RP_cons, RP_if, RP_and, RP_or, RP_not, RP_B, RP_qt, RP_perm, RP_pn, RP_ps, RP_sl, RP_call, RP_src, RP_r1, RP_r2, RP_en, RP_lc, RP_yes,  SP_nx, SP_seq, SP_drop, SP_ret, SP_set, SP_if, SP_sub, SP_app, SP_tgt, SP_par, SP_for, FP_fn, OP_some, OP_map, OP_add, OP_sub, OP_mul, OP_fdiv, OP_fmod, OP_pow, OP_neg, OP_lt, OP_le, OP_gt, OP_ge, OP_eqi, OP_nei, OP_bits, OP_int, OP_intb, OP_tup, OP_lst, OP_lenl, OP_lent, OP_lenf, OP_abs, OP_max2, OP_min2, OP_gcd, OP_ixl, OP_ixt, OP_ixf, OP_cat, OP_rep, OP_subb, OP_gN, BQ_b, BP_t, BP_f, BP_d, BP_n, BP_eq, ↓reduceIte, Option.map_some, is_non_np, is_non_ng, is_non_tp, is_non_tg, is_non_fp, is_non_fg, is_bl_np, is_bl_ng, is_bl_tp, is_bl_tg, is_bl_fp, is_bl_fg, is_int_np, is_int_ng, is_int_tp, is_int_tg, is_int_fp, is_int_fg, is_str_np, is_str_ng, is_str_tp, is_str_tg, is_str_fp, is_str_fg, is_lst_np, is_lst_ng, is_lst_tp, is_lst_tg, is_lst_fp, is_lst_fg, is_tup_np, is_tup_ng, is_tup_tp, is_tup_tg, is_tup_fp, is_tup_fg, isi_non_int, isi_non_bool, isi_non_list, isi_non_tuple, isi_non_str, isi_non_dict, isi_non_lt, isi_bl_int, isi_bl_bool, isi_bl_list, isi_bl_tuple, isi_bl_str, isi_bl_dict, isi_bl_lt, isi_int_int, isi_int_bool, isi_int_list, isi_int_tuple, isi_int_str, isi_int_dict, isi_int_lt, isi_str_int, isi_str_bool, isi_str_list, isi_str_tuple, isi_str_str, isi_str_dict, isi_str_lt, isi_lst_int, isi_lst_bool, isi_lst_list, isi_lst_tuple, isi_lst_str, isi_lst_dict, isi_lst_lt, isi_tup_int, isi_tup_bool, isi_tup_list, isi_tup_tuple, isi_tup_str, isi_tup_dict, isi_tup_lt,  at0, at1, at2, at3, set0, set1, set2, setD_l, fillIO, putIO, ioN, permO, List.map_cons, List.map_nil, List.cons_append, List.nil_append, List.append_nil, List.replicate_succ, List.replicate_zero, Nat.reduceSub, Nat.reduceAdd, List.getElem?_cons_zero, List.getElem?_cons_succ, List.set_cons_zero, List.set_cons_succ, List.length_cons, List.length_nil, List.map_append])
  revert hT
  generalize (Int.fdiv ((Builtin.Int.intBits n : Nat) : Int) 30) = t
  intro hT
  refine ⟨fun h => ⟨by omega, ⟨by omega, Bd.dv hn (by decide)⟩, ?_⟩, fun h => ?_⟩
  · have r := fmod_rng a h0
    refine q _ _ _ r.1 r.2 ⟨a.fdiv n, b, c, rfl, ?_, ?_, hb, hB, hc, by omega⟩ rfl
    · rw [Int.fdiv_eq_ediv_of_nonneg _ (by omega)]
      exact Int.ediv_nonneg ha (by omega)
    · rw [Int.fdiv_eq_ediv_of_nonneg _ (by omega)]
      have := Int.natAbs_ediv_le_natAbs a n
      unfold Bd at *
      omega
  · refine ⟨⟨by decide, by decide +kernel⟩, ⟨by omega, by omega⟩, SP_forI (fun i e => ∃ (dr c' : Int) (x3 : Option D), e = [some (.lst [.int a, .int b, .int c']), some (.int n), some (.int dr), x3] ∧ Bd (64 * i + 1) dr ∧ 0 ≤ c' ∧ c' ≤ c + i) ⟨0, c, none, rfl, by unfold Bd; decide, hc, by omega⟩ ?_ ?_⟩
    · intro i hi e ⟨dr, c', x3, he, hd, h1, h2⟩
      subst he
      have hi' : i < 101 := by
        have : (rngD 0 (1 + t).toNat).length = (1 + t).toNat := by simp [rngD]
        omega
      (try simp only [RP_varm, RP_holem, RP_c, RP_1, RP_2, RP_f, RP_nil, RP_cons, RP_if, RP_and, RP_or, RP_not, RP_B, RP_qt, RP_perm, RP_pn, RP_ps, RP_sl, RP_call, RP_src, RP_r1, RP_r2, RP_en, RP_lc, RP_yes,  SP_nx, SP_seq, SP_drop, SP_ret, SP_set, SP_if, SP_sub, SP_app, SP_tgt, SP_par, SP_for, FP_fn, OP_some, OP_map, OP_add, OP_sub, OP_mul, OP_fdiv, OP_fmod, OP_pow, OP_neg, OP_lt, OP_le, OP_gt, OP_ge, OP_eqi, OP_nei, OP_bits, OP_int, OP_intb, OP_tup, OP_lst, OP_lenl, OP_lent, OP_lenf, OP_abs, OP_max2, OP_min2, OP_gcd, OP_ixl, OP_ixt, OP_ixf, OP_cat, OP_rep, OP_subb, OP_gN, BQ_b, BP_t, BP_f, BP_d, BP_n, BP_eq, ↓reduceIte, Option.map_some, is_non_np, is_non_ng, is_non_tp, is_non_tg, is_non_fp, is_non_fg, is_bl_np, is_bl_ng, is_bl_tp, is_bl_tg, is_bl_fp, is_bl_fg, is_int_np, is_int_ng, is_int_tp, is_int_tg, is_int_fp, is_int_fg, is_str_np, is_str_ng, is_str_tp, is_str_tg, is_str_fp, is_str_fg, is_lst_np, is_lst_ng, is_lst_tp, is_lst_tg, is_lst_fp, is_lst_fg, is_tup_np, is_tup_ng, is_tup_tp, is_tup_tg, is_tup_fp, is_tup_fg, isi_non_int, isi_non_bool, isi_non_list, isi_non_tuple, isi_non_str, isi_non_dict, isi_non_lt, isi_bl_int, isi_bl_bool, isi_bl_list, isi_bl_tuple, isi_bl_str, isi_bl_dict, isi_bl_lt, isi_int_int, isi_int_bool, isi_int_list, isi_int_tuple, isi_int_str, isi_int_dict, isi_int_lt, isi_str_int, isi_str_bool, isi_str_list, isi_str_tuple, isi_str_str, isi_str_dict, isi_str_lt, isi_lst_int, isi_lst_bool, isi_lst_list, isi_lst_tuple, isi_lst_str, isi_lst_dict, isi_lst_lt, isi_tup_int, isi_tup_bool, isi_tup_list, isi_tup_tuple, isi_tup_str, isi_tup_dict, isi_tup_lt,  at0, at1, at2, at3, set0, set1, set2, setD_l, fillIO, putIO, ioN, permO, List.map_cons, List.map_nil, List.cons_append, List.nil_append, List.append_nil, List.replicate_succ, List.replicate_zero, Nat.reduceSub, Nat.reduceAdd, List.getElem?_cons_zero, List.getElem?_cons_succ, List.set_cons_zero, List.set_cons_succ, List.length_cons, List.length_nil, List.map_append])
      have hc1 : Bd 100 (c' + 1) := by unfold Bd; omega
      have hb1 : Bd 40 b := by unfold Bd; omega
      refine ⟨⟨Bd.big hd (by omega), by ((apply Bd.big; (case h => repeat' (with_reducible first | assumption | (apply Bd.add) | (apply Bd.sub) | (apply Bd.mul) | (apply Bd.neg) | (apply Bd.abs) | (apply Bd.fdiv) | exact Bd.self _)); all_goals decide +kernel))⟩, ?_⟩
      refine sp_hash hb1 hc1 ?_
      intro r e r0 r1
      rw [OP_add]
      refine ⟨_, _, _, rfl, ?_, by omega, by omega⟩
      have hr : Bd 31 r := by unfold Bd; omega
      exact (((hd.mul (show Bd 31 2147483587 by unfold Bd; decide)).add hr)).up (by omega)
    · intro e ⟨dr, c', x3, he, hd, h1, h2⟩
      subst he
      have hl : (rngD 0 (1 + t).toNat).length = (1 + t).toNat := by simp [rngD]
      rw [hl] at h2
      (try simp only [RP_varm, RP_holem, RP_c, RP_1, RP_2, RP_f, RP_nil, RP_cons, RP_if, RP_and, RP_or, RP_not, RP_B, RP_qt, RP_perm, RP_pn, RP_ps, RP_sl, RP_call, RP_src, RP_r1, RP_r2, RP_en, RP_lc, RP_yes,  SP_nx, SP_seq, SP_drop, SP_ret, SP_set, SP_if, SP_sub, SP_app, SP_tgt, SP_par, SP_for, FP_fn, OP_some, OP_map, OP_add, OP_sub, OP_mul, OP_fdiv, OP_fmod, OP_pow, OP_neg, OP_lt, OP_le, OP_gt, OP_ge, OP_eqi, OP_nei, OP_bits, OP_int, OP_intb, OP_tup, OP_lst, OP_lenl, OP_lent, OP_lenf, OP_abs, OP_max2, OP_min2, OP_gcd, OP_ixl, OP_ixt, OP_ixf, OP_cat, OP_rep, OP_subb, OP_gN, BQ_b, BP_t, BP_f, BP_d, BP_n, BP_eq, ↓reduceIte, Option.map_some, is_non_np, is_non_ng, is_non_tp, is_non_tg, is_non_fp, is_non_fg, is_bl_np, is_bl_ng, is_bl_tp, is_bl_tg, is_bl_fp, is_bl_fg, is_int_np, is_int_ng, is_int_tp, is_int_tg, is_int_fp, is_int_fg, is_str_np, is_str_ng, is_str_tp, is_str_tg, is_str_fp, is_str_fg, is_lst_np, is_lst_ng, is_lst_tp, is_lst_tg, is_lst_fp, is_lst_fg, is_tup_np, is_tup_ng, is_tup_tp, is_tup_tg, is_tup_fp, is_tup_fg, isi_non_int, isi_non_bool, isi_non_list, isi_non_tuple, isi_non_str, isi_non_dict, isi_non_lt, isi_bl_int, isi_bl_bool, isi_bl_list, isi_bl_tuple, isi_bl_str, isi_bl_dict, isi_bl_lt, isi_int_int, isi_int_bool, isi_int_list, isi_int_tuple, isi_int_str, isi_int_dict, isi_int_lt, isi_str_int, isi_str_bool, isi_str_list, isi_str_tuple, isi_str_str, isi_str_dict, isi_str_lt, isi_lst_int, isi_lst_bool, isi_lst_list, isi_lst_tuple, isi_lst_str, isi_lst_dict, isi_lst_lt, isi_tup_int, isi_tup_bool, isi_tup_list, isi_tup_tuple, isi_tup_str, isi_tup_dict, isi_tup_lt,  at0, at1, at2, at3, set0, set1, set2, setD_l, fillIO, putIO, ioN, permO, List.map_cons, List.map_nil, List.cons_append, List.nil_append, List.append_nil, List.replicate_succ, List.replicate_zero, Nat.reduceSub, Nat.reduceAdd, List.getElem?_cons_zero, List.getElem?_cons_succ, List.set_cons_zero, List.set_cons_succ, List.length_cons, List.length_nil, List.map_append])
      have r := fmod_rng dr h0
      exact ⟨by omega, q _ _ _ r.1 r.2 ⟨a, b, c', rfl, ha, hA, hb, hB, h1, by omega⟩ rfl⟩
theorem sp_pick {g : D} {k : Nat} {ds : List D} {Q : D → Sl → Prop} (hg : GenOk k g) (hk : k ≤ 1000000000) (h0 : 0 < ds.length) (hn : ds.length ≤ 1000000) (q : ∀ (i : Nat) d g' e, ds[i]? = some d → GenOk (k + 1) g' → e[0]? = some (some g') → Q d e) : FP (m_law_pick [g, .lst ds]) Q := by
  unfold m_law_pick b_law_pick
  (try simp only [RP_varm, RP_holem, RP_c, RP_1, RP_2, RP_f, RP_nil, RP_cons, RP_if, RP_and, RP_or, RP_not, RP_B, RP_qt, RP_perm, RP_pn, RP_ps, RP_sl, RP_call, RP_src, RP_r1, RP_r2, RP_en, RP_lc, RP_yes,  SP_nx, SP_seq, SP_drop, SP_ret, SP_set, SP_if, SP_sub, SP_app, SP_tgt, SP_par, SP_for, FP_fn, OP_some, OP_map, OP_add, OP_sub, OP_mul, OP_fdiv, OP_fmod, OP_pow, OP_neg, OP_lt, OP_le, OP_gt, OP_ge, OP_eqi, OP_nei, OP_bits, OP_int, OP_intb, OP_tup, OP_lst, OP_lenl, OP_lent, OP_lenf, OP_abs, OP_max2, OP_min2, OP_gcd, OP_ixl, OP_ixt, OP_ixf, OP_cat, OP_rep, OP_subb, OP_gN, BQ_b, BP_t, BP_f, BP_d, BP_n, BP_eq, ↓reduceIte, Option.map_some, is_non_np, is_non_ng, is_non_tp, is_non_tg, is_non_fp, is_non_fg, is_bl_np, is_bl_ng, is_bl_tp, is_bl_tg, is_bl_fp, is_bl_fg, is_int_np, is_int_ng, is_int_tp, is_int_tg, is_int_fp, is_int_fg, is_str_np, is_str_ng, is_str_tp, is_str_tg, is_str_fp, is_str_fg, is_lst_np, is_lst_ng, is_lst_tp, is_lst_tg, is_lst_fp, is_lst_fg, is_tup_np, is_tup_ng, is_tup_tp, is_tup_tg, is_tup_fp, is_tup_fg, isi_non_int, isi_non_bool, isi_non_list, isi_non_tuple, isi_non_str, isi_non_dict, isi_non_lt, isi_bl_int, isi_bl_bool, isi_bl_list, isi_bl_tuple, isi_bl_str, isi_bl_dict, isi_bl_lt, isi_int_int, isi_int_bool, isi_int_list, isi_int_tuple, isi_int_str, isi_int_dict, isi_int_lt, isi_str_int, isi_str_bool, isi_str_list, isi_str_tuple, isi_str_str, isi_str_dict, isi_str_lt, isi_lst_int, isi_lst_bool, isi_lst_list, isi_lst_tuple, isi_lst_str, isi_lst_dict, isi_lst_lt, isi_tup_int, isi_tup_bool, isi_tup_list, isi_tup_tuple, isi_tup_str, isi_tup_dict, isi_tup_lt,  at0, at1, at2, at3, set0, set1, set2, setD_l, fillIO, putIO, ioN, permO, List.map_cons, List.map_nil, List.cons_append, List.nil_append, List.append_nil, List.replicate_succ, List.replicate_zero, Nat.reduceSub, Nat.reduceAdd, List.getElem?_cons_zero, List.getElem?_cons_succ, List.set_cons_zero, List.set_cons_succ, List.length_cons, List.length_nil, List.map_append])
  refine sp_random hg hk (by omega) (by unfold Bd; rw [Int.natAbs_natCast]; exact Nat.lt_of_le_of_lt hn (by decide)) fun r g' e r0 r1 hg' he => ?_
  simp only [he]
  (try simp only [RP_varm, RP_holem, RP_c, RP_1, RP_2, RP_f, RP_nil, RP_cons, RP_if, RP_and, RP_or, RP_not, RP_B, RP_qt, RP_perm, RP_pn, RP_ps, RP_sl, RP_call, RP_src, RP_r1, RP_r2, RP_en, RP_lc, RP_yes,  SP_nx, SP_seq, SP_drop, SP_ret, SP_set, SP_if, SP_sub, SP_app, SP_tgt, SP_par, SP_for, FP_fn, OP_some, OP_map, OP_add, OP_sub, OP_mul, OP_fdiv, OP_fmod, OP_pow, OP_neg, OP_lt, OP_le, OP_gt, OP_ge, OP_eqi, OP_nei, OP_bits, OP_int, OP_intb, OP_tup, OP_lst, OP_lenl, OP_lent, OP_lenf, OP_abs, OP_max2, OP_min2, OP_gcd, OP_ixl, OP_ixt, OP_ixf, OP_cat, OP_rep, OP_subb, OP_gN, BQ_b, BP_t, BP_f, BP_d, BP_n, BP_eq, ↓reduceIte, Option.map_some, is_non_np, is_non_ng, is_non_tp, is_non_tg, is_non_fp, is_non_fg, is_bl_np, is_bl_ng, is_bl_tp, is_bl_tg, is_bl_fp, is_bl_fg, is_int_np, is_int_ng, is_int_tp, is_int_tg, is_int_fp, is_int_fg, is_str_np, is_str_ng, is_str_tp, is_str_tg, is_str_fp, is_str_fg, is_lst_np, is_lst_ng, is_lst_tp, is_lst_tg, is_lst_fp, is_lst_fg, is_tup_np, is_tup_ng, is_tup_tp, is_tup_tg, is_tup_fp, is_tup_fg, isi_non_int, isi_non_bool, isi_non_list, isi_non_tuple, isi_non_str, isi_non_dict, isi_non_lt, isi_bl_int, isi_bl_bool, isi_bl_list, isi_bl_tuple, isi_bl_str, isi_bl_dict, isi_bl_lt, isi_int_int, isi_int_bool, isi_int_list, isi_int_tuple, isi_int_str, isi_int_dict, isi_int_lt, isi_str_int, isi_str_bool, isi_str_list, isi_str_tuple, isi_str_str, isi_str_dict, isi_str_lt, isi_lst_int, isi_lst_bool, isi_lst_list, isi_lst_tuple, isi_lst_str, isi_lst_dict, isi_lst_lt, isi_tup_int, isi_tup_bool, isi_tup_list, isi_tup_tuple, isi_tup_str, isi_tup_dict, isi_tup_lt,  at0, at1, at2, at3, set0, set1, set2, setD_l, fillIO, putIO, ioN, permO, List.map_cons, List.map_nil, List.cons_append, List.nil_append, List.append_nil, List.replicate_succ, List.replicate_zero, Nat.reduceSub, Nat.reduceAdd, List.getElem?_cons_zero, List.getElem?_cons_succ, List.set_cons_zero, List.set_cons_succ, List.length_cons, List.length_nil, List.map_append])
  obtain ⟨j, rfl⟩ := Int.eq_ofNat_of_zero_le r0
  have hj : j < ds.length := by omega
  rw [show atI ds (j : Int) = some ds[j] from atI_of (List.getElem?_eq_getElem hj)]
  exact q j _ g' _ (List.getElem?_eq_getElem hj) hg' rfl
theorem d_ints (ns : List Int) : D.ints (ns.map D.int) = some ns := by
  induction ns with
  | nil => rfl
  | cons n ns ih =>
    show (match D.ints (ns.map D.int) with | some r => some (n :: r) | none => none) = _
    rw [ih]
theorem sp_cell {ns : List Int} {k : Nat} {Q : D → Sl → Prop} (q : ∀ z e, Q (.int z) e) : FP (m_law_cell [.fro (ns.map .int), .int k]) Q := by
  unfold m_law_cell b_law_cell
  (try simp only [RP_varm, RP_holem, RP_c, RP_1, RP_2, RP_f, RP_nil, RP_cons, RP_if, RP_and, RP_or, RP_not, RP_B, RP_qt, RP_perm, RP_pn, RP_ps, RP_sl, RP_call, RP_src, RP_r1, RP_r2, RP_en, RP_lc, RP_yes,  SP_nx, SP_seq, SP_drop, SP_ret, SP_set, SP_if, SP_sub, SP_app, SP_tgt, SP_par, SP_for, FP_fn, OP_some, OP_map, OP_add, OP_sub, OP_mul, OP_fdiv, OP_fmod, OP_pow, OP_neg, OP_lt, OP_le, OP_gt, OP_ge, OP_eqi, OP_nei, OP_bits, OP_int, OP_intb, OP_tup, OP_lst, OP_lenl, OP_lent, OP_lenf, OP_abs, OP_max2, OP_min2, OP_gcd, OP_ixl, OP_ixt, OP_ixf, OP_cat, OP_rep, OP_subb, OP_gN, BQ_b, BP_t, BP_f, BP_d, BP_n, BP_eq, ↓reduceIte, Option.map_some, is_non_np, is_non_ng, is_non_tp, is_non_tg, is_non_fp, is_non_fg, is_bl_np, is_bl_ng, is_bl_tp, is_bl_tg, is_bl_fp, is_bl_fg, is_int_np, is_int_ng, is_int_tp, is_int_tg, is_int_fp, is_int_fg, is_str_np, is_str_ng, is_str_tp, is_str_tg, is_str_fp, is_str_fg, is_lst_np, is_lst_ng, is_lst_tp, is_lst_tg, is_lst_fp, is_lst_fg, is_tup_np, is_tup_ng, is_tup_tp, is_tup_tg, is_tup_fp, is_tup_fg, isi_non_int, isi_non_bool, isi_non_list, isi_non_tuple, isi_non_str, isi_non_dict, isi_non_lt, isi_bl_int, isi_bl_bool, isi_bl_list, isi_bl_tuple, isi_bl_str, isi_bl_dict, isi_bl_lt, isi_int_int, isi_int_bool, isi_int_list, isi_int_tuple, isi_int_str, isi_int_dict, isi_int_lt, isi_str_int, isi_str_bool, isi_str_list, isi_str_tuple, isi_str_str, isi_str_dict, isi_str_lt, isi_lst_int, isi_lst_bool, isi_lst_list, isi_lst_tuple, isi_lst_str, isi_lst_dict, isi_lst_lt, isi_tup_int, isi_tup_bool, isi_tup_list, isi_tup_tuple, isi_tup_str, isi_tup_dict, isi_tup_lt,  at0, at1, at2, at3, set0, set1, set2, setD_l, fillIO, putIO, ioN, permO, List.map_cons, List.map_nil, List.cons_append, List.nil_append, List.append_nil, List.replicate_succ, List.replicate_zero, Nat.reduceSub, Nat.reduceAdd, List.getElem?_cons_zero, List.getElem?_cons_succ, List.set_cons_zero, List.set_cons_succ, List.length_cons, List.length_nil, List.map_append])
  refine ⟨fun h => ?_, fun _ => ?_⟩
  · have hk : k < ns.length := by simpa using h
    rw [show atI (ns.map D.int) (k : Int) = some (.int ns[k]) from atI_of (by rw [List.getElem?_map, List.getElem?_eq_getElem hk]; rfl)]
    exact q _ _
  · show OP (fSumF [.lst (cutL (ns.map D.int) none (some 1))]) _
    rw [show cutL (ns.map D.int) none (some 1) = (cutL ns none (some 1)).map D.int by unfold cutL; rw [List.length_map, List.map_take, List.map_drop]]
    show OP ((D.ints _).map _) _
    rw [d_ints]
    (try simp only [RP_varm, RP_holem, RP_c, RP_1, RP_2, RP_f, RP_nil, RP_cons, RP_if, RP_and, RP_or, RP_not, RP_B, RP_qt, RP_perm, RP_pn, RP_ps, RP_sl, RP_call, RP_src, RP_r1, RP_r2, RP_en, RP_lc, RP_yes,  SP_nx, SP_seq, SP_drop, SP_ret, SP_set, SP_if, SP_sub, SP_app, SP_tgt, SP_par, SP_for, FP_fn, OP_some, OP_map, OP_add, OP_sub, OP_mul, OP_fdiv, OP_fmod, OP_pow, OP_neg, OP_lt, OP_le, OP_gt, OP_ge, OP_eqi, OP_nei, OP_bits, OP_int, OP_intb, OP_tup, OP_lst, OP_lenl, OP_lent, OP_lenf, OP_abs, OP_max2, OP_min2, OP_gcd, OP_ixl, OP_ixt, OP_ixf, OP_cat, OP_rep, OP_subb, OP_gN, BQ_b, BP_t, BP_f, BP_d, BP_n, BP_eq, ↓reduceIte, Option.map_some, is_non_np, is_non_ng, is_non_tp, is_non_tg, is_non_fp, is_non_fg, is_bl_np, is_bl_ng, is_bl_tp, is_bl_tg, is_bl_fp, is_bl_fg, is_int_np, is_int_ng, is_int_tp, is_int_tg, is_int_fp, is_int_fg, is_str_np, is_str_ng, is_str_tp, is_str_tg, is_str_fp, is_str_fg, is_lst_np, is_lst_ng, is_lst_tp, is_lst_tg, is_lst_fp, is_lst_fg, is_tup_np, is_tup_ng, is_tup_tp, is_tup_tg, is_tup_fp, is_tup_fg, isi_non_int, isi_non_bool, isi_non_list, isi_non_tuple, isi_non_str, isi_non_dict, isi_non_lt, isi_bl_int, isi_bl_bool, isi_bl_list, isi_bl_tuple, isi_bl_str, isi_bl_dict, isi_bl_lt, isi_int_int, isi_int_bool, isi_int_list, isi_int_tuple, isi_int_str, isi_int_dict, isi_int_lt, isi_str_int, isi_str_bool, isi_str_list, isi_str_tuple, isi_str_str, isi_str_dict, isi_str_lt, isi_lst_int, isi_lst_bool, isi_lst_list, isi_lst_tuple, isi_lst_str, isi_lst_dict, isi_lst_lt, isi_tup_int, isi_tup_bool, isi_tup_list, isi_tup_tuple, isi_tup_str, isi_tup_dict, isi_tup_lt,  at0, at1, at2, at3, set0, set1, set2, setD_l, fillIO, putIO, ioN, permO, List.map_cons, List.map_nil, List.cons_append, List.nil_append, List.append_nil, List.replicate_succ, List.replicate_zero, Nat.reduceSub, Nat.reduceAdd, List.getElem?_cons_zero, List.getElem?_cons_succ, List.set_cons_zero, List.set_cons_succ, List.length_cons, List.length_nil, List.map_append])
    exact ⟨by decide, q _ _⟩
theorem sp_generator {ns : List Int} {k : Nat} {Q : D → Sl → Prop} (hk : k ≤ 1000) (q : ∀ g e, GenOk 0 g → Q g e) : FP (m_law_generator [.fro (ns.map .int), .int k]) Q := by
  unfold m_law_generator b_law_generator
  (try simp only [RP_varm, RP_holem, RP_c, RP_1, RP_2, RP_f, RP_nil, RP_cons, RP_if, RP_and, RP_or, RP_not, RP_B, RP_qt, RP_perm, RP_pn, RP_ps, RP_sl, RP_call, RP_src, RP_r1, RP_r2, RP_en, RP_lc, RP_yes,  SP_nx, SP_seq, SP_drop, SP_ret, SP_set, SP_if, SP_sub, SP_app, SP_tgt, SP_par, SP_for, FP_fn, OP_some, OP_map, OP_add, OP_sub, OP_mul, OP_fdiv, OP_fmod, OP_pow, OP_neg, OP_lt, OP_le, OP_gt, OP_ge, OP_eqi, OP_nei, OP_bits, OP_int, OP_intb, OP_tup, OP_lst, OP_lenl, OP_lent, OP_lenf, OP_abs, OP_max2, OP_min2, OP_gcd, OP_ixl, OP_ixt, OP_ixf, OP_cat, OP_rep, OP_subb, OP_gN, BQ_b, BP_t, BP_f, BP_d, BP_n, BP_eq, ↓reduceIte, Option.map_some, is_non_np, is_non_ng, is_non_tp, is_non_tg, is_non_fp, is_non_fg, is_bl_np, is_bl_ng, is_bl_tp, is_bl_tg, is_bl_fp, is_bl_fg, is_int_np, is_int_ng, is_int_tp, is_int_tg, is_int_fp, is_int_fg, is_str_np, is_str_ng, is_str_tp, is_str_tg, is_str_fp, is_str_fg, is_lst_np, is_lst_ng, is_lst_tp, is_lst_tg, is_lst_fp, is_lst_fg, is_tup_np, is_tup_ng, is_tup_tp, is_tup_tg, is_tup_fp, is_tup_fg, isi_non_int, isi_non_bool, isi_non_list, isi_non_tuple, isi_non_str, isi_non_dict, isi_non_lt, isi_bl_int, isi_bl_bool, isi_bl_list, isi_bl_tuple, isi_bl_str, isi_bl_dict, isi_bl_lt, isi_int_int, isi_int_bool, isi_int_list, isi_int_tuple, isi_int_str, isi_int_dict, isi_int_lt, isi_str_int, isi_str_bool, isi_str_list, isi_str_tuple, isi_str_str, isi_str_dict, isi_str_lt, isi_lst_int, isi_lst_bool, isi_lst_list, isi_lst_tuple, isi_lst_str, isi_lst_dict, isi_lst_lt, isi_tup_int, isi_tup_bool, isi_tup_list, isi_tup_tuple, isi_tup_str, isi_tup_dict, isi_tup_lt,  at0, at1, at2, at3, set0, set1, set2, setD_l, fillIO, putIO, ioN, permO, List.map_cons, List.map_nil, List.cons_append, List.nil_append, List.append_nil, List.replicate_succ, List.replicate_zero, Nat.reduceSub, Nat.reduceAdd, List.getElem?_cons_zero, List.getElem?_cons_succ, List.set_cons_zero, List.set_cons_succ, List.length_cons, List.length_nil, List.map_append])
  refine sp_cell fun z e => ?_
  have hN : ∀ x y, 0 < y → Bd 4000 y → Bd 4000 (Int.fmod x y) := fun x y h k => Bd.fmod h k
  have h1 := fmod_rng z (y := 2147483647) (by decide)
  have h2 := fmod_rng (max (z - 10 ^ 18) 0) (y := (10 ^ 60) ^ 10) (by decide +kernel)
  have h3 := hN (max (z - 10 ^ 18) 0) ((10 ^ 60) ^ 10) (by decide +kernel) (by unfold Bd; decide +kernel)
  (try simp only [RP_varm, RP_holem, RP_c, RP_1, RP_2, RP_f, RP_nil, RP_cons, RP_if, RP_and, RP_or, RP_not, RP_B, RP_qt, RP_perm, RP_pn, RP_ps, RP_sl, RP_call, RP_src, RP_r1, RP_r2, RP_en, RP_lc, RP_yes,  SP_nx, SP_seq, SP_drop, SP_ret, SP_set, SP_if, SP_sub, SP_app, SP_tgt, SP_par, SP_for, FP_fn, OP_some, OP_map, OP_add, OP_sub, OP_mul, OP_fdiv, OP_fmod, OP_pow, OP_neg, OP_lt, OP_le, OP_gt, OP_ge, OP_eqi, OP_nei, OP_bits, OP_int, OP_intb, OP_tup, OP_lst, OP_lenl, OP_lent, OP_lenf, OP_abs, OP_max2, OP_min2, OP_gcd, OP_ixl, OP_ixt, OP_ixf, OP_cat, OP_rep, OP_subb, OP_gN, BQ_b, BP_t, BP_f, BP_d, BP_n, BP_eq, ↓reduceIte, Option.map_some, is_non_np, is_non_ng, is_non_tp, is_non_tg, is_non_fp, is_non_fg, is_bl_np, is_bl_ng, is_bl_tp, is_bl_tg, is_bl_fp, is_bl_fg, is_int_np, is_int_ng, is_int_tp, is_int_tg, is_int_fp, is_int_fg, is_str_np, is_str_ng, is_str_tp, is_str_tg, is_str_fp, is_str_fg, is_lst_np, is_lst_ng, is_lst_tp, is_lst_tg, is_lst_fp, is_lst_fg, is_tup_np, is_tup_ng, is_tup_tp, is_tup_tg, is_tup_fp, is_tup_fg, isi_non_int, isi_non_bool, isi_non_list, isi_non_tuple, isi_non_str, isi_non_dict, isi_non_lt, isi_bl_int, isi_bl_bool, isi_bl_list, isi_bl_tuple, isi_bl_str, isi_bl_dict, isi_bl_lt, isi_int_int, isi_int_bool, isi_int_list, isi_int_tuple, isi_int_str, isi_int_dict, isi_int_lt, isi_str_int, isi_str_bool, isi_str_list, isi_str_tuple, isi_str_str, isi_str_dict, isi_str_lt, isi_lst_int, isi_lst_bool, isi_lst_list, isi_lst_tuple, isi_lst_str, isi_lst_dict, isi_lst_lt, isi_tup_int, isi_tup_bool, isi_tup_list, isi_tup_tuple, isi_tup_str, isi_tup_dict, isi_tup_lt,  at0, at1, at2, at3, set0, set1, set2, setD_l, fillIO, putIO, ioN, permO, List.map_cons, List.map_nil, List.cons_append, List.nil_append, List.append_nil, List.replicate_succ, List.replicate_zero, Nat.reduceSub, Nat.reduceAdd, List.getElem?_cons_zero, List.getElem?_cons_succ, List.set_cons_zero, List.set_cons_succ, List.length_cons, List.length_nil, List.map_append])
  refine ⟨by decide, by decide, ?_, by decide +kernel, by decide, ?_, ?_, q _ _ ⟨_, _, _, rfl, h2.1, h3, h1.1, h1.2, by omega, by omega⟩⟩
  · decide +kernel
  · refine ⟨by decide +kernel, Bd.big (n := 10) (show k < 2 ^ 10 by omega) (by decide)⟩
  · decide
end M3

/-! PB -/
set_option Elab.async false
set_option linter.all false
set_option maxRecDepth 100000
set_option maxHeartbeats 400000
namespace M3
open PySem PySem.Spec PyProof.Rows L2


/-! ### fractions -/
def gcI (a b : Int) : Int := ((Nat.gcd a.natAbs b.natAbs : Nat) : Int)
def lowI (a b : Int) : Int := if b < 0 then 0 - gcI a b else gcI a b
def lowD (a b : Int) : D := .tup [.int (a.fdiv (lowI a b)), .int (b.fdiv (lowI a b))]
theorem gcI_pos {a b : Int} (hb : b ≠ 0) : 0 < gcI a b := by
  unfold gcI
  have : 0 < Nat.gcd a.natAbs b.natAbs := Nat.gcd_pos_of_pos_right _ (by omega)
  omega
theorem gcI_le {a b : Int} (hb : b ≠ 0) : (gcI a b).natAbs ≤ b.natAbs := by
  unfold gcI
  rw [Int.natAbs_natCast]
  exact Nat.le_of_dvd (by omega) (Nat.gcd_dvd_right _ _)
theorem gcI_bd {a b : Int} {n : Nat} (hb : b ≠ 0) (h : Bd n b) : Bd n (gcI a b) := by
  have := gcI_le (a := a) hb
  unfold Bd at *
  omega
theorem sp_lowest {a b : Int} {Q : D → Sl → Prop} (hb : b ≠ 0) (h2 : Bd 8000 b) (q : ∀ e, Q (lowD a b) e) : FP (m_lowest [.int a, .int b]) Q := by
  have g0 := gcI_pos (a := a) hb
  have g1 := gcI_bd (a := a) hb h2
  unfold m_lowest b_lowest
  (try simp only [RP_varm, RP_holem, RP_c, RP_1, RP_2, RP_f, RP_nil, RP_cons, RP_if, RP_and, RP_or, RP_not, RP_B, RP_qt, RP_perm, RP_pn, RP_ps, RP_sl, RP_call, RP_src, RP_r1, RP_r2, RP_en, RP_lc, RP_yes,  SP_nx, SP_seq, SP_drop, SP_ret, SP_set, SP_if, SP_sub, SP_app, SP_tgt, SP_par, SP_for, FP_fn, OP_some, OP_map, OP_add, OP_sub, OP_mul, OP_fdiv, OP_fmod, OP_pow, OP_neg, OP_lt, OP_le, OP_gt, OP_ge, OP_eqi, OP_nei, OP_bits, OP_int, OP_intb, OP_tup, OP_lst, OP_lenl, OP_lent, OP_lenf, OP_abs, OP_max2, OP_min2, OP_gcd, OP_ixl, OP_ixt, OP_ixf, OP_cat, OP_rep, OP_subb, OP_gN, BQ_b, BP_t, BP_f, BP_d, BP_n, BP_eq, ↓reduceIte, Option.map_some, is_non_np, is_non_ng, is_non_tp, is_non_tg, is_non_fp, is_non_fg, is_bl_np, is_bl_ng, is_bl_tp, is_bl_tg, is_bl_fp, is_bl_fg, is_int_np, is_int_ng, is_int_tp, is_int_tg, is_int_fp, is_int_fg, is_str_np, is_str_ng, is_str_tp, is_str_tg, is_str_fp, is_str_fg, is_lst_np, is_lst_ng, is_lst_tp, is_lst_tg, is_lst_fp, is_lst_fg, is_tup_np, is_tup_ng, is_tup_tp, is_tup_tg, is_tup_fp, is_tup_fg, isi_non_int, isi_non_bool, isi_non_list, isi_non_tuple, isi_non_str, isi_non_dict, isi_non_lt, isi_bl_int, isi_bl_bool, isi_bl_list, isi_bl_tuple, isi_bl_str, isi_bl_dict, isi_bl_lt, isi_int_int, isi_int_bool, isi_int_list, isi_int_tuple, isi_int_str, isi_int_dict, isi_int_lt, isi_str_int, isi_str_bool, isi_str_list, isi_str_tuple, isi_str_str, isi_str_dict, isi_str_lt, isi_lst_int, isi_lst_bool, isi_lst_list, isi_lst_tuple, isi_lst_str, isi_lst_dict, isi_lst_lt, isi_tup_int, isi_tup_bool, isi_tup_list, isi_tup_tuple, isi_tup_str, isi_tup_dict, isi_tup_lt,  at0, at1, at2, at3, set0, set1, set2, setD_l, fillIO, putIO, ioN, permO, List.map_cons, List.map_nil, List.cons_append, List.nil_append, List.append_nil, List.replicate_succ, List.replicate_zero, Nat.reduceSub, Nat.reduceAdd, List.getElem?_cons_zero, List.getElem?_cons_succ, List.set_cons_zero, List.set_cons_succ, List.length_cons, List.length_nil, List.map_append])
  change (b < 0 → (-gcI a b ≠ 0 ∧ _) ∧ (-gcI a b ≠ 0 ∧ _) ∧ 2 ≤ lim ∧ Q (.tup [.int (a.fdiv (-gcI a b)), .int (b.fdiv (-gcI a b))]) _) ∧ (¬b < 0 → (gcI a b ≠ 0 ∧ _) ∧ (gcI a b ≠ 0 ∧ _) ∧ 2 ≤ lim ∧ Q (.tup [.int (a.fdiv (gcI a b)), .int (b.fdiv (gcI a b))]) _)
  refine ⟨fun h => ?_, fun h => ?_⟩
  · have e : lowD a b = .tup [.int (a.fdiv (-gcI a b)), .int (b.fdiv (-gcI a b))] := by unfold lowD lowI; rw [if_pos h, Int.zero_sub]
    rw [← e]
    exact ⟨⟨by omega, g1.neg.dv (by decide)⟩, ⟨by omega, g1.neg.dv (by decide)⟩, by decide, q _⟩
  · have e : lowD a b = .tup [.int (a.fdiv (gcI a b)), .int (b.fdiv (gcI a b))] := by unfold lowD lowI; rw [if_neg h]
    rw [← e]
    exact ⟨⟨by omega, g1.dv (by decide)⟩, ⟨by omega, g1.dv (by decide)⟩, by decide, q _⟩
/-- Euclid's loop -/
def EI (g : Nat) (n : Nat) (e : Sl) : Prop := ∃ x y : Int, e = [some (.int x), some (.int y)] ∧ Nat.gcd x.natAbs y.natAbs = g ∧ Bd 7000 x ∧ Bd 7000 y ∧ (n = 20000 ∨ (n < 20000 ∧ (y = 0 ∨ (0 < y ∧ y < x) ∨ (y < 0 ∧ x < y)) ∧ x.natAbs * y.natAbs < 2 ^ n))
theorem gcd_step (x y : Int) : Nat.gcd y.natAbs (x - y * x.fdiv y).natAbs = Nat.gcd x.natAbs y.natAbs := by
  have h := Int.gcd_sub_mul_right_right y x (x.fdiv y)
  rw [Int.mul_comm (x.fdiv y) y] at h
  have h : Nat.gcd y.natAbs (x - y * x.fdiv y).natAbs = Nat.gcd y.natAbs x.natAbs := h
  rw [h, Nat.gcd_comm]
theorem mod_sign {x y : Int} (hy : y ≠ 0) : (x.fmod y = 0 ∨ (0 < x.fmod y ∧ x.fmod y < y) ∨ (x.fmod y < 0 ∧ y < x.fmod y)) ∧ (x.fmod y).natAbs < y.natAbs := by
  rcases Int.lt_or_gt_of_ne hy with h | h
  · have h1 := Int.fmod_nonneg_of_pos (-x) (b := -y) (by omega)
    have h2 := Int.fmod_lt_of_pos (-x) (b := -y) (by omega)
    rw [Int.neg_fmod_neg] at h1 h2
    omega
  · have h1 := Int.fmod_nonneg_of_pos x h
    have h2 := Int.fmod_lt_of_pos x h
    omega
theorem mod_half {x y : Int} (h : (0 < y ∧ y < x) ∨ (y < 0 ∧ x < y)) : 2 * (x.fmod y).natAbs ≤ x.natAbs := by
  have key : ∀ x y : Int, 0 < y → y < x → 2 * (x.fmod y).natAbs ≤ x.natAbs := by
    intro x y h1 h2
    have a := Int.fmod_nonneg_of_pos x h1
    have b := Int.fmod_lt_of_pos x h1
    have c : 1 ≤ x.fdiv y := by
      rw [Int.fdiv_eq_ediv_of_nonneg _ (by omega)]
      exact Int.le_ediv_of_mul_le h1 (by omega)
    have d := Int.fmod_def x y
    have e : y * 1 ≤ y * x.fdiv y := Int.mul_le_mul_of_nonneg_left c (by omega)
    omega
  rcases h with ⟨h1, h2⟩ | ⟨h1, h2⟩
  · exact key x y h1 h2
  · have k := key (-x) (-y) (by omega) (by omega)
    rw [Int.neg_fmod_neg] at k
    omega
theorem sp_common {a b : Int} {Q : D → Sl → Prop} (h1 : Bd 7000 a) (h2 : Bd 7000 b) (q : ∀ e, Q (.int (gcI a b)) e) : FP (m_law_common [.int a, .int b]) Q := by
  unfold m_law_common b_law_common
  (try simp only [RP_varm, RP_holem, RP_c, RP_1, RP_2, RP_f, RP_nil, RP_cons, RP_if, RP_and, RP_or, RP_not, RP_B, RP_qt, RP_perm, RP_pn, RP_ps, RP_sl, RP_call, RP_src, RP_r1, RP_r2, RP_en, RP_lc, RP_yes,  SP_nx, SP_seq, SP_drop, SP_ret, SP_set, SP_if, SP_sub, SP_app, SP_tgt, SP_par, SP_for, FP_fn, OP_some, OP_map, OP_add, OP_sub, OP_mul, OP_fdiv, OP_fmod, OP_pow, OP_neg, OP_lt, OP_le, OP_gt, OP_ge, OP_eqi, OP_nei, OP_bits, OP_int, OP_intb, OP_tup, OP_lst, OP_lenl, OP_lent, OP_lenf, OP_abs, OP_max2, OP_min2, OP_gcd, OP_ixl, OP_ixt, OP_ixf, OP_cat, OP_rep, OP_subb, OP_gN, BQ_b, BP_t, BP_f, BP_d, BP_n, BP_eq, ↓reduceIte, Option.map_some, is_non_np, is_non_ng, is_non_tp, is_non_tg, is_non_fp, is_non_fg, is_bl_np, is_bl_ng, is_bl_tp, is_bl_tg, is_bl_fp, is_bl_fg, is_int_np, is_int_ng, is_int_tp, is_int_tg, is_int_fp, is_int_fg, is_str_np, is_str_ng, is_str_tp, is_str_tg, is_str_fp, is_str_fg, is_lst_np, is_lst_ng, is_lst_tp, is_lst_tg, is_lst_fp, is_lst_fg, is_tup_np, is_tup_ng, is_tup_tp, is_tup_tg, is_tup_fp, is_tup_fg, isi_non_int, isi_non_bool, isi_non_list, isi_non_tuple, isi_non_str, isi_non_dict, isi_non_lt, isi_bl_int, isi_bl_bool, isi_bl_list, isi_bl_tuple, isi_bl_str, isi_bl_dict, isi_bl_lt, isi_int_int, isi_int_bool, isi_int_list, isi_int_tuple, isi_int_str, isi_int_dict, isi_int_lt, isi_str_int, isi_str_bool, isi_str_list, isi_str_tuple, isi_str_str, isi_str_dict, isi_str_lt, isi_lst_int, isi_lst_bool, isi_lst_list, isi_lst_tuple, isi_lst_str, isi_lst_dict, isi_lst_lt, isi_tup_int, isi_tup_bool, isi_tup_list, isi_tup_tuple, isi_tup_str, isi_tup_dict, isi_tup_lt,  at0, at1, at2, at3, set0, set1, set2, setD_l, fillIO, putIO, ioN, permO, List.map_cons, List.map_nil, List.cons_append, List.nil_append, List.append_nil, List.replicate_succ, List.replicate_zero, Nat.reduceSub, Nat.reduceAdd, List.getElem?_cons_zero, List.getElem?_cons_succ, List.set_cons_zero, List.set_cons_succ, List.length_cons, List.length_nil, List.map_append])
  refine SP_whl (EI (Nat.gcd a.natAbs b.natAbs)) 20000 (by decide +kernel) ⟨a, b, rfl, rfl, h1, h2, .inl rfl⟩ ?_
  intro n e ⟨x, y, he, hg, hx, hy, hn⟩
  subst he
  (try simp only [RP_varm, RP_holem, RP_c, RP_1, RP_2, RP_f, RP_nil, RP_cons, RP_if, RP_and, RP_or, RP_not, RP_B, RP_qt, RP_perm, RP_pn, RP_ps, RP_sl, RP_call, RP_src, RP_r1, RP_r2, RP_en, RP_lc, RP_yes,  SP_nx, SP_seq, SP_drop, SP_ret, SP_set, SP_if, SP_sub, SP_app, SP_tgt, SP_par, SP_for, FP_fn, OP_some, OP_map, OP_add, OP_sub, OP_mul, OP_fdiv, OP_fmod, OP_pow, OP_neg, OP_lt, OP_le, OP_gt, OP_ge, OP_eqi, OP_nei, OP_bits, OP_int, OP_intb, OP_tup, OP_lst, OP_lenl, OP_lent, OP_lenf, OP_abs, OP_max2, OP_min2, OP_gcd, OP_ixl, OP_ixt, OP_ixf, OP_cat, OP_rep, OP_subb, OP_gN, BQ_b, BP_t, BP_f, BP_d, BP_n, BP_eq, ↓reduceIte, Option.map_some, is_non_np, is_non_ng, is_non_tp, is_non_tg, is_non_fp, is_non_fg, is_bl_np, is_bl_ng, is_bl_tp, is_bl_tg, is_bl_fp, is_bl_fg, is_int_np, is_int_ng, is_int_tp, is_int_tg, is_int_fp, is_int_fg, is_str_np, is_str_ng, is_str_tp, is_str_tg, is_str_fp, is_str_fg, is_lst_np, is_lst_ng, is_lst_tp, is_lst_tg, is_lst_fp, is_lst_fg, is_tup_np, is_tup_ng, is_tup_tp, is_tup_tg, is_tup_fp, is_tup_fg, isi_non_int, isi_non_bool, isi_non_list, isi_non_tuple, isi_non_str, isi_non_dict, isi_non_lt, isi_bl_int, isi_bl_bool, isi_bl_list, isi_bl_tuple, isi_bl_str, isi_bl_dict, isi_bl_lt, isi_int_int, isi_int_bool, isi_int_list, isi_int_tuple, isi_int_str, isi_int_dict, isi_int_lt, isi_str_int, isi_str_bool, isi_str_list, isi_str_tuple, isi_str_str, isi_str_dict, isi_str_lt, isi_lst_int, isi_lst_bool, isi_lst_list, isi_lst_tuple, isi_lst_str, isi_lst_dict, isi_lst_lt, isi_tup_int, isi_tup_bool, isi_tup_list, isi_tup_tuple, isi_tup_str, isi_tup_dict, isi_tup_lt,  at0, at1, at2, at3, set0, set1, set2, setD_l, fillIO, putIO, ioN, permO, List.map_cons, List.map_nil, List.cons_append, List.nil_append, List.append_nil, List.replicate_succ, List.replicate_zero, Nat.reduceSub, Nat.reduceAdd, List.getElem?_cons_zero, List.getElem?_cons_succ, List.set_cons_zero, List.set_cons_succ, List.length_cons, List.length_nil, List.map_append])
  refine ⟨fun h => ?_, fun h => ?_⟩
  · subst h
    rw [show (x.natAbs : Int) = gcI a b by unfold gcI; rw [← hg]; simp]
    exact q _
  · have md := mod_sign (x := x) h
    have gs := gcd_step x y
    rw [← Int.fmod_def] at gs
    have hr : Bd 7000 (x.fmod y) := by unfold Bd at *; omega
    refine ⟨⟨h, hy.dv (by decide)⟩, ⟨hy.big (by decide), (hx.fdiv (y := y)).big (by decide)⟩, ?_⟩
    rw [← Int.fmod_def]
    rcases hn with hn | ⟨hn, hs, hp⟩
    · refine ⟨14000, by omega, y, x.fmod y, rfl, by rw [gs, hg], hy, hr, .inr ⟨by decide, md.1, ?_⟩⟩
      have h1 : (2 : Nat) ^ 14000 = 2 ^ 7000 * 2 ^ 7000 := by rw [← Nat.pow_add]
      rw [h1]
      exact Nat.mul_lt_mul'' hy hr
    · have hh := mod_half (x := x) (y := y) (by omega)
      have n0 : n ≠ 0 := by
        intro z; subst z
        have : x.natAbs * y.natAbs < 1 := hp
        have : 0 < x.natAbs * y.natAbs := Nat.mul_pos (by omega) (by omega)
        omega
      obtain ⟨m, rfl⟩ := Nat.exists_eq_succ_of_ne_zero n0
      refine ⟨m, by omega, y, x.fmod y, rfl, by rw [gs, hg], hy, hr, .inr ⟨by omega, md.1, ?_⟩⟩
      have h3 : y.natAbs * (2 * (x.fmod y).natAbs) ≤ y.natAbs * x.natAbs := Nat.mul_le_mul_left _ hh
      rw [Nat.mul_left_comm, Nat.mul_comm y.natAbs x.natAbs] at h3
      rw [Nat.pow_succ] at hp
      omega
theorem sp_lawlowest {a b : Int} {Q : D → Sl → Prop} (hb : b ≠ 0) (h1 : Bd 7000 a) (h2 : Bd 7000 b) (q : ∀ e, Q (lowD a b) e) : FP (m_law_lowest [.int a, .int b]) Q := by
  have g0 := gcI_pos (a := a) hb
  have g1 := gcI_bd (a := a) hb h2
  unfold m_law_lowest b_law_lowest
  (try simp only [RP_varm, RP_holem, RP_c, RP_1, RP_2, RP_f, RP_nil, RP_cons, RP_if, RP_and, RP_or, RP_not, RP_B, RP_qt, RP_perm, RP_pn, RP_ps, RP_sl, RP_call, RP_src, RP_r1, RP_r2, RP_en, RP_lc, RP_yes,  SP_nx, SP_seq, SP_drop, SP_ret, SP_set, SP_if, SP_sub, SP_app, SP_tgt, SP_par, SP_for, FP_fn, OP_some, OP_map, OP_add, OP_sub, OP_mul, OP_fdiv, OP_fmod, OP_pow, OP_neg, OP_lt, OP_le, OP_gt, OP_ge, OP_eqi, OP_nei, OP_bits, OP_int, OP_intb, OP_tup, OP_lst, OP_lenl, OP_lent, OP_lenf, OP_abs, OP_max2, OP_min2, OP_gcd, OP_ixl, OP_ixt, OP_ixf, OP_cat, OP_rep, OP_subb, OP_gN, BQ_b, BP_t, BP_f, BP_d, BP_n, BP_eq, ↓reduceIte, Option.map_some, is_non_np, is_non_ng, is_non_tp, is_non_tg, is_non_fp, is_non_fg, is_bl_np, is_bl_ng, is_bl_tp, is_bl_tg, is_bl_fp, is_bl_fg, is_int_np, is_int_ng, is_int_tp, is_int_tg, is_int_fp, is_int_fg, is_str_np, is_str_ng, is_str_tp, is_str_tg, is_str_fp, is_str_fg, is_lst_np, is_lst_ng, is_lst_tp, is_lst_tg, is_lst_fp, is_lst_fg, is_tup_np, is_tup_ng, is_tup_tp, is_tup_tg, is_tup_fp, is_tup_fg, isi_non_int, isi_non_bool, isi_non_list, isi_non_tuple, isi_non_str, isi_non_dict, isi_non_lt, isi_bl_int, isi_bl_bool, isi_bl_list, isi_bl_tuple, isi_bl_str, isi_bl_dict, isi_bl_lt, isi_int_int, isi_int_bool, isi_int_list, isi_int_tuple, isi_int_str, isi_int_dict, isi_int_lt, isi_str_int, isi_str_bool, isi_str_list, isi_str_tuple, isi_str_str, isi_str_dict, isi_str_lt, isi_lst_int, isi_lst_bool, isi_lst_list, isi_lst_tuple, isi_lst_str, isi_lst_dict, isi_lst_lt, isi_tup_int, isi_tup_bool, isi_tup_list, isi_tup_tuple, isi_tup_str, isi_tup_dict, isi_tup_lt,  at0, at1, at2, at3, set0, set1, set2, setD_l, fillIO, putIO, ioN, permO, List.map_cons, List.map_nil, List.cons_append, List.nil_append, List.append_nil, List.replicate_succ, List.replicate_zero, Nat.reduceSub, Nat.reduceAdd, List.getElem?_cons_zero, List.getElem?_cons_succ, List.set_cons_zero, List.set_cons_succ, List.length_cons, List.length_nil, List.map_append])
  refine sp_common h1 h2 fun e => ?_
  (try simp only [RP_varm, RP_holem, RP_c, RP_1, RP_2, RP_f, RP_nil, RP_cons, RP_if, RP_and, RP_or, RP_not, RP_B, RP_qt, RP_perm, RP_pn, RP_ps, RP_sl, RP_call, RP_src, RP_r1, RP_r2, RP_en, RP_lc, RP_yes,  SP_nx, SP_seq, SP_drop, SP_ret, SP_set, SP_if, SP_sub, SP_app, SP_tgt, SP_par, SP_for, FP_fn, OP_some, OP_map, OP_add, OP_sub, OP_mul, OP_fdiv, OP_fmod, OP_pow, OP_neg, OP_lt, OP_le, OP_gt, OP_ge, OP_eqi, OP_nei, OP_bits, OP_int, OP_intb, OP_tup, OP_lst, OP_lenl, OP_lent, OP_lenf, OP_abs, OP_max2, OP_min2, OP_gcd, OP_ixl, OP_ixt, OP_ixf, OP_cat, OP_rep, OP_subb, OP_gN, BQ_b, BP_t, BP_f, BP_d, BP_n, BP_eq, ↓reduceIte, Option.map_some, is_non_np, is_non_ng, is_non_tp, is_non_tg, is_non_fp, is_non_fg, is_bl_np, is_bl_ng, is_bl_tp, is_bl_tg, is_bl_fp, is_bl_fg, is_int_np, is_int_ng, is_int_tp, is_int_tg, is_int_fp, is_int_fg, is_str_np, is_str_ng, is_str_tp, is_str_tg, is_str_fp, is_str_fg, is_lst_np, is_lst_ng, is_lst_tp, is_lst_tg, is_lst_fp, is_lst_fg, is_tup_np, is_tup_ng, is_tup_tp, is_tup_tg, is_tup_fp, is_tup_fg, isi_non_int, isi_non_bool, isi_non_list, isi_non_tuple, isi_non_str, isi_non_dict, isi_non_lt, isi_bl_int, isi_bl_bool, isi_bl_list, isi_bl_tuple, isi_bl_str, isi_bl_dict, isi_bl_lt, isi_int_int, isi_int_bool, isi_int_list, isi_int_tuple, isi_int_str, isi_int_dict, isi_int_lt, isi_str_int, isi_str_bool, isi_str_list, isi_str_tuple, isi_str_str, isi_str_dict, isi_str_lt, isi_lst_int, isi_lst_bool, isi_lst_list, isi_lst_tuple, isi_lst_str, isi_lst_dict, isi_lst_lt, isi_tup_int, isi_tup_bool, isi_tup_list, isi_tup_tuple, isi_tup_str, isi_tup_dict, isi_tup_lt,  at0, at1, at2, at3, set0, set1, set2, setD_l, fillIO, putIO, ioN, permO, List.map_cons, List.map_nil, List.cons_append, List.nil_append, List.append_nil, List.replicate_succ, List.replicate_zero, Nat.reduceSub, Nat.reduceAdd, List.getElem?_cons_zero, List.getElem?_cons_succ, List.set_cons_zero, List.set_cons_succ, List.length_cons, List.length_nil, List.map_append])
  refine ⟨fun h => ?_, fun h => ?_⟩
  · have e : lowD a b = .tup [.int (a.fdiv (0 - gcI a b)), .int (b.fdiv (0 - gcI a b))] := by unfold lowD lowI; rw [if_pos h]
    rw [← e, Int.zero_sub]
    exact ⟨⟨by omega, g1.neg.dv (by decide)⟩, ⟨by omega, g1.neg.dv (by decide)⟩, by decide, q _⟩
  · have e : lowD a b = .tup [.int (a.fdiv (gcI a b)), .int (b.fdiv (gcI a b))] := by unfold lowD lowI; rw [if_neg h]
    rw [← e]
    exact ⟨⟨by omega, g1.dv (by decide)⟩, ⟨by omega, g1.dv (by decide)⟩, by decide, q _⟩
end M3

/-! PC -/
set_option Elab.async false
set_option linter.all false
set_option maxRecDepth 100000
set_option maxHeartbeats 400000
namespace M3
open PySem PySem.Spec PyProof.Rows L2



/-! ### told and due -/
def okSame : Nat → D → Prop
  | 0, _ => False
  | _ + 1, .non => True
  | _ + 1, .bl _ => True
  | _ + 1, .int _ => True
  | _ + 1, .str x => ∃ p, D.shaped (.str x) = some p
  | n + 1, .lst l => l.length ≤ lim ∧ ∀ d ∈ l, okSame n d
  | n + 1, .tup l => l.length ≤ lim ∧ ∀ d ∈ l, okSame n d
  | _ + 1, _ => False
theorem lim_rok {n : Nat} (h : n ≤ lim) : rOk (n : Int) := by
  have : n ≤ 1000000 := h
  constructor <;> omega
theorem seq_same {self : Fn} {l : List D} {b : D} {Q : List D → Sl → Prop} (ix : ∀ (i : Nat) (Q : D → Prop), OP (atI l i) Q → OP (D.ix b (.int i)) Q) (hl : ∀ d ∈ l, ∀ Q : D → Sl → Prop, (∀ e, Q (.bl true) e) → FP (self [d, d]) Q)
    (q : ∀ e, Q [] [some b, some b, e]) : ∀ (n i : Nat) (x : Option D), n + i = l.length → RP (lcL [2] (gN 2) (mNot (mB (mCall self [none, none] [] (mCons (m2 D.ix (mVar 0) (mVar 2)) (mCons (m2 D.ix (mVar 1) (mVar 2)) mNil))))) (mVar 2) ((rngD 0 l.length).drop i) [some b, some b, x]) Q := by
  intro n
  induction n with
  | zero =>
    intro i x hn
    rw [List.drop_eq_nil_of_le (by simp [rngD]; omega), RP_lcn]
    exact q x
  | succ n ih =>
    intro i x hn
    have hi : i < (rngD 0 l.length).length := by simp [rngD]; omega
    have hi2 : i < l.length := by omega
    rw [List.drop_eq_getElem_cons hi, RP_lcc]
    (try simp only [RP_varm, RP_holem, RP_c, RP_1, RP_2, RP_f, RP_nil, RP_cons, RP_if, RP_and, RP_or, RP_not, RP_B, RP_qt, RP_perm, RP_pn, RP_ps, RP_sl, RP_call, RP_src, RP_r1, RP_r2, RP_en, RP_lc, RP_yes,  SP_nx, SP_seq, SP_drop, SP_ret, SP_set, SP_if, SP_sub, SP_app, SP_tgt, SP_par, SP_for, FP_fn, OP_some, OP_map, OP_add, OP_sub, OP_mul, OP_fdiv, OP_fmod, OP_pow, OP_neg, OP_lt, OP_le, OP_gt, OP_ge, OP_eqi, OP_nei, OP_bits, OP_int, OP_intb, OP_tup, OP_lst, OP_lenl, OP_lent, OP_lenf, OP_abs, OP_max2, OP_min2, OP_gcd, OP_ixl, OP_ixt, OP_ixf, OP_cat, OP_rep, OP_subb, OP_gN, BQ_b, BP_t, BP_f, BP_d, BP_n, BP_eq, ↓reduceIte, Option.map_some, is_non_np, is_non_ng, is_non_tp, is_non_tg, is_non_fp, is_non_fg, is_bl_np, is_bl_ng, is_bl_tp, is_bl_tg, is_bl_fp, is_bl_fg, is_int_np, is_int_ng, is_int_tp, is_int_tg, is_int_fp, is_int_fg, is_str_np, is_str_ng, is_str_tp, is_str_tg, is_str_fp, is_str_fg, is_lst_np, is_lst_ng, is_lst_tp, is_lst_tg, is_lst_fp, is_lst_fg, is_tup_np, is_tup_ng, is_tup_tp, is_tup_tg, is_tup_fp, is_tup_fg, isi_non_int, isi_non_bool, isi_non_list, isi_non_tuple, isi_non_str, isi_non_dict, isi_non_lt, isi_bl_int, isi_bl_bool, isi_bl_list, isi_bl_tuple, isi_bl_str, isi_bl_dict, isi_bl_lt, isi_int_int, isi_int_bool, isi_int_list, isi_int_tuple, isi_int_str, isi_int_dict, isi_int_lt, isi_str_int, isi_str_bool, isi_str_list, isi_str_tuple, isi_str_str, isi_str_dict, isi_str_lt, isi_lst_int, isi_lst_bool, isi_lst_list, isi_lst_tuple, isi_lst_str, isi_lst_dict, isi_lst_lt, isi_tup_int, isi_tup_bool, isi_tup_list, isi_tup_tuple, isi_tup_str, isi_tup_dict, isi_tup_lt,  at0, at1, at2, at3, set0, set1, set2, setD_l, fillIO, putIO, ioN, permO, List.map_cons, List.map_nil, List.cons_append, List.nil_append, List.append_nil, List.replicate_succ, List.replicate_zero, Nat.reduceSub, Nat.reduceAdd, List.getElem?_cons_zero, List.getElem?_cons_succ, List.set_cons_zero, List.set_cons_succ, List.length_cons, List.length_nil, List.map_append])
    rw [show (rngD 0 l.length)[i] = D.int (i : Int) by simp [rngD]]
    refine ix i _ ?_
    rw [show atI l (i : Int) = some l[i] from atI_of (List.getElem?_eq_getElem hi2)]
    (try simp only [RP_varm, RP_holem, RP_c, RP_1, RP_2, RP_f, RP_nil, RP_cons, RP_if, RP_and, RP_or, RP_not, RP_B, RP_qt, RP_perm, RP_pn, RP_ps, RP_sl, RP_call, RP_src, RP_r1, RP_r2, RP_en, RP_lc, RP_yes,  SP_nx, SP_seq, SP_drop, SP_ret, SP_set, SP_if, SP_sub, SP_app, SP_tgt, SP_par, SP_for, FP_fn, OP_some, OP_map, OP_add, OP_sub, OP_mul, OP_fdiv, OP_fmod, OP_pow, OP_neg, OP_lt, OP_le, OP_gt, OP_ge, OP_eqi, OP_nei, OP_bits, OP_int, OP_intb, OP_tup, OP_lst, OP_lenl, OP_lent, OP_lenf, OP_abs, OP_max2, OP_min2, OP_gcd, OP_ixl, OP_ixt, OP_ixf, OP_cat, OP_rep, OP_subb, OP_gN, BQ_b, BP_t, BP_f, BP_d, BP_n, BP_eq, ↓reduceIte, Option.map_some, is_non_np, is_non_ng, is_non_tp, is_non_tg, is_non_fp, is_non_fg, is_bl_np, is_bl_ng, is_bl_tp, is_bl_tg, is_bl_fp, is_bl_fg, is_int_np, is_int_ng, is_int_tp, is_int_tg, is_int_fp, is_int_fg, is_str_np, is_str_ng, is_str_tp, is_str_tg, is_str_fp, is_str_fg, is_lst_np, is_lst_ng, is_lst_tp, is_lst_tg, is_lst_fp, is_lst_fg, is_tup_np, is_tup_ng, is_tup_tp, is_tup_tg, is_tup_fp, is_tup_fg, isi_non_int, isi_non_bool, isi_non_list, isi_non_tuple, isi_non_str, isi_non_dict, isi_non_lt, isi_bl_int, isi_bl_bool, isi_bl_list, isi_bl_tuple, isi_bl_str, isi_bl_dict, isi_bl_lt, isi_int_int, isi_int_bool, isi_int_list, isi_int_tuple, isi_int_str, isi_int_dict, isi_int_lt, isi_str_int, isi_str_bool, isi_str_list, isi_str_tuple, isi_str_str, isi_str_dict, isi_str_lt, isi_lst_int, isi_lst_bool, isi_lst_list, isi_lst_tuple, isi_lst_str, isi_lst_dict, isi_lst_lt, isi_tup_int, isi_tup_bool, isi_tup_list, isi_tup_tuple, isi_tup_str, isi_tup_dict, isi_tup_lt,  at0, at1, at2, at3, set0, set1, set2, setD_l, fillIO, putIO, ioN, permO, List.map_cons, List.map_nil, List.cons_append, List.nil_append, List.append_nil, List.replicate_succ, List.replicate_zero, Nat.reduceSub, Nat.reduceAdd, List.getElem?_cons_zero, List.getElem?_cons_succ, List.set_cons_zero, List.set_cons_succ, List.length_cons, List.length_nil, List.map_append])
    refine ix i _ ?_
    rw [show atI l (i : Int) = some l[i] from atI_of (List.getElem?_eq_getElem hi2)]
    (try simp only [RP_varm, RP_holem, RP_c, RP_1, RP_2, RP_f, RP_nil, RP_cons, RP_if, RP_and, RP_or, RP_not, RP_B, RP_qt, RP_perm, RP_pn, RP_ps, RP_sl, RP_call, RP_src, RP_r1, RP_r2, RP_en, RP_lc, RP_yes,  SP_nx, SP_seq, SP_drop, SP_ret, SP_set, SP_if, SP_sub, SP_app, SP_tgt, SP_par, SP_for, FP_fn, OP_some, OP_map, OP_add, OP_sub, OP_mul, OP_fdiv, OP_fmod, OP_pow, OP_neg, OP_lt, OP_le, OP_gt, OP_ge, OP_eqi, OP_nei, OP_bits, OP_int, OP_intb, OP_tup, OP_lst, OP_lenl, OP_lent, OP_lenf, OP_abs, OP_max2, OP_min2, OP_gcd, OP_ixl, OP_ixt, OP_ixf, OP_cat, OP_rep, OP_subb, OP_gN, BQ_b, BP_t, BP_f, BP_d, BP_n, BP_eq, ↓reduceIte, Option.map_some, is_non_np, is_non_ng, is_non_tp, is_non_tg, is_non_fp, is_non_fg, is_bl_np, is_bl_ng, is_bl_tp, is_bl_tg, is_bl_fp, is_bl_fg, is_int_np, is_int_ng, is_int_tp, is_int_tg, is_int_fp, is_int_fg, is_str_np, is_str_ng, is_str_tp, is_str_tg, is_str_fp, is_str_fg, is_lst_np, is_lst_ng, is_lst_tp, is_lst_tg, is_lst_fp, is_lst_fg, is_tup_np, is_tup_ng, is_tup_tp, is_tup_tg, is_tup_fp, is_tup_fg, isi_non_int, isi_non_bool, isi_non_list, isi_non_tuple, isi_non_str, isi_non_dict, isi_non_lt, isi_bl_int, isi_bl_bool, isi_bl_list, isi_bl_tuple, isi_bl_str, isi_bl_dict, isi_bl_lt, isi_int_int, isi_int_bool, isi_int_list, isi_int_tuple, isi_int_str, isi_int_dict, isi_int_lt, isi_str_int, isi_str_bool, isi_str_list, isi_str_tuple, isi_str_str, isi_str_dict, isi_str_lt, isi_lst_int, isi_lst_bool, isi_lst_list, isi_lst_tuple, isi_lst_str, isi_lst_dict, isi_lst_lt, isi_tup_int, isi_tup_bool, isi_tup_list, isi_tup_tuple, isi_tup_str, isi_tup_dict, isi_tup_lt,  at0, at1, at2, at3, set0, set1, set2, setD_l, fillIO, putIO, ioN, permO, List.map_cons, List.map_nil, List.cons_append, List.nil_append, List.append_nil, List.replicate_succ, List.replicate_zero, Nat.reduceSub, Nat.reduceAdd, List.getElem?_cons_zero, List.getElem?_cons_succ, List.set_cons_zero, List.set_cons_succ, List.length_cons, List.length_nil, List.map_append])
    refine hl l[i] (List.getElem_mem hi2) _ fun e => ?_
    (try simp only [RP_varm, RP_holem, RP_c, RP_1, RP_2, RP_f, RP_nil, RP_cons, RP_if, RP_and, RP_or, RP_not, RP_B, RP_qt, RP_perm, RP_pn, RP_ps, RP_sl, RP_call, RP_src, RP_r1, RP_r2, RP_en, RP_lc, RP_yes,  SP_nx, SP_seq, SP_drop, SP_ret, SP_set, SP_if, SP_sub, SP_app, SP_tgt, SP_par, SP_for, FP_fn, OP_some, OP_map, OP_add, OP_sub, OP_mul, OP_fdiv, OP_fmod, OP_pow, OP_neg, OP_lt, OP_le, OP_gt, OP_ge, OP_eqi, OP_nei, OP_bits, OP_int, OP_intb, OP_tup, OP_lst, OP_lenl, OP_lent, OP_lenf, OP_abs, OP_max2, OP_min2, OP_gcd, OP_ixl, OP_ixt, OP_ixf, OP_cat, OP_rep, OP_subb, OP_gN, BQ_b, BP_t, BP_f, BP_d, BP_n, BP_eq, ↓reduceIte, Option.map_some, is_non_np, is_non_ng, is_non_tp, is_non_tg, is_non_fp, is_non_fg, is_bl_np, is_bl_ng, is_bl_tp, is_bl_tg, is_bl_fp, is_bl_fg, is_int_np, is_int_ng, is_int_tp, is_int_tg, is_int_fp, is_int_fg, is_str_np, is_str_ng, is_str_tp, is_str_tg, is_str_fp, is_str_fg, is_lst_np, is_lst_ng, is_lst_tp, is_lst_tg, is_lst_fp, is_lst_fg, is_tup_np, is_tup_ng, is_tup_tp, is_tup_tg, is_tup_fp, is_tup_fg, isi_non_int, isi_non_bool, isi_non_list, isi_non_tuple, isi_non_str, isi_non_dict, isi_non_lt, isi_bl_int, isi_bl_bool, isi_bl_list, isi_bl_tuple, isi_bl_str, isi_bl_dict, isi_bl_lt, isi_int_int, isi_int_bool, isi_int_list, isi_int_tuple, isi_int_str, isi_int_dict, isi_int_lt, isi_str_int, isi_str_bool, isi_str_list, isi_str_tuple, isi_str_str, isi_str_dict, isi_str_lt, isi_lst_int, isi_lst_bool, isi_lst_list, isi_lst_tuple, isi_lst_str, isi_lst_dict, isi_lst_lt, isi_tup_int, isi_tup_bool, isi_tup_list, isi_tup_tuple, isi_tup_str, isi_tup_dict, isi_tup_lt,  at0, at1, at2, at3, set0, set1, set2, setD_l, fillIO, putIO, ioN, permO, List.map_cons, List.map_nil, List.cons_append, List.nil_append, List.append_nil, List.replicate_succ, List.replicate_zero, Nat.reduceSub, Nat.reduceAdd, List.getElem?_cons_zero, List.getElem?_cons_succ, List.set_cons_zero, List.set_cons_succ, List.length_cons, List.length_nil, List.map_append])
    exact ih (i + 1) none (by omega)
theorem sp_same : ∀ (n : Nat) (d : D) {Q : D → Sl → Prop}, okSame n d → (∀ e, Q (.bl true) e) → FP (m_law_same n [d, d]) Q
  | 0, _, _, h, _ => h.elim
  | n + 1, d, Q, h, q => by
    rw [e_law_same]
    unfold b_law_same
    cases d with
    | non =>
      (try simp only [RP_varm, RP_holem, RP_c, RP_1, RP_2, RP_f, RP_nil, RP_cons, RP_if, RP_and, RP_or, RP_not, RP_B, RP_qt, RP_perm, RP_pn, RP_ps, RP_sl, RP_call, RP_src, RP_r1, RP_r2, RP_en, RP_lc, RP_yes,  SP_nx, SP_seq, SP_drop, SP_ret, SP_set, SP_if, SP_sub, SP_app, SP_tgt, SP_par, SP_for, FP_fn, OP_some, OP_map, OP_add, OP_sub, OP_mul, OP_fdiv, OP_fmod, OP_pow, OP_neg, OP_lt, OP_le, OP_gt, OP_ge, OP_eqi, OP_nei, OP_bits, OP_int, OP_intb, OP_tup, OP_lst, OP_lenl, OP_lent, OP_lenf, OP_abs, OP_max2, OP_min2, OP_gcd, OP_ixl, OP_ixt, OP_ixf, OP_cat, OP_rep, OP_subb, OP_gN, BQ_b, BP_t, BP_f, BP_d, BP_n, BP_eq, ↓reduceIte, Option.map_some, is_non_np, is_non_ng, is_non_tp, is_non_tg, is_non_fp, is_non_fg, is_bl_np, is_bl_ng, is_bl_tp, is_bl_tg, is_bl_fp, is_bl_fg, is_int_np, is_int_ng, is_int_tp, is_int_tg, is_int_fp, is_int_fg, is_str_np, is_str_ng, is_str_tp, is_str_tg, is_str_fp, is_str_fg, is_lst_np, is_lst_ng, is_lst_tp, is_lst_tg, is_lst_fp, is_lst_fg, is_tup_np, is_tup_ng, is_tup_tp, is_tup_tg, is_tup_fp, is_tup_fg, isi_non_int, isi_non_bool, isi_non_list, isi_non_tuple, isi_non_str, isi_non_dict, isi_non_lt, isi_bl_int, isi_bl_bool, isi_bl_list, isi_bl_tuple, isi_bl_str, isi_bl_dict, isi_bl_lt, isi_int_int, isi_int_bool, isi_int_list, isi_int_tuple, isi_int_str, isi_int_dict, isi_int_lt, isi_str_int, isi_str_bool, isi_str_list, isi_str_tuple, isi_str_str, isi_str_dict, isi_str_lt, isi_lst_int, isi_lst_bool, isi_lst_list, isi_lst_tuple, isi_lst_str, isi_lst_dict, isi_lst_lt, isi_tup_int, isi_tup_bool, isi_tup_list, isi_tup_tuple, isi_tup_str, isi_tup_dict, isi_tup_lt,  at0, at1, at2, at3, set0, set1, set2, setD_l, fillIO, putIO, ioN, permO, List.map_cons, List.map_nil, List.cons_append, List.nil_append, List.append_nil, List.replicate_succ, List.replicate_zero, Nat.reduceSub, Nat.reduceAdd, List.getElem?_cons_zero, List.getElem?_cons_succ, List.set_cons_zero, List.set_cons_succ, List.length_cons, List.length_nil, List.map_append])
      exact q _
    | bl b =>
      cases b
      · (try simp only [RP_varm, RP_holem, RP_c, RP_1, RP_2, RP_f, RP_nil, RP_cons, RP_if, RP_and, RP_or, RP_not, RP_B, RP_qt, RP_perm, RP_pn, RP_ps, RP_sl, RP_call, RP_src, RP_r1, RP_r2, RP_en, RP_lc, RP_yes,  SP_nx, SP_seq, SP_drop, SP_ret, SP_set, SP_if, SP_sub, SP_app, SP_tgt, SP_par, SP_for, FP_fn, OP_some, OP_map, OP_add, OP_sub, OP_mul, OP_fdiv, OP_fmod, OP_pow, OP_neg, OP_lt, OP_le, OP_gt, OP_ge, OP_eqi, OP_nei, OP_bits, OP_int, OP_intb, OP_tup, OP_lst, OP_lenl, OP_lent, OP_lenf, OP_abs, OP_max2, OP_min2, OP_gcd, OP_ixl, OP_ixt, OP_ixf, OP_cat, OP_rep, OP_subb, OP_gN, BQ_b, BP_t, BP_f, BP_d, BP_n, BP_eq, ↓reduceIte, Option.map_some, is_non_np, is_non_ng, is_non_tp, is_non_tg, is_non_fp, is_non_fg, is_bl_np, is_bl_ng, is_bl_tp, is_bl_tg, is_bl_fp, is_bl_fg, is_int_np, is_int_ng, is_int_tp, is_int_tg, is_int_fp, is_int_fg, is_str_np, is_str_ng, is_str_tp, is_str_tg, is_str_fp, is_str_fg, is_lst_np, is_lst_ng, is_lst_tp, is_lst_tg, is_lst_fp, is_lst_fg, is_tup_np, is_tup_ng, is_tup_tp, is_tup_tg, is_tup_fp, is_tup_fg, isi_non_int, isi_non_bool, isi_non_list, isi_non_tuple, isi_non_str, isi_non_dict, isi_non_lt, isi_bl_int, isi_bl_bool, isi_bl_list, isi_bl_tuple, isi_bl_str, isi_bl_dict, isi_bl_lt, isi_int_int, isi_int_bool, isi_int_list, isi_int_tuple, isi_int_str, isi_int_dict, isi_int_lt, isi_str_int, isi_str_bool, isi_str_list, isi_str_tuple, isi_str_str, isi_str_dict, isi_str_lt, isi_lst_int, isi_lst_bool, isi_lst_list, isi_lst_tuple, isi_lst_str, isi_lst_dict, isi_lst_lt, isi_tup_int, isi_tup_bool, isi_tup_list, isi_tup_tuple, isi_tup_str, isi_tup_dict, isi_tup_lt,  at0, at1, at2, at3, set0, set1, set2, setD_l, fillIO, putIO, ioN, permO, List.map_cons, List.map_nil, List.cons_append, List.nil_append, List.append_nil, List.replicate_succ, List.replicate_zero, Nat.reduceSub, Nat.reduceAdd, List.getElem?_cons_zero, List.getElem?_cons_succ, List.set_cons_zero, List.set_cons_succ, List.length_cons, List.length_nil, List.map_append])
        exact q _
      · (try simp only [RP_varm, RP_holem, RP_c, RP_1, RP_2, RP_f, RP_nil, RP_cons, RP_if, RP_and, RP_or, RP_not, RP_B, RP_qt, RP_perm, RP_pn, RP_ps, RP_sl, RP_call, RP_src, RP_r1, RP_r2, RP_en, RP_lc, RP_yes,  SP_nx, SP_seq, SP_drop, SP_ret, SP_set, SP_if, SP_sub, SP_app, SP_tgt, SP_par, SP_for, FP_fn, OP_some, OP_map, OP_add, OP_sub, OP_mul, OP_fdiv, OP_fmod, OP_pow, OP_neg, OP_lt, OP_le, OP_gt, OP_ge, OP_eqi, OP_nei, OP_bits, OP_int, OP_intb, OP_tup, OP_lst, OP_lenl, OP_lent, OP_lenf, OP_abs, OP_max2, OP_min2, OP_gcd, OP_ixl, OP_ixt, OP_ixf, OP_cat, OP_rep, OP_subb, OP_gN, BQ_b, BP_t, BP_f, BP_d, BP_n, BP_eq, ↓reduceIte, Option.map_some, is_non_np, is_non_ng, is_non_tp, is_non_tg, is_non_fp, is_non_fg, is_bl_np, is_bl_ng, is_bl_tp, is_bl_tg, is_bl_fp, is_bl_fg, is_int_np, is_int_ng, is_int_tp, is_int_tg, is_int_fp, is_int_fg, is_str_np, is_str_ng, is_str_tp, is_str_tg, is_str_fp, is_str_fg, is_lst_np, is_lst_ng, is_lst_tp, is_lst_tg, is_lst_fp, is_lst_fg, is_tup_np, is_tup_ng, is_tup_tp, is_tup_tg, is_tup_fp, is_tup_fg, isi_non_int, isi_non_bool, isi_non_list, isi_non_tuple, isi_non_str, isi_non_dict, isi_non_lt, isi_bl_int, isi_bl_bool, isi_bl_list, isi_bl_tuple, isi_bl_str, isi_bl_dict, isi_bl_lt, isi_int_int, isi_int_bool, isi_int_list, isi_int_tuple, isi_int_str, isi_int_dict, isi_int_lt, isi_str_int, isi_str_bool, isi_str_list, isi_str_tuple, isi_str_str, isi_str_dict, isi_str_lt, isi_lst_int, isi_lst_bool, isi_lst_list, isi_lst_tuple, isi_lst_str, isi_lst_dict, isi_lst_lt, isi_tup_int, isi_tup_bool, isi_tup_list, isi_tup_tuple, isi_tup_str, isi_tup_dict, isi_tup_lt,  at0, at1, at2, at3, set0, set1, set2, setD_l, fillIO, putIO, ioN, permO, List.map_cons, List.map_nil, List.cons_append, List.nil_append, List.append_nil, List.replicate_succ, List.replicate_zero, Nat.reduceSub, Nat.reduceAdd, List.getElem?_cons_zero, List.getElem?_cons_succ, List.set_cons_zero, List.set_cons_succ, List.length_cons, List.length_nil, List.map_append])
        exact q _
    | int i =>
      (try simp only [RP_varm, RP_holem, RP_c, RP_1, RP_2, RP_f, RP_nil, RP_cons, RP_if, RP_and, RP_or, RP_not, RP_B, RP_qt, RP_perm, RP_pn, RP_ps, RP_sl, RP_call, RP_src, RP_r1, RP_r2, RP_en, RP_lc, RP_yes,  SP_nx, SP_seq, SP_drop, SP_ret, SP_set, SP_if, SP_sub, SP_app, SP_tgt, SP_par, SP_for, FP_fn, OP_some, OP_map, OP_add, OP_sub, OP_mul, OP_fdiv, OP_fmod, OP_pow, OP_neg, OP_lt, OP_le, OP_gt, OP_ge, OP_eqi, OP_nei, OP_bits, OP_int, OP_intb, OP_tup, OP_lst, OP_lenl, OP_lent, OP_lenf, OP_abs, OP_max2, OP_min2, OP_gcd, OP_ixl, OP_ixt, OP_ixf, OP_cat, OP_rep, OP_subb, OP_gN, BQ_b, BP_t, BP_f, BP_d, BP_n, BP_eq, ↓reduceIte, Option.map_some, is_non_np, is_non_ng, is_non_tp, is_non_tg, is_non_fp, is_non_fg, is_bl_np, is_bl_ng, is_bl_tp, is_bl_tg, is_bl_fp, is_bl_fg, is_int_np, is_int_ng, is_int_tp, is_int_tg, is_int_fp, is_int_fg, is_str_np, is_str_ng, is_str_tp, is_str_tg, is_str_fp, is_str_fg, is_lst_np, is_lst_ng, is_lst_tp, is_lst_tg, is_lst_fp, is_lst_fg, is_tup_np, is_tup_ng, is_tup_tp, is_tup_tg, is_tup_fp, is_tup_fg, isi_non_int, isi_non_bool, isi_non_list, isi_non_tuple, isi_non_str, isi_non_dict, isi_non_lt, isi_bl_int, isi_bl_bool, isi_bl_list, isi_bl_tuple, isi_bl_str, isi_bl_dict, isi_bl_lt, isi_int_int, isi_int_bool, isi_int_list, isi_int_tuple, isi_int_str, isi_int_dict, isi_int_lt, isi_str_int, isi_str_bool, isi_str_list, isi_str_tuple, isi_str_str, isi_str_dict, isi_str_lt, isi_lst_int, isi_lst_bool, isi_lst_list, isi_lst_tuple, isi_lst_str, isi_lst_dict, isi_lst_lt, isi_tup_int, isi_tup_bool, isi_tup_list, isi_tup_tuple, isi_tup_str, isi_tup_dict, isi_tup_lt,  at0, at1, at2, at3, set0, set1, set2, setD_l, fillIO, putIO, ioN, permO, List.map_cons, List.map_nil, List.cons_append, List.nil_append, List.append_nil, List.replicate_succ, List.replicate_zero, Nat.reduceSub, Nat.reduceAdd, List.getElem?_cons_zero, List.getElem?_cons_succ, List.set_cons_zero, List.set_cons_succ, List.length_cons, List.length_nil, List.map_append])
      rw [show (i == i) = true by simp]
      exact ⟨by decide, q _⟩
    | str x =>
      (try simp only [RP_varm, RP_holem, RP_c, RP_1, RP_2, RP_f, RP_nil, RP_cons, RP_if, RP_and, RP_or, RP_not, RP_B, RP_qt, RP_perm, RP_pn, RP_ps, RP_sl, RP_call, RP_src, RP_r1, RP_r2, RP_en, RP_lc, RP_yes,  SP_nx, SP_seq, SP_drop, SP_ret, SP_set, SP_if, SP_sub, SP_app, SP_tgt, SP_par, SP_for, FP_fn, OP_some, OP_map, OP_add, OP_sub, OP_mul, OP_fdiv, OP_fmod, OP_pow, OP_neg, OP_lt, OP_le, OP_gt, OP_ge, OP_eqi, OP_nei, OP_bits, OP_int, OP_intb, OP_tup, OP_lst, OP_lenl, OP_lent, OP_lenf, OP_abs, OP_max2, OP_min2, OP_gcd, OP_ixl, OP_ixt, OP_ixf, OP_cat, OP_rep, OP_subb, OP_gN, BQ_b, BP_t, BP_f, BP_d, BP_n, BP_eq, ↓reduceIte, Option.map_some, is_non_np, is_non_ng, is_non_tp, is_non_tg, is_non_fp, is_non_fg, is_bl_np, is_bl_ng, is_bl_tp, is_bl_tg, is_bl_fp, is_bl_fg, is_int_np, is_int_ng, is_int_tp, is_int_tg, is_int_fp, is_int_fg, is_str_np, is_str_ng, is_str_tp, is_str_tg, is_str_fp, is_str_fg, is_lst_np, is_lst_ng, is_lst_tp, is_lst_tg, is_lst_fp, is_lst_fg, is_tup_np, is_tup_ng, is_tup_tp, is_tup_tg, is_tup_fp, is_tup_fg, isi_non_int, isi_non_bool, isi_non_list, isi_non_tuple, isi_non_str, isi_non_dict, isi_non_lt, isi_bl_int, isi_bl_bool, isi_bl_list, isi_bl_tuple, isi_bl_str, isi_bl_dict, isi_bl_lt, isi_int_int, isi_int_bool, isi_int_list, isi_int_tuple, isi_int_str, isi_int_dict, isi_int_lt, isi_str_int, isi_str_bool, isi_str_list, isi_str_tuple, isi_str_str, isi_str_dict, isi_str_lt, isi_lst_int, isi_lst_bool, isi_lst_list, isi_lst_tuple, isi_lst_str, isi_lst_dict, isi_lst_lt, isi_tup_int, isi_tup_bool, isi_tup_list, isi_tup_tuple, isi_tup_str, isi_tup_dict, isi_tup_lt,  at0, at1, at2, at3, set0, set1, set2, setD_l, fillIO, putIO, ioN, permO, List.map_cons, List.map_nil, List.cons_append, List.nil_append, List.append_nil, List.replicate_succ, List.replicate_zero, Nat.reduceSub, Nat.reduceAdd, List.getElem?_cons_zero, List.getElem?_cons_succ, List.set_cons_zero, List.set_cons_succ, List.length_cons, List.length_nil, List.map_append])
      obtain ⟨p, hp⟩ := h
      rw [show D.eq (.str x) (.str x) = some (.bl (PyData.eqv p p)) by unfold D.eq D.beq; rw [hp]; rfl]
      rw [OP_some, show PyData.eqv p p = true from ?_]
      · exact ⟨by decide, q _⟩
      · have e : p = .str x := by
          unfold D.shaped D.py at hp
          dsimp only at hp
          split at hp
          · exact (Option.some.inj hp).symm
          · cases hp
        subst e
        show (x == x) = true
        simp
    | lst l =>
      obtain ⟨h1, h2⟩ := h
      (try simp only [RP_varm, RP_holem, RP_c, RP_1, RP_2, RP_f, RP_nil, RP_cons, RP_if, RP_and, RP_or, RP_not, RP_B, RP_qt, RP_perm, RP_pn, RP_ps, RP_sl, RP_call, RP_src, RP_r1, RP_r2, RP_en, RP_lc, RP_yes,  SP_nx, SP_seq, SP_drop, SP_ret, SP_set, SP_if, SP_sub, SP_app, SP_tgt, SP_par, SP_for, FP_fn, OP_some, OP_map, OP_add, OP_sub, OP_mul, OP_fdiv, OP_fmod, OP_pow, OP_neg, OP_lt, OP_le, OP_gt, OP_ge, OP_eqi, OP_nei, OP_bits, OP_int, OP_intb, OP_tup, OP_lst, OP_lenl, OP_lent, OP_lenf, OP_abs, OP_max2, OP_min2, OP_gcd, OP_ixl, OP_ixt, OP_ixf, OP_cat, OP_rep, OP_subb, OP_gN, BQ_b, BP_t, BP_f, BP_d, BP_n, BP_eq, ↓reduceIte, Option.map_some, is_non_np, is_non_ng, is_non_tp, is_non_tg, is_non_fp, is_non_fg, is_bl_np, is_bl_ng, is_bl_tp, is_bl_tg, is_bl_fp, is_bl_fg, is_int_np, is_int_ng, is_int_tp, is_int_tg, is_int_fp, is_int_fg, is_str_np, is_str_ng, is_str_tp, is_str_tg, is_str_fp, is_str_fg, is_lst_np, is_lst_ng, is_lst_tp, is_lst_tg, is_lst_fp, is_lst_fg, is_tup_np, is_tup_ng, is_tup_tp, is_tup_tg, is_tup_fp, is_tup_fg, isi_non_int, isi_non_bool, isi_non_list, isi_non_tuple, isi_non_str, isi_non_dict, isi_non_lt, isi_bl_int, isi_bl_bool, isi_bl_list, isi_bl_tuple, isi_bl_str, isi_bl_dict, isi_bl_lt, isi_int_int, isi_int_bool, isi_int_list, isi_int_tuple, isi_int_str, isi_int_dict, isi_int_lt, isi_str_int, isi_str_bool, isi_str_list, isi_str_tuple, isi_str_str, isi_str_dict, isi_str_lt, isi_lst_int, isi_lst_bool, isi_lst_list, isi_lst_tuple, isi_lst_str, isi_lst_dict, isi_lst_lt, isi_tup_int, isi_tup_bool, isi_tup_list, isi_tup_tuple, isi_tup_str, isi_tup_dict, isi_tup_lt,  at0, at1, at2, at3, set0, set1, set2, setD_l, fillIO, putIO, ioN, permO, List.map_cons, List.map_nil, List.cons_append, List.nil_append, List.append_nil, List.replicate_succ, List.replicate_zero, Nat.reduceSub, Nat.reduceAdd, List.getElem?_cons_zero, List.getElem?_cons_succ, List.set_cons_zero, List.set_cons_succ, List.length_cons, List.length_nil, List.map_append])
      refine ⟨by decide, fun _ => ⟨lim_rok h1, ?_⟩, fun h => absurd trivial h⟩
      refine seq_same (b := .lst l) (fun i Q h => by rw [OP_ixl]; exact h) (fun d hd Q q => sp_same n d (h2 d hd) q) (fun e => ?_) l.length 0 _ (by omega)
      rw [show D.eq (.lst []) (.lst []) = some (.bl true) from rfl]
      (try simp only [RP_varm, RP_holem, RP_c, RP_1, RP_2, RP_f, RP_nil, RP_cons, RP_if, RP_and, RP_or, RP_not, RP_B, RP_qt, RP_perm, RP_pn, RP_ps, RP_sl, RP_call, RP_src, RP_r1, RP_r2, RP_en, RP_lc, RP_yes,  SP_nx, SP_seq, SP_drop, SP_ret, SP_set, SP_if, SP_sub, SP_app, SP_tgt, SP_par, SP_for, FP_fn, OP_some, OP_map, OP_add, OP_sub, OP_mul, OP_fdiv, OP_fmod, OP_pow, OP_neg, OP_lt, OP_le, OP_gt, OP_ge, OP_eqi, OP_nei, OP_bits, OP_int, OP_intb, OP_tup, OP_lst, OP_lenl, OP_lent, OP_lenf, OP_abs, OP_max2, OP_min2, OP_gcd, OP_ixl, OP_ixt, OP_ixf, OP_cat, OP_rep, OP_subb, OP_gN, BQ_b, BP_t, BP_f, BP_d, BP_n, BP_eq, ↓reduceIte, Option.map_some, is_non_np, is_non_ng, is_non_tp, is_non_tg, is_non_fp, is_non_fg, is_bl_np, is_bl_ng, is_bl_tp, is_bl_tg, is_bl_fp, is_bl_fg, is_int_np, is_int_ng, is_int_tp, is_int_tg, is_int_fp, is_int_fg, is_str_np, is_str_ng, is_str_tp, is_str_tg, is_str_fp, is_str_fg, is_lst_np, is_lst_ng, is_lst_tp, is_lst_tg, is_lst_fp, is_lst_fg, is_tup_np, is_tup_ng, is_tup_tp, is_tup_tg, is_tup_fp, is_tup_fg, isi_non_int, isi_non_bool, isi_non_list, isi_non_tuple, isi_non_str, isi_non_dict, isi_non_lt, isi_bl_int, isi_bl_bool, isi_bl_list, isi_bl_tuple, isi_bl_str, isi_bl_dict, isi_bl_lt, isi_int_int, isi_int_bool, isi_int_list, isi_int_tuple, isi_int_str, isi_int_dict, isi_int_lt, isi_str_int, isi_str_bool, isi_str_list, isi_str_tuple, isi_str_str, isi_str_dict, isi_str_lt, isi_lst_int, isi_lst_bool, isi_lst_list, isi_lst_tuple, isi_lst_str, isi_lst_dict, isi_lst_lt, isi_tup_int, isi_tup_bool, isi_tup_list, isi_tup_tuple, isi_tup_str, isi_tup_dict, isi_tup_lt,  at0, at1, at2, at3, set0, set1, set2, setD_l, fillIO, putIO, ioN, permO, List.map_cons, List.map_nil, List.cons_append, List.nil_append, List.append_nil, List.replicate_succ, List.replicate_zero, Nat.reduceSub, Nat.reduceAdd, List.getElem?_cons_zero, List.getElem?_cons_succ, List.set_cons_zero, List.set_cons_succ, List.length_cons, List.length_nil, List.map_append])
      exact ⟨by decide, by decide, q _⟩
    | tup l =>
      obtain ⟨h1, h2⟩ := h
      (try simp only [RP_varm, RP_holem, RP_c, RP_1, RP_2, RP_f, RP_nil, RP_cons, RP_if, RP_and, RP_or, RP_not, RP_B, RP_qt, RP_perm, RP_pn, RP_ps, RP_sl, RP_call, RP_src, RP_r1, RP_r2, RP_en, RP_lc, RP_yes,  SP_nx, SP_seq, SP_drop, SP_ret, SP_set, SP_if, SP_sub, SP_app, SP_tgt, SP_par, SP_for, FP_fn, OP_some, OP_map, OP_add, OP_sub, OP_mul, OP_fdiv, OP_fmod, OP_pow, OP_neg, OP_lt, OP_le, OP_gt, OP_ge, OP_eqi, OP_nei, OP_bits, OP_int, OP_intb, OP_tup, OP_lst, OP_lenl, OP_lent, OP_lenf, OP_abs, OP_max2, OP_min2, OP_gcd, OP_ixl, OP_ixt, OP_ixf, OP_cat, OP_rep, OP_subb, OP_gN, BQ_b, BP_t, BP_f, BP_d, BP_n, BP_eq, ↓reduceIte, Option.map_some, is_non_np, is_non_ng, is_non_tp, is_non_tg, is_non_fp, is_non_fg, is_bl_np, is_bl_ng, is_bl_tp, is_bl_tg, is_bl_fp, is_bl_fg, is_int_np, is_int_ng, is_int_tp, is_int_tg, is_int_fp, is_int_fg, is_str_np, is_str_ng, is_str_tp, is_str_tg, is_str_fp, is_str_fg, is_lst_np, is_lst_ng, is_lst_tp, is_lst_tg, is_lst_fp, is_lst_fg, is_tup_np, is_tup_ng, is_tup_tp, is_tup_tg, is_tup_fp, is_tup_fg, isi_non_int, isi_non_bool, isi_non_list, isi_non_tuple, isi_non_str, isi_non_dict, isi_non_lt, isi_bl_int, isi_bl_bool, isi_bl_list, isi_bl_tuple, isi_bl_str, isi_bl_dict, isi_bl_lt, isi_int_int, isi_int_bool, isi_int_list, isi_int_tuple, isi_int_str, isi_int_dict, isi_int_lt, isi_str_int, isi_str_bool, isi_str_list, isi_str_tuple, isi_str_str, isi_str_dict, isi_str_lt, isi_lst_int, isi_lst_bool, isi_lst_list, isi_lst_tuple, isi_lst_str, isi_lst_dict, isi_lst_lt, isi_tup_int, isi_tup_bool, isi_tup_list, isi_tup_tuple, isi_tup_str, isi_tup_dict, isi_tup_lt,  at0, at1, at2, at3, set0, set1, set2, setD_l, fillIO, putIO, ioN, permO, List.map_cons, List.map_nil, List.cons_append, List.nil_append, List.append_nil, List.replicate_succ, List.replicate_zero, Nat.reduceSub, Nat.reduceAdd, List.getElem?_cons_zero, List.getElem?_cons_succ, List.set_cons_zero, List.set_cons_succ, List.length_cons, List.length_nil, List.map_append])
      refine ⟨by decide, fun _ => ⟨lim_rok h1, ?_⟩, fun h => absurd trivial h⟩
      refine seq_same (b := .tup l) (fun i Q h => by rw [OP_ixt]; exact h) (fun d hd Q q => sp_same n d (h2 d hd) q) (fun e => ?_) l.length 0 _ (by omega)
      rw [show D.eq (.lst []) (.lst []) = some (.bl true) from rfl]
      (try simp only [RP_varm, RP_holem, RP_c, RP_1, RP_2, RP_f, RP_nil, RP_cons, RP_if, RP_and, RP_or, RP_not, RP_B, RP_qt, RP_perm, RP_pn, RP_ps, RP_sl, RP_call, RP_src, RP_r1, RP_r2, RP_en, RP_lc, RP_yes,  SP_nx, SP_seq, SP_drop, SP_ret, SP_set, SP_if, SP_sub, SP_app, SP_tgt, SP_par, SP_for, FP_fn, OP_some, OP_map, OP_add, OP_sub, OP_mul, OP_fdiv, OP_fmod, OP_pow, OP_neg, OP_lt, OP_le, OP_gt, OP_ge, OP_eqi, OP_nei, OP_bits, OP_int, OP_intb, OP_tup, OP_lst, OP_lenl, OP_lent, OP_lenf, OP_abs, OP_max2, OP_min2, OP_gcd, OP_ixl, OP_ixt, OP_ixf, OP_cat, OP_rep, OP_subb, OP_gN, BQ_b, BP_t, BP_f, BP_d, BP_n, BP_eq, ↓reduceIte, Option.map_some, is_non_np, is_non_ng, is_non_tp, is_non_tg, is_non_fp, is_non_fg, is_bl_np, is_bl_ng, is_bl_tp, is_bl_tg, is_bl_fp, is_bl_fg, is_int_np, is_int_ng, is_int_tp, is_int_tg, is_int_fp, is_int_fg, is_str_np, is_str_ng, is_str_tp, is_str_tg, is_str_fp, is_str_fg, is_lst_np, is_lst_ng, is_lst_tp, is_lst_tg, is_lst_fp, is_lst_fg, is_tup_np, is_tup_ng, is_tup_tp, is_tup_tg, is_tup_fp, is_tup_fg, isi_non_int, isi_non_bool, isi_non_list, isi_non_tuple, isi_non_str, isi_non_dict, isi_non_lt, isi_bl_int, isi_bl_bool, isi_bl_list, isi_bl_tuple, isi_bl_str, isi_bl_dict, isi_bl_lt, isi_int_int, isi_int_bool, isi_int_list, isi_int_tuple, isi_int_str, isi_int_dict, isi_int_lt, isi_str_int, isi_str_bool, isi_str_list, isi_str_tuple, isi_str_str, isi_str_dict, isi_str_lt, isi_lst_int, isi_lst_bool, isi_lst_list, isi_lst_tuple, isi_lst_str, isi_lst_dict, isi_lst_lt, isi_tup_int, isi_tup_bool, isi_tup_list, isi_tup_tuple, isi_tup_str, isi_tup_dict, isi_tup_lt,  at0, at1, at2, at3, set0, set1, set2, setD_l, fillIO, putIO, ioN, permO, List.map_cons, List.map_nil, List.cons_append, List.nil_append, List.append_nil, List.replicate_succ, List.replicate_zero, Nat.reduceSub, Nat.reduceAdd, List.getElem?_cons_zero, List.getElem?_cons_succ, List.set_cons_zero, List.set_cons_succ, List.length_cons, List.length_nil, List.map_append])
      exact ⟨by decide, by decide, q _⟩
    | _ => exact h.elim
theorem FP_same {n : Nat} {d e : D} {Q : D → Sl → Prop} (h : okSame n d) (he : d = e) (q : ∀ e, Q (.bl true) e) : FP (m_law_same n [d, e]) Q := he ▸ sp_same n d h q
end M3

/-! PD -/
set_option Elab.async false
set_option linter.all false
set_option maxRecDepth 100000
set_option maxHeartbeats 400000
namespace M3
open PySem PySem.Spec PyProof.Rows L2





theorem SP_seqI {s1 s2 : MSt} {e : Sl} {k : KS} (h : ∀ N : Sl → Prop, (∀ e1, SP (s2 e1) k → N e1) → SP (s1 e) ⟨N, k.rt, k.bk, k.ct⟩) : SP (sSeq s1 s2 e) k := by
  rw [SP_seq]
  exact h _ fun _ h => h
/-! ### the cases -/
section
variable {a b c d : Int} {Q : D → Sl → Prop}
theorem sp_plus (ha : Bd 600 a) (hb : Bd 600 b) (hc : Bd 600 c) (hd : Bd 600 d) (h0 : b ≠ 0) (h1 : d ≠ 0) (q : ∀ e, Q (lowD (a * d + c * b) (b * d)) e) : FP (m_plus [.tup [.int a, .int b], .tup [.int c, .int d]]) Q := by
  unfold m_plus b_plus
  (try simp only [RP_varm, RP_holem, RP_c, RP_1, RP_2, RP_f, RP_nil, RP_cons, RP_if, RP_and, RP_or, RP_not, RP_B, RP_qt, RP_perm, RP_pn, RP_ps, RP_sl, RP_call, RP_src, RP_r1, RP_r2, RP_en, RP_lc, RP_yes,  SP_nx, SP_seq, SP_drop, SP_ret, SP_set, SP_if, SP_sub, SP_app, SP_tgt, SP_par, SP_for, FP_fn, OP_some, OP_map, OP_add, OP_sub, OP_mul, OP_fdiv, OP_fmod, OP_pow, OP_neg, OP_lt, OP_le, OP_gt, OP_ge, OP_eqi, OP_nei, OP_bits, OP_int, OP_intb, OP_tup, OP_lst, OP_lenl, OP_lent, OP_lenf, OP_abs, OP_max2, OP_min2, OP_gcd, OP_ixl, OP_ixt, OP_ixf, OP_cat, OP_rep, OP_subb, OP_gN, BQ_b, BP_t, BP_f, BP_d, BP_n, BP_eq, ↓reduceIte, Option.map_some, is_non_np, is_non_ng, is_non_tp, is_non_tg, is_non_fp, is_non_fg, is_bl_np, is_bl_ng, is_bl_tp, is_bl_tg, is_bl_fp, is_bl_fg, is_int_np, is_int_ng, is_int_tp, is_int_tg, is_int_fp, is_int_fg, is_str_np, is_str_ng, is_str_tp, is_str_tg, is_str_fp, is_str_fg, is_lst_np, is_lst_ng, is_lst_tp, is_lst_tg, is_lst_fp, is_lst_fg, is_tup_np, is_tup_ng, is_tup_tp, is_tup_tg, is_tup_fp, is_tup_fg, isi_non_int, isi_non_bool, isi_non_list, isi_non_tuple, isi_non_str, isi_non_dict, isi_non_lt, isi_bl_int, isi_bl_bool, isi_bl_list, isi_bl_tuple, isi_bl_str, isi_bl_dict, isi_bl_lt, isi_int_int, isi_int_bool, isi_int_list, isi_int_tuple, isi_int_str, isi_int_dict, isi_int_lt, isi_str_int, isi_str_bool, isi_str_list, isi_str_tuple, isi_str_str, isi_str_dict, isi_str_lt, isi_lst_int, isi_lst_bool, isi_lst_list, isi_lst_tuple, isi_lst_str, isi_lst_dict, isi_lst_lt, isi_tup_int, isi_tup_bool, isi_tup_list, isi_tup_tuple, isi_tup_str, isi_tup_dict, isi_tup_lt,  at0, at1, at2, at3, set0, set1, set2, setD_l, fillIO, putIO, ioN, permO, List.map_cons, List.map_nil, List.cons_append, List.nil_append, List.append_nil, List.replicate_succ, List.replicate_zero, Nat.reduceSub, Nat.reduceAdd, List.getElem?_cons_zero, List.getElem?_cons_succ, List.set_cons_zero, List.set_cons_succ, List.length_cons, List.length_nil, List.map_append])
  refine ⟨by ((refine And.intro ?_ ?_ <;> ((apply Bd.big; (case h => repeat' (with_reducible first | assumption | (apply Bd.add) | (apply Bd.sub) | (apply Bd.mul) | (apply Bd.neg) | (apply Bd.abs) | (apply Bd.fdiv) | exact Bd.self _)); all_goals decide +kernel)))), by ((refine And.intro ?_ ?_ <;> ((apply Bd.big; (case h => repeat' (with_reducible first | assumption | (apply Bd.add) | (apply Bd.sub) | (apply Bd.mul) | (apply Bd.neg) | (apply Bd.abs) | (apply Bd.fdiv) | exact Bd.self _)); all_goals decide +kernel)))), by ((refine And.intro ?_ ?_ <;> ((apply Bd.big; (case h => repeat' (with_reducible first | assumption | (apply Bd.add) | (apply Bd.sub) | (apply Bd.mul) | (apply Bd.neg) | (apply Bd.abs) | (apply Bd.fdiv) | exact Bd.self _)); all_goals decide +kernel)))), sp_lowest (Int.mul_ne_zero h0 h1) ((hb.mul hd).up (by decide)) fun e => ?_⟩
  exact q _
theorem sp_minus (ha : Bd 600 a) (hb : Bd 600 b) (hc : Bd 600 c) (hd : Bd 600 d) (h0 : b ≠ 0) (h1 : d ≠ 0) (q : ∀ e, Q (lowD (a * d - c * b) (b * d)) e) : FP (m_minus [.tup [.int a, .int b], .tup [.int c, .int d]]) Q := by
  unfold m_minus b_minus
  (try simp only [RP_varm, RP_holem, RP_c, RP_1, RP_2, RP_f, RP_nil, RP_cons, RP_if, RP_and, RP_or, RP_not, RP_B, RP_qt, RP_perm, RP_pn, RP_ps, RP_sl, RP_call, RP_src, RP_r1, RP_r2, RP_en, RP_lc, RP_yes,  SP_nx, SP_seq, SP_drop, SP_ret, SP_set, SP_if, SP_sub, SP_app, SP_tgt, SP_par, SP_for, FP_fn, OP_some, OP_map, OP_add, OP_sub, OP_mul, OP_fdiv, OP_fmod, OP_pow, OP_neg, OP_lt, OP_le, OP_gt, OP_ge, OP_eqi, OP_nei, OP_bits, OP_int, OP_intb, OP_tup, OP_lst, OP_lenl, OP_lent, OP_lenf, OP_abs, OP_max2, OP_min2, OP_gcd, OP_ixl, OP_ixt, OP_ixf, OP_cat, OP_rep, OP_subb, OP_gN, BQ_b, BP_t, BP_f, BP_d, BP_n, BP_eq, ↓reduceIte, Option.map_some, is_non_np, is_non_ng, is_non_tp, is_non_tg, is_non_fp, is_non_fg, is_bl_np, is_bl_ng, is_bl_tp, is_bl_tg, is_bl_fp, is_bl_fg, is_int_np, is_int_ng, is_int_tp, is_int_tg, is_int_fp, is_int_fg, is_str_np, is_str_ng, is_str_tp, is_str_tg, is_str_fp, is_str_fg, is_lst_np, is_lst_ng, is_lst_tp, is_lst_tg, is_lst_fp, is_lst_fg, is_tup_np, is_tup_ng, is_tup_tp, is_tup_tg, is_tup_fp, is_tup_fg, isi_non_int, isi_non_bool, isi_non_list, isi_non_tuple, isi_non_str, isi_non_dict, isi_non_lt, isi_bl_int, isi_bl_bool, isi_bl_list, isi_bl_tuple, isi_bl_str, isi_bl_dict, isi_bl_lt, isi_int_int, isi_int_bool, isi_int_list, isi_int_tuple, isi_int_str, isi_int_dict, isi_int_lt, isi_str_int, isi_str_bool, isi_str_list, isi_str_tuple, isi_str_str, isi_str_dict, isi_str_lt, isi_lst_int, isi_lst_bool, isi_lst_list, isi_lst_tuple, isi_lst_str, isi_lst_dict, isi_lst_lt, isi_tup_int, isi_tup_bool, isi_tup_list, isi_tup_tuple, isi_tup_str, isi_tup_dict, isi_tup_lt,  at0, at1, at2, at3, set0, set1, set2, setD_l, fillIO, putIO, ioN, permO, List.map_cons, List.map_nil, List.cons_append, List.nil_append, List.append_nil, List.replicate_succ, List.replicate_zero, Nat.reduceSub, Nat.reduceAdd, List.getElem?_cons_zero, List.getElem?_cons_succ, List.set_cons_zero, List.set_cons_succ, List.length_cons, List.length_nil, List.map_append])
  refine ⟨by ((refine And.intro ?_ ?_ <;> ((apply Bd.big; (case h => repeat' (with_reducible first | assumption | (apply Bd.add) | (apply Bd.sub) | (apply Bd.mul) | (apply Bd.neg) | (apply Bd.abs) | (apply Bd.fdiv) | exact Bd.self _)); all_goals decide +kernel)))), by ((refine And.intro ?_ ?_ <;> ((apply Bd.big; (case h => repeat' (with_reducible first | assumption | (apply Bd.add) | (apply Bd.sub) | (apply Bd.mul) | (apply Bd.neg) | (apply Bd.abs) | (apply Bd.fdiv) | exact Bd.self _)); all_goals decide +kernel)))), by ((refine And.intro ?_ ?_ <;> ((apply Bd.big; (case h => repeat' (with_reducible first | assumption | (apply Bd.add) | (apply Bd.sub) | (apply Bd.mul) | (apply Bd.neg) | (apply Bd.abs) | (apply Bd.fdiv) | exact Bd.self _)); all_goals decide +kernel)))), sp_lowest (Int.mul_ne_zero h0 h1) ((hb.mul hd).up (by decide)) fun e => ?_⟩
  exact q _
theorem sp_times (ha : Bd 600 a) (hb : Bd 600 b) (hc : Bd 600 c) (hd : Bd 600 d) (h0 : b ≠ 0) (h1 : d ≠ 0) (q : ∀ e, Q (lowD (a * c) (b * d)) e) : FP (m_times [.tup [.int a, .int b], .tup [.int c, .int d]]) Q := by
  unfold m_times b_times
  (try simp only [RP_varm, RP_holem, RP_c, RP_1, RP_2, RP_f, RP_nil, RP_cons, RP_if, RP_and, RP_or, RP_not, RP_B, RP_qt, RP_perm, RP_pn, RP_ps, RP_sl, RP_call, RP_src, RP_r1, RP_r2, RP_en, RP_lc, RP_yes,  SP_nx, SP_seq, SP_drop, SP_ret, SP_set, SP_if, SP_sub, SP_app, SP_tgt, SP_par, SP_for, FP_fn, OP_some, OP_map, OP_add, OP_sub, OP_mul, OP_fdiv, OP_fmod, OP_pow, OP_neg, OP_lt, OP_le, OP_gt, OP_ge, OP_eqi, OP_nei, OP_bits, OP_int, OP_intb, OP_tup, OP_lst, OP_lenl, OP_lent, OP_lenf, OP_abs, OP_max2, OP_min2, OP_gcd, OP_ixl, OP_ixt, OP_ixf, OP_cat, OP_rep, OP_subb, OP_gN, BQ_b, BP_t, BP_f, BP_d, BP_n, BP_eq, ↓reduceIte, Option.map_some, is_non_np, is_non_ng, is_non_tp, is_non_tg, is_non_fp, is_non_fg, is_bl_np, is_bl_ng, is_bl_tp, is_bl_tg, is_bl_fp, is_bl_fg, is_int_np, is_int_ng, is_int_tp, is_int_tg, is_int_fp, is_int_fg, is_str_np, is_str_ng, is_str_tp, is_str_tg, is_str_fp, is_str_fg, is_lst_np, is_lst_ng, is_lst_tp, is_lst_tg, is_lst_fp, is_lst_fg, is_tup_np, is_tup_ng, is_tup_tp, is_tup_tg, is_tup_fp, is_tup_fg, isi_non_int, isi_non_bool, isi_non_list, isi_non_tuple, isi_non_str, isi_non_dict, isi_non_lt, isi_bl_int, isi_bl_bool, isi_bl_list, isi_bl_tuple, isi_bl_str, isi_bl_dict, isi_bl_lt, isi_int_int, isi_int_bool, isi_int_list, isi_int_tuple, isi_int_str, isi_int_dict, isi_int_lt, isi_str_int, isi_str_bool, isi_str_list, isi_str_tuple, isi_str_str, isi_str_dict, isi_str_lt, isi_lst_int, isi_lst_bool, isi_lst_list, isi_lst_tuple, isi_lst_str, isi_lst_dict, isi_lst_lt, isi_tup_int, isi_tup_bool, isi_tup_list, isi_tup_tuple, isi_tup_str, isi_tup_dict, isi_tup_lt,  at0, at1, at2, at3, set0, set1, set2, setD_l, fillIO, putIO, ioN, permO, List.map_cons, List.map_nil, List.cons_append, List.nil_append, List.append_nil, List.replicate_succ, List.replicate_zero, Nat.reduceSub, Nat.reduceAdd, List.getElem?_cons_zero, List.getElem?_cons_succ, List.set_cons_zero, List.set_cons_succ, List.length_cons, List.length_nil, List.map_append])
  refine ⟨by ((refine And.intro ?_ ?_ <;> ((apply Bd.big; (case h => repeat' (with_reducible first | assumption | (apply Bd.add) | (apply Bd.sub) | (apply Bd.mul) | (apply Bd.neg) | (apply Bd.abs) | (apply Bd.fdiv) | exact Bd.self _)); all_goals decide +kernel)))), by ((refine And.intro ?_ ?_ <;> ((apply Bd.big; (case h => repeat' (with_reducible first | assumption | (apply Bd.add) | (apply Bd.sub) | (apply Bd.mul) | (apply Bd.neg) | (apply Bd.abs) | (apply Bd.fdiv) | exact Bd.self _)); all_goals decide +kernel)))), sp_lowest (Int.mul_ne_zero h0 h1) ((hb.mul hd).up (by decide)) fun e => ?_⟩
  exact q _
theorem sp_over (ha : Bd 600 a) (hb : Bd 600 b) (hc : Bd 600 c) (hd : Bd 600 d) (h0 : b ≠ 0) (h1 : c ≠ 0) (q : ∀ e, Q (lowD (a * d) (b * c)) e) : FP (m_over [.tup [.int a, .int b], .tup [.int c, .int d]]) Q := by
  unfold m_over b_over
  (try simp only [RP_varm, RP_holem, RP_c, RP_1, RP_2, RP_f, RP_nil, RP_cons, RP_if, RP_and, RP_or, RP_not, RP_B, RP_qt, RP_perm, RP_pn, RP_ps, RP_sl, RP_call, RP_src, RP_r1, RP_r2, RP_en, RP_lc, RP_yes,  SP_nx, SP_seq, SP_drop, SP_ret, SP_set, SP_if, SP_sub, SP_app, SP_tgt, SP_par, SP_for, FP_fn, OP_some, OP_map, OP_add, OP_sub, OP_mul, OP_fdiv, OP_fmod, OP_pow, OP_neg, OP_lt, OP_le, OP_gt, OP_ge, OP_eqi, OP_nei, OP_bits, OP_int, OP_intb, OP_tup, OP_lst, OP_lenl, OP_lent, OP_lenf, OP_abs, OP_max2, OP_min2, OP_gcd, OP_ixl, OP_ixt, OP_ixf, OP_cat, OP_rep, OP_subb, OP_gN, BQ_b, BP_t, BP_f, BP_d, BP_n, BP_eq, ↓reduceIte, Option.map_some, is_non_np, is_non_ng, is_non_tp, is_non_tg, is_non_fp, is_non_fg, is_bl_np, is_bl_ng, is_bl_tp, is_bl_tg, is_bl_fp, is_bl_fg, is_int_np, is_int_ng, is_int_tp, is_int_tg, is_int_fp, is_int_fg, is_str_np, is_str_ng, is_str_tp, is_str_tg, is_str_fp, is_str_fg, is_lst_np, is_lst_ng, is_lst_tp, is_lst_tg, is_lst_fp, is_lst_fg, is_tup_np, is_tup_ng, is_tup_tp, is_tup_tg, is_tup_fp, is_tup_fg, isi_non_int, isi_non_bool, isi_non_list, isi_non_tuple, isi_non_str, isi_non_dict, isi_non_lt, isi_bl_int, isi_bl_bool, isi_bl_list, isi_bl_tuple, isi_bl_str, isi_bl_dict, isi_bl_lt, isi_int_int, isi_int_bool, isi_int_list, isi_int_tuple, isi_int_str, isi_int_dict, isi_int_lt, isi_str_int, isi_str_bool, isi_str_list, isi_str_tuple, isi_str_str, isi_str_dict, isi_str_lt, isi_lst_int, isi_lst_bool, isi_lst_list, isi_lst_tuple, isi_lst_str, isi_lst_dict, isi_lst_lt, isi_tup_int, isi_tup_bool, isi_tup_list, isi_tup_tuple, isi_tup_str, isi_tup_dict, isi_tup_lt,  at0, at1, at2, at3, set0, set1, set2, setD_l, fillIO, putIO, ioN, permO, List.map_cons, List.map_nil, List.cons_append, List.nil_append, List.append_nil, List.replicate_succ, List.replicate_zero, Nat.reduceSub, Nat.reduceAdd, List.getElem?_cons_zero, List.getElem?_cons_succ, List.set_cons_zero, List.set_cons_succ, List.length_cons, List.length_nil, List.map_append])
  refine ⟨by ((refine And.intro ?_ ?_ <;> ((apply Bd.big; (case h => repeat' (with_reducible first | assumption | (apply Bd.add) | (apply Bd.sub) | (apply Bd.mul) | (apply Bd.neg) | (apply Bd.abs) | (apply Bd.fdiv) | exact Bd.self _)); all_goals decide +kernel)))), by ((refine And.intro ?_ ?_ <;> ((apply Bd.big; (case h => repeat' (with_reducible first | assumption | (apply Bd.add) | (apply Bd.sub) | (apply Bd.mul) | (apply Bd.neg) | (apply Bd.abs) | (apply Bd.fdiv) | exact Bd.self _)); all_goals decide +kernel)))), sp_lowest (Int.mul_ne_zero h0 h1) ((hb.mul hc).up (by decide)) fun e => ?_⟩
  exact q _
def sgn (x : Int) : Int := b2i (decide (0 < x)) - b2i (decide (x < 0))
theorem sp_compared (ha : Bd 600 a) (hb : Bd 600 b) (hc : Bd 600 c) (hd : Bd 600 d) (q : ∀ e, Q (.int (sgn (a * d - c * b))) e) : FP (m_compared [.tup [.int a, .int b], .tup [.int c, .int d]]) Q := by
  unfold m_compared b_compared
  (try simp only [RP_varm, RP_holem, RP_c, RP_1, RP_2, RP_f, RP_nil, RP_cons, RP_if, RP_and, RP_or, RP_not, RP_B, RP_qt, RP_perm, RP_pn, RP_ps, RP_sl, RP_call, RP_src, RP_r1, RP_r2, RP_en, RP_lc, RP_yes,  SP_nx, SP_seq, SP_drop, SP_ret, SP_set, SP_if, SP_sub, SP_app, SP_tgt, SP_par, SP_for, FP_fn, OP_some, OP_map, OP_add, OP_sub, OP_mul, OP_fdiv, OP_fmod, OP_pow, OP_neg, OP_lt, OP_le, OP_gt, OP_ge, OP_eqi, OP_nei, OP_bits, OP_int, OP_intb, OP_tup, OP_lst, OP_lenl, OP_lent, OP_lenf, OP_abs, OP_max2, OP_min2, OP_gcd, OP_ixl, OP_ixt, OP_ixf, OP_cat, OP_rep, OP_subb, OP_gN, BQ_b, BP_t, BP_f, BP_d, BP_n, BP_eq, ↓reduceIte, Option.map_some, is_non_np, is_non_ng, is_non_tp, is_non_tg, is_non_fp, is_non_fg, is_bl_np, is_bl_ng, is_bl_tp, is_bl_tg, is_bl_fp, is_bl_fg, is_int_np, is_int_ng, is_int_tp, is_int_tg, is_int_fp, is_int_fg, is_str_np, is_str_ng, is_str_tp, is_str_tg, is_str_fp, is_str_fg, is_lst_np, is_lst_ng, is_lst_tp, is_lst_tg, is_lst_fp, is_lst_fg, is_tup_np, is_tup_ng, is_tup_tp, is_tup_tg, is_tup_fp, is_tup_fg, isi_non_int, isi_non_bool, isi_non_list, isi_non_tuple, isi_non_str, isi_non_dict, isi_non_lt, isi_bl_int, isi_bl_bool, isi_bl_list, isi_bl_tuple, isi_bl_str, isi_bl_dict, isi_bl_lt, isi_int_int, isi_int_bool, isi_int_list, isi_int_tuple, isi_int_str, isi_int_dict, isi_int_lt, isi_str_int, isi_str_bool, isi_str_list, isi_str_tuple, isi_str_str, isi_str_dict, isi_str_lt, isi_lst_int, isi_lst_bool, isi_lst_list, isi_lst_tuple, isi_lst_str, isi_lst_dict, isi_lst_lt, isi_tup_int, isi_tup_bool, isi_tup_list, isi_tup_tuple, isi_tup_str, isi_tup_dict, isi_tup_lt,  at0, at1, at2, at3, set0, set1, set2, setD_l, fillIO, putIO, ioN, permO, List.map_cons, List.map_nil, List.cons_append, List.nil_append, List.append_nil, List.replicate_succ, List.replicate_zero, Nat.reduceSub, Nat.reduceAdd, List.getElem?_cons_zero, List.getElem?_cons_succ, List.set_cons_zero, List.set_cons_succ, List.length_cons, List.length_nil, List.map_append])
  exact ⟨by ((refine And.intro ?_ ?_ <;> ((apply Bd.big; (case h => repeat' (with_reducible first | assumption | (apply Bd.add) | (apply Bd.sub) | (apply Bd.mul) | (apply Bd.neg) | (apply Bd.abs) | (apply Bd.fdiv) | exact Bd.self _)); all_goals decide +kernel)))), by ((refine And.intro ?_ ?_ <;> ((apply Bd.big; (case h => repeat' (with_reducible first | assumption | (apply Bd.add) | (apply Bd.sub) | (apply Bd.mul) | (apply Bd.neg) | (apply Bd.abs) | (apply Bd.fdiv) | exact Bd.self _)); all_goals decide +kernel)))), q _⟩
end
/-- a fraction in lowest terms -/
def Rat1 (x : D) : Prop := ∃ a b : Int, x = .tup [.int a, .int b] ∧ Bd 600 a ∧ Bd 600 b ∧ 0 < b
theorem low_rat {a b : Int} (h1 : Bd 599 a) (h2 : Bd 599 b) (h : 0 < b) : Rat1 (lowD a b) := by
  have g0 := gcI_pos (a := a) (b := b) (by omega)
  refine ⟨_, _, rfl, h1.fdiv, h2.fdiv, ?_⟩
  rw [show lowI a b = gcI a b by unfold lowI; rw [if_neg (by omega)]]
  rw [Int.fdiv_eq_ediv_of_nonneg _ (by omega)]
  have h3 : gcI a b ≤ b := by
    have := gcI_le (a := a) (b := b) (by omega)
    omega
  have := Int.le_ediv_of_mul_le (a := 1) (b := b) g0 (by omega)
  omega
theorem low_ok {a b : Int} {n : Nat} : okSame (n + 2) (lowD a b) := ⟨(by decide : 2 ≤ lim), fun d h => by
  simp only [List.mem_cons, List.not_mem_nil, or_false] at h
  rcases h with h | h <;> subst h <;> exact trivial⟩
theorem rat_ok {n : Nat} {x : D} (h : Rat1 x) : okSame (n + 2) x := by
  obtain ⟨a, b, rfl, _⟩ := h
  exact ⟨(by decide : 2 ≤ lim), fun d h => by
    simp only [List.mem_cons, List.not_mem_nil, or_false] at h
    rcases h with h | h <;> subst h <;> exact trivial⟩
theorem sp_case {ns : List Int} {k : Nat} {Q : D → Sl → Prop} (hk : k ≤ 1) (q : ∀ e, Q (.bl true) e) : FP (m_law_case_right [.fro (ns.map .int), .int k]) Q := by
  unfold m_law_case_right b_law_case_right
  rw [FP_fn]
  simp only [List.map_cons, List.map_nil, List.cons_append, List.nil_append, List.append_nil, Nat.reduceSub, List.replicate_succ, List.replicate_zero]
  -- generator
  refine SP_seqI fun N hN => ?_
  (try simp only [RP_varm, RP_holem, RP_c, RP_1, RP_2, RP_f, RP_nil, RP_cons, RP_if, RP_and, RP_or, RP_not, RP_B, RP_qt, RP_perm, RP_pn, RP_ps, RP_sl, RP_call, RP_src, RP_r1, RP_r2, RP_en, RP_lc, RP_yes,  SP_nx, SP_seq, SP_drop, SP_ret, SP_set, SP_if, SP_sub, SP_app, SP_tgt, SP_par, SP_for, FP_fn, OP_some, OP_map, OP_add, OP_sub, OP_mul, OP_fdiv, OP_fmod, OP_pow, OP_neg, OP_lt, OP_le, OP_gt, OP_ge, OP_eqi, OP_nei, OP_bits, OP_int, OP_intb, OP_tup, OP_lst, OP_lenl, OP_lent, OP_lenf, OP_abs, OP_max2, OP_min2, OP_gcd, OP_ixl, OP_ixt, OP_ixf, OP_cat, OP_rep, OP_subb, OP_gN, BQ_b, BP_t, BP_f, BP_d, BP_n, BP_eq, ↓reduceIte, Option.map_some, is_non_np, is_non_ng, is_non_tp, is_non_tg, is_non_fp, is_non_fg, is_bl_np, is_bl_ng, is_bl_tp, is_bl_tg, is_bl_fp, is_bl_fg, is_int_np, is_int_ng, is_int_tp, is_int_tg, is_int_fp, is_int_fg, is_str_np, is_str_ng, is_str_tp, is_str_tg, is_str_fp, is_str_fg, is_lst_np, is_lst_ng, is_lst_tp, is_lst_tg, is_lst_fp, is_lst_fg, is_tup_np, is_tup_ng, is_tup_tp, is_tup_tg, is_tup_fp, is_tup_fg, isi_non_int, isi_non_bool, isi_non_list, isi_non_tuple, isi_non_str, isi_non_dict, isi_non_lt, isi_bl_int, isi_bl_bool, isi_bl_list, isi_bl_tuple, isi_bl_str, isi_bl_dict, isi_bl_lt, isi_int_int, isi_int_bool, isi_int_list, isi_int_tuple, isi_int_str, isi_int_dict, isi_int_lt, isi_str_int, isi_str_bool, isi_str_list, isi_str_tuple, isi_str_str, isi_str_dict, isi_str_lt, isi_lst_int, isi_lst_bool, isi_lst_list, isi_lst_tuple, isi_lst_str, isi_lst_dict, isi_lst_lt, isi_tup_int, isi_tup_bool, isi_tup_list, isi_tup_tuple, isi_tup_str, isi_tup_dict, isi_tup_lt,  at0, at1, at2, at3, set0, set1, set2, setD_l, fillIO, putIO, ioN, permO, List.map_cons, List.map_nil, List.cons_append, List.nil_append, List.append_nil, List.replicate_succ, List.replicate_zero, Nat.reduceSub, Nat.reduceAdd, List.getElem?_cons_zero, List.getElem?_cons_succ, List.set_cons_zero, List.set_cons_succ, List.length_cons, List.length_nil, List.map_append])
  refine sp_generator (by omega) fun g e hg => ?_
  (try simp only [RP_varm, RP_holem, RP_c, RP_1, RP_2, RP_f, RP_nil, RP_cons, RP_if, RP_and, RP_or, RP_not, RP_B, RP_qt, RP_perm, RP_pn, RP_ps, RP_sl, RP_call, RP_src, RP_r1, RP_r2, RP_en, RP_lc, RP_yes,  SP_nx, SP_seq, SP_drop, SP_ret, SP_set, SP_if, SP_sub, SP_app, SP_tgt, SP_par, SP_for, FP_fn, OP_some, OP_map, OP_add, OP_sub, OP_mul, OP_fdiv, OP_fmod, OP_pow, OP_neg, OP_lt, OP_le, OP_gt, OP_ge, OP_eqi, OP_nei, OP_bits, OP_int, OP_intb, OP_tup, OP_lst, OP_lenl, OP_lent, OP_lenf, OP_abs, OP_max2, OP_min2, OP_gcd, OP_ixl, OP_ixt, OP_ixf, OP_cat, OP_rep, OP_subb, OP_gN, BQ_b, BP_t, BP_f, BP_d, BP_n, BP_eq, ↓reduceIte, Option.map_some, is_non_np, is_non_ng, is_non_tp, is_non_tg, is_non_fp, is_non_fg, is_bl_np, is_bl_ng, is_bl_tp, is_bl_tg, is_bl_fp, is_bl_fg, is_int_np, is_int_ng, is_int_tp, is_int_tg, is_int_fp, is_int_fg, is_str_np, is_str_ng, is_str_tp, is_str_tg, is_str_fp, is_str_fg, is_lst_np, is_lst_ng, is_lst_tp, is_lst_tg, is_lst_fp, is_lst_fg, is_tup_np, is_tup_ng, is_tup_tp, is_tup_tg, is_tup_fp, is_tup_fg, isi_non_int, isi_non_bool, isi_non_list, isi_non_tuple, isi_non_str, isi_non_dict, isi_non_lt, isi_bl_int, isi_bl_bool, isi_bl_list, isi_bl_tuple, isi_bl_str, isi_bl_dict, isi_bl_lt, isi_int_int, isi_int_bool, isi_int_list, isi_int_tuple, isi_int_str, isi_int_dict, isi_int_lt, isi_str_int, isi_str_bool, isi_str_list, isi_str_tuple, isi_str_str, isi_str_dict, isi_str_lt, isi_lst_int, isi_lst_bool, isi_lst_list, isi_lst_tuple, isi_lst_str, isi_lst_dict, isi_lst_lt, isi_tup_int, isi_tup_bool, isi_tup_list, isi_tup_tuple, isi_tup_str, isi_tup_dict, isi_tup_lt,  at0, at1, at2, at3, set0, set1, set2, setD_l, fillIO, putIO, ioN, permO, List.map_cons, List.map_nil, List.cons_append, List.nil_append, List.append_nil, List.replicate_succ, List.replicate_zero, Nat.reduceSub, Nat.reduceAdd, List.getElem?_cons_zero, List.getElem?_cons_succ, List.set_cons_zero, List.set_cons_succ, List.length_cons, List.length_nil, List.map_append])
  refine hN _ ?_
  clear hN
  -- most
  refine SP_seqI fun N hN => ?_
  (try simp only [RP_varm, RP_holem, RP_c, RP_1, RP_2, RP_f, RP_nil, RP_cons, RP_if, RP_and, RP_or, RP_not, RP_B, RP_qt, RP_perm, RP_pn, RP_ps, RP_sl, RP_call, RP_src, RP_r1, RP_r2, RP_en, RP_lc, RP_yes,  SP_nx, SP_seq, SP_drop, SP_ret, SP_set, SP_if, SP_sub, SP_app, SP_tgt, SP_par, SP_for, FP_fn, OP_some, OP_map, OP_add, OP_sub, OP_mul, OP_fdiv, OP_fmod, OP_pow, OP_neg, OP_lt, OP_le, OP_gt, OP_ge, OP_eqi, OP_nei, OP_bits, OP_int, OP_intb, OP_tup, OP_lst, OP_lenl, OP_lent, OP_lenf, OP_abs, OP_max2, OP_min2, OP_gcd, OP_ixl, OP_ixt, OP_ixf, OP_cat, OP_rep, OP_subb, OP_gN, BQ_b, BP_t, BP_f, BP_d, BP_n, BP_eq, ↓reduceIte, Option.map_some, is_non_np, is_non_ng, is_non_tp, is_non_tg, is_non_fp, is_non_fg, is_bl_np, is_bl_ng, is_bl_tp, is_bl_tg, is_bl_fp, is_bl_fg, is_int_np, is_int_ng, is_int_tp, is_int_tg, is_int_fp, is_int_fg, is_str_np, is_str_ng, is_str_tp, is_str_tg, is_str_fp, is_str_fg, is_lst_np, is_lst_ng, is_lst_tp, is_lst_tg, is_lst_fp, is_lst_fg, is_tup_np, is_tup_ng, is_tup_tp, is_tup_tg, is_tup_fp, is_tup_fg, isi_non_int, isi_non_bool, isi_non_list, isi_non_tuple, isi_non_str, isi_non_dict, isi_non_lt, isi_bl_int, isi_bl_bool, isi_bl_list, isi_bl_tuple, isi_bl_str, isi_bl_dict, isi_bl_lt, isi_int_int, isi_int_bool, isi_int_list, isi_int_tuple, isi_int_str, isi_int_dict, isi_int_lt, isi_str_int, isi_str_bool, isi_str_list, isi_str_tuple, isi_str_str, isi_str_dict, isi_str_lt, isi_lst_int, isi_lst_bool, isi_lst_list, isi_lst_tuple, isi_lst_str, isi_lst_dict, isi_lst_lt, isi_tup_int, isi_tup_bool, isi_tup_list, isi_tup_tuple, isi_tup_str, isi_tup_dict, isi_tup_lt,  at0, at1, at2, at3, set0, set1, set2, setD_l, fillIO, putIO, ioN, permO, List.map_cons, List.map_nil, List.cons_append, List.nil_append, List.append_nil, List.replicate_succ, List.replicate_zero, Nat.reduceSub, Nat.reduceAdd, List.getElem?_cons_zero, List.getElem?_cons_succ, List.set_cons_zero, List.set_cons_succ, List.length_cons, List.length_nil, List.map_append])
  refine ⟨⟨by decide, by decide, by decide⟩, by decide, sp_pick hg (by decide) (by simp) (by simp) fun i d g1 e hi hg1 he => ?_⟩
  have hm : ∃ m : Int, d = .int m ∧ 5 ≤ m ∧ m ≤ 10 ^ 20 := by
    rcases i with _ | _ | _ | i
    · cases hi; exact ⟨_, rfl, by decide, by decide⟩
    · cases hi; exact ⟨_, rfl, by decide, by decide⟩
    · cases hi; exact ⟨_, rfl, by decide, by decide⟩
    · simp at hi
  obtain ⟨m, rfl, hm1, hm2⟩ := hm
  have hM : Bd 70 m := by unfold Bd; omega
  simp only [he]
  (try simp only [RP_varm, RP_holem, RP_c, RP_1, RP_2, RP_f, RP_nil, RP_cons, RP_if, RP_and, RP_or, RP_not, RP_B, RP_qt, RP_perm, RP_pn, RP_ps, RP_sl, RP_call, RP_src, RP_r1, RP_r2, RP_en, RP_lc, RP_yes,  SP_nx, SP_seq, SP_drop, SP_ret, SP_set, SP_if, SP_sub, SP_app, SP_tgt, SP_par, SP_for, FP_fn, OP_some, OP_map, OP_add, OP_sub, OP_mul, OP_fdiv, OP_fmod, OP_pow, OP_neg, OP_lt, OP_le, OP_gt, OP_ge, OP_eqi, OP_nei, OP_bits, OP_int, OP_intb, OP_tup, OP_lst, OP_lenl, OP_lent, OP_lenf, OP_abs, OP_max2, OP_min2, OP_gcd, OP_ixl, OP_ixt, OP_ixf, OP_cat, OP_rep, OP_subb, OP_gN, BQ_b, BP_t, BP_f, BP_d, BP_n, BP_eq, ↓reduceIte, Option.map_some, is_non_np, is_non_ng, is_non_tp, is_non_tg, is_non_fp, is_non_fg, is_bl_np, is_bl_ng, is_bl_tp, is_bl_tg, is_bl_fp, is_bl_fg, is_int_np, is_int_ng, is_int_tp, is_int_tg, is_int_fp, is_int_fg, is_str_np, is_str_ng, is_str_tp, is_str_tg, is_str_fp, is_str_fg, is_lst_np, is_lst_ng, is_lst_tp, is_lst_tg, is_lst_fp, is_lst_fg, is_tup_np, is_tup_ng, is_tup_tp, is_tup_tg, is_tup_fp, is_tup_fg, isi_non_int, isi_non_bool, isi_non_list, isi_non_tuple, isi_non_str, isi_non_dict, isi_non_lt, isi_bl_int, isi_bl_bool, isi_bl_list, isi_bl_tuple, isi_bl_str, isi_bl_dict, isi_bl_lt, isi_int_int, isi_int_bool, isi_int_list, isi_int_tuple, isi_int_str, isi_int_dict, isi_int_lt, isi_str_int, isi_str_bool, isi_str_list, isi_str_tuple, isi_str_str, isi_str_dict, isi_str_lt, isi_lst_int, isi_lst_bool, isi_lst_list, isi_lst_tuple, isi_lst_str, isi_lst_dict, isi_lst_lt, isi_tup_int, isi_tup_bool, isi_tup_list, isi_tup_tuple, isi_tup_str, isi_tup_dict, isi_tup_lt,  at0, at1, at2, at3, set0, set1, set2, setD_l, fillIO, putIO, ioN, permO, List.map_cons, List.map_nil, List.cons_append, List.nil_append, List.append_nil, List.replicate_succ, List.replicate_zero, Nat.reduceSub, Nat.reduceAdd, List.getElem?_cons_zero, List.getElem?_cons_succ, List.set_cons_zero, List.set_cons_succ, List.length_cons, List.length_nil, List.map_append])
  refine hN _ ?_
  clear hN he e hi
  -- one
  refine SP_seqI fun N hN => ?_
  (try simp only [RP_varm, RP_holem, RP_c, RP_1, RP_2, RP_f, RP_nil, RP_cons, RP_if, RP_and, RP_or, RP_not, RP_B, RP_qt, RP_perm, RP_pn, RP_ps, RP_sl, RP_call, RP_src, RP_r1, RP_r2, RP_en, RP_lc, RP_yes,  SP_nx, SP_seq, SP_drop, SP_ret, SP_set, SP_if, SP_sub, SP_app, SP_tgt, SP_par, SP_for, FP_fn, OP_some, OP_map, OP_add, OP_sub, OP_mul, OP_fdiv, OP_fmod, OP_pow, OP_neg, OP_lt, OP_le, OP_gt, OP_ge, OP_eqi, OP_nei, OP_bits, OP_int, OP_intb, OP_tup, OP_lst, OP_lenl, OP_lent, OP_lenf, OP_abs, OP_max2, OP_min2, OP_gcd, OP_ixl, OP_ixt, OP_ixf, OP_cat, OP_rep, OP_subb, OP_gN, BQ_b, BP_t, BP_f, BP_d, BP_n, BP_eq, ↓reduceIte, Option.map_some, is_non_np, is_non_ng, is_non_tp, is_non_tg, is_non_fp, is_non_fg, is_bl_np, is_bl_ng, is_bl_tp, is_bl_tg, is_bl_fp, is_bl_fg, is_int_np, is_int_ng, is_int_tp, is_int_tg, is_int_fp, is_int_fg, is_str_np, is_str_ng, is_str_tp, is_str_tg, is_str_fp, is_str_fg, is_lst_np, is_lst_ng, is_lst_tp, is_lst_tg, is_lst_fp, is_lst_fg, is_tup_np, is_tup_ng, is_tup_tp, is_tup_tg, is_tup_fp, is_tup_fg, isi_non_int, isi_non_bool, isi_non_list, isi_non_tuple, isi_non_str, isi_non_dict, isi_non_lt, isi_bl_int, isi_bl_bool, isi_bl_list, isi_bl_tuple, isi_bl_str, isi_bl_dict, isi_bl_lt, isi_int_int, isi_int_bool, isi_int_list, isi_int_tuple, isi_int_str, isi_int_dict, isi_int_lt, isi_str_int, isi_str_bool, isi_str_list, isi_str_tuple, isi_str_str, isi_str_dict, isi_str_lt, isi_lst_int, isi_lst_bool, isi_lst_list, isi_lst_tuple, isi_lst_str, isi_lst_dict, isi_lst_lt, isi_tup_int, isi_tup_bool, isi_tup_list, isi_tup_tuple, isi_tup_str, isi_tup_dict, isi_tup_lt,  at0, at1, at2, at3, set0, set1, set2, setD_l, fillIO, putIO, ioN, permO, List.map_cons, List.map_nil, List.cons_append, List.nil_append, List.append_nil, List.replicate_succ, List.replicate_zero, Nat.reduceSub, Nat.reduceAdd, List.getElem?_cons_zero, List.getElem?_cons_succ, List.set_cons_zero, List.set_cons_succ, List.length_cons, List.length_nil, List.map_append])
  refine ⟨by ((refine And.intro ?_ ?_ <;> ((apply Bd.big; (case h => repeat' (with_reducible first | assumption | (apply Bd.add) | (apply Bd.sub) | (apply Bd.mul) | (apply Bd.neg) | (apply Bd.abs) | (apply Bd.fdiv) | exact Bd.self _)); all_goals decide +kernel)))), sp_random hg1 (by decide) (by omega) (by unfold Bd; omega) fun r g2 e r0 r1 hg2 he => ?_⟩
  simp only [he]
  (try simp only [RP_varm, RP_holem, RP_c, RP_1, RP_2, RP_f, RP_nil, RP_cons, RP_if, RP_and, RP_or, RP_not, RP_B, RP_qt, RP_perm, RP_pn, RP_ps, RP_sl, RP_call, RP_src, RP_r1, RP_r2, RP_en, RP_lc, RP_yes,  SP_nx, SP_seq, SP_drop, SP_ret, SP_set, SP_if, SP_sub, SP_app, SP_tgt, SP_par, SP_for, FP_fn, OP_some, OP_map, OP_add, OP_sub, OP_mul, OP_fdiv, OP_fmod, OP_pow, OP_neg, OP_lt, OP_le, OP_gt, OP_ge, OP_eqi, OP_nei, OP_bits, OP_int, OP_intb, OP_tup, OP_lst, OP_lenl, OP_lent, OP_lenf, OP_abs, OP_max2, OP_min2, OP_gcd, OP_ixl, OP_ixt, OP_ixf, OP_cat, OP_rep, OP_subb, OP_gN, BQ_b, BP_t, BP_f, BP_d, BP_n, BP_eq, ↓reduceIte, Option.map_some, is_non_np, is_non_ng, is_non_tp, is_non_tg, is_non_fp, is_non_fg, is_bl_np, is_bl_ng, is_bl_tp, is_bl_tg, is_bl_fp, is_bl_fg, is_int_np, is_int_ng, is_int_tp, is_int_tg, is_int_fp, is_int_fg, is_str_np, is_str_ng, is_str_tp, is_str_tg, is_str_fp, is_str_fg, is_lst_np, is_lst_ng, is_lst_tp, is_lst_tg, is_lst_fp, is_lst_fg, is_tup_np, is_tup_ng, is_tup_tp, is_tup_tg, is_tup_fp, is_tup_fg, isi_non_int, isi_non_bool, isi_non_list, isi_non_tuple, isi_non_str, isi_non_dict, isi_non_lt, isi_bl_int, isi_bl_bool, isi_bl_list, isi_bl_tuple, isi_bl_str, isi_bl_dict, isi_bl_lt, isi_int_int, isi_int_bool, isi_int_list, isi_int_tuple, isi_int_str, isi_int_dict, isi_int_lt, isi_str_int, isi_str_bool, isi_str_list, isi_str_tuple, isi_str_str, isi_str_dict, isi_str_lt, isi_lst_int, isi_lst_bool, isi_lst_list, isi_lst_tuple, isi_lst_str, isi_lst_dict, isi_lst_lt, isi_tup_int, isi_tup_bool, isi_tup_list, isi_tup_tuple, isi_tup_str, isi_tup_dict, isi_tup_lt,  at0, at1, at2, at3, set0, set1, set2, setD_l, fillIO, putIO, ioN, permO, List.map_cons, List.map_nil, List.cons_append, List.nil_append, List.append_nil, List.replicate_succ, List.replicate_zero, Nat.reduceSub, Nat.reduceAdd, List.getElem?_cons_zero, List.getElem?_cons_succ, List.set_cons_zero, List.set_cons_succ, List.length_cons, List.length_nil, List.map_append])
  clear he e
  refine sp_random hg2 (by decide) (by omega) (by unfold Bd; omega) fun s g3 e s0 s1 hg3 he => ?_
  simp only [he]
  (try simp only [RP_varm, RP_holem, RP_c, RP_1, RP_2, RP_f, RP_nil, RP_cons, RP_if, RP_and, RP_or, RP_not, RP_B, RP_qt, RP_perm, RP_pn, RP_ps, RP_sl, RP_call, RP_src, RP_r1, RP_r2, RP_en, RP_lc, RP_yes,  SP_nx, SP_seq, SP_drop, SP_ret, SP_set, SP_if, SP_sub, SP_app, SP_tgt, SP_par, SP_for, FP_fn, OP_some, OP_map, OP_add, OP_sub, OP_mul, OP_fdiv, OP_fmod, OP_pow, OP_neg, OP_lt, OP_le, OP_gt, OP_ge, OP_eqi, OP_nei, OP_bits, OP_int, OP_intb, OP_tup, OP_lst, OP_lenl, OP_lent, OP_lenf, OP_abs, OP_max2, OP_min2, OP_gcd, OP_ixl, OP_ixt, OP_ixf, OP_cat, OP_rep, OP_subb, OP_gN, BQ_b, BP_t, BP_f, BP_d, BP_n, BP_eq, ↓reduceIte, Option.map_some, is_non_np, is_non_ng, is_non_tp, is_non_tg, is_non_fp, is_non_fg, is_bl_np, is_bl_ng, is_bl_tp, is_bl_tg, is_bl_fp, is_bl_fg, is_int_np, is_int_ng, is_int_tp, is_int_tg, is_int_fp, is_int_fg, is_str_np, is_str_ng, is_str_tp, is_str_tg, is_str_fp, is_str_fg, is_lst_np, is_lst_ng, is_lst_tp, is_lst_tg, is_lst_fp, is_lst_fg, is_tup_np, is_tup_ng, is_tup_tp, is_tup_tg, is_tup_fp, is_tup_fg, isi_non_int, isi_non_bool, isi_non_list, isi_non_tuple, isi_non_str, isi_non_dict, isi_non_lt, isi_bl_int, isi_bl_bool, isi_bl_list, isi_bl_tuple, isi_bl_str, isi_bl_dict, isi_bl_lt, isi_int_int, isi_int_bool, isi_int_list, isi_int_tuple, isi_int_str, isi_int_dict, isi_int_lt, isi_str_int, isi_str_bool, isi_str_list, isi_str_tuple, isi_str_str, isi_str_dict, isi_str_lt, isi_lst_int, isi_lst_bool, isi_lst_list, isi_lst_tuple, isi_lst_str, isi_lst_dict, isi_lst_lt, isi_tup_int, isi_tup_bool, isi_tup_list, isi_tup_tuple, isi_tup_str, isi_tup_dict, isi_tup_lt,  at0, at1, at2, at3, set0, set1, set2, setD_l, fillIO, putIO, ioN, permO, List.map_cons, List.map_nil, List.cons_append, List.nil_append, List.append_nil, List.replicate_succ, List.replicate_zero, Nat.reduceSub, Nat.reduceAdd, List.getElem?_cons_zero, List.getElem?_cons_succ, List.set_cons_zero, List.set_cons_succ, List.length_cons, List.length_nil, List.map_append])
  clear he e
  have hR : Bd 80 (r - m) := by unfold Bd; omega
  have hS : Bd 80 (1 + s) := by unfold Bd; omega
  refine sp_lawlowest (by omega) (hR.up (by decide)) (hS.up (by decide)) fun e => ?_
  have hone := low_rat (hR.up (by decide)) (hS.up (by decide)) (by omega)
  (try simp only [RP_varm, RP_holem, RP_c, RP_1, RP_2, RP_f, RP_nil, RP_cons, RP_if, RP_and, RP_or, RP_not, RP_B, RP_qt, RP_perm, RP_pn, RP_ps, RP_sl, RP_call, RP_src, RP_r1, RP_r2, RP_en, RP_lc, RP_yes,  SP_nx, SP_seq, SP_drop, SP_ret, SP_set, SP_if, SP_sub, SP_app, SP_tgt, SP_par, SP_for, FP_fn, OP_some, OP_map, OP_add, OP_sub, OP_mul, OP_fdiv, OP_fmod, OP_pow, OP_neg, OP_lt, OP_le, OP_gt, OP_ge, OP_eqi, OP_nei, OP_bits, OP_int, OP_intb, OP_tup, OP_lst, OP_lenl, OP_lent, OP_lenf, OP_abs, OP_max2, OP_min2, OP_gcd, OP_ixl, OP_ixt, OP_ixf, OP_cat, OP_rep, OP_subb, OP_gN, BQ_b, BP_t, BP_f, BP_d, BP_n, BP_eq, ↓reduceIte, Option.map_some, is_non_np, is_non_ng, is_non_tp, is_non_tg, is_non_fp, is_non_fg, is_bl_np, is_bl_ng, is_bl_tp, is_bl_tg, is_bl_fp, is_bl_fg, is_int_np, is_int_ng, is_int_tp, is_int_tg, is_int_fp, is_int_fg, is_str_np, is_str_ng, is_str_tp, is_str_tg, is_str_fp, is_str_fg, is_lst_np, is_lst_ng, is_lst_tp, is_lst_tg, is_lst_fp, is_lst_fg, is_tup_np, is_tup_ng, is_tup_tp, is_tup_tg, is_tup_fp, is_tup_fg, isi_non_int, isi_non_bool, isi_non_list, isi_non_tuple, isi_non_str, isi_non_dict, isi_non_lt, isi_bl_int, isi_bl_bool, isi_bl_list, isi_bl_tuple, isi_bl_str, isi_bl_dict, isi_bl_lt, isi_int_int, isi_int_bool, isi_int_list, isi_int_tuple, isi_int_str, isi_int_dict, isi_int_lt, isi_str_int, isi_str_bool, isi_str_list, isi_str_tuple, isi_str_str, isi_str_dict, isi_str_lt, isi_lst_int, isi_lst_bool, isi_lst_list, isi_lst_tuple, isi_lst_str, isi_lst_dict, isi_lst_lt, isi_tup_int, isi_tup_bool, isi_tup_list, isi_tup_tuple, isi_tup_str, isi_tup_dict, isi_tup_lt,  at0, at1, at2, at3, set0, set1, set2, setD_l, fillIO, putIO, ioN, permO, List.map_cons, List.map_nil, List.cons_append, List.nil_append, List.append_nil, List.replicate_succ, List.replicate_zero, Nat.reduceSub, Nat.reduceAdd, List.getElem?_cons_zero, List.getElem?_cons_succ, List.set_cons_zero, List.set_cons_succ, List.length_cons, List.length_nil, List.map_append])
  refine hN _ ?_
  clear hN
  obtain ⟨o1, o2, ho, oA, oB, oP⟩ := hone
  rw [ho]
  -- other
  refine SP_seqI fun N hN => ?_
  (try simp only [RP_varm, RP_holem, RP_c, RP_1, RP_2, RP_f, RP_nil, RP_cons, RP_if, RP_and, RP_or, RP_not, RP_B, RP_qt, RP_perm, RP_pn, RP_ps, RP_sl, RP_call, RP_src, RP_r1, RP_r2, RP_en, RP_lc, RP_yes,  SP_nx, SP_seq, SP_drop, SP_ret, SP_set, SP_if, SP_sub, SP_app, SP_tgt, SP_par, SP_for, FP_fn, OP_some, OP_map, OP_add, OP_sub, OP_mul, OP_fdiv, OP_fmod, OP_pow, OP_neg, OP_lt, OP_le, OP_gt, OP_ge, OP_eqi, OP_nei, OP_bits, OP_int, OP_intb, OP_tup, OP_lst, OP_lenl, OP_lent, OP_lenf, OP_abs, OP_max2, OP_min2, OP_gcd, OP_ixl, OP_ixt, OP_ixf, OP_cat, OP_rep, OP_subb, OP_gN, BQ_b, BP_t, BP_f, BP_d, BP_n, BP_eq, ↓reduceIte, Option.map_some, is_non_np, is_non_ng, is_non_tp, is_non_tg, is_non_fp, is_non_fg, is_bl_np, is_bl_ng, is_bl_tp, is_bl_tg, is_bl_fp, is_bl_fg, is_int_np, is_int_ng, is_int_tp, is_int_tg, is_int_fp, is_int_fg, is_str_np, is_str_ng, is_str_tp, is_str_tg, is_str_fp, is_str_fg, is_lst_np, is_lst_ng, is_lst_tp, is_lst_tg, is_lst_fp, is_lst_fg, is_tup_np, is_tup_ng, is_tup_tp, is_tup_tg, is_tup_fp, is_tup_fg, isi_non_int, isi_non_bool, isi_non_list, isi_non_tuple, isi_non_str, isi_non_dict, isi_non_lt, isi_bl_int, isi_bl_bool, isi_bl_list, isi_bl_tuple, isi_bl_str, isi_bl_dict, isi_bl_lt, isi_int_int, isi_int_bool, isi_int_list, isi_int_tuple, isi_int_str, isi_int_dict, isi_int_lt, isi_str_int, isi_str_bool, isi_str_list, isi_str_tuple, isi_str_str, isi_str_dict, isi_str_lt, isi_lst_int, isi_lst_bool, isi_lst_list, isi_lst_tuple, isi_lst_str, isi_lst_dict, isi_lst_lt, isi_tup_int, isi_tup_bool, isi_tup_list, isi_tup_tuple, isi_tup_str, isi_tup_dict, isi_tup_lt,  at0, at1, at2, at3, set0, set1, set2, setD_l, fillIO, putIO, ioN, permO, List.map_cons, List.map_nil, List.cons_append, List.nil_append, List.append_nil, List.replicate_succ, List.replicate_zero, Nat.reduceSub, Nat.reduceAdd, List.getElem?_cons_zero, List.getElem?_cons_succ, List.set_cons_zero, List.set_cons_succ, List.length_cons, List.length_nil, List.map_append])
  refine ⟨by ((refine And.intro ?_ ?_ <;> ((apply Bd.big; (case h => repeat' (with_reducible first | assumption | (apply Bd.add) | (apply Bd.sub) | (apply Bd.mul) | (apply Bd.neg) | (apply Bd.abs) | (apply Bd.fdiv) | exact Bd.self _)); all_goals decide +kernel)))), sp_random hg3 (by decide) (by omega) (by unfold Bd; omega) fun r' g4 e r0' r1' hg4 he => ?_⟩
  simp only [he]
  (try simp only [RP_varm, RP_holem, RP_c, RP_1, RP_2, RP_f, RP_nil, RP_cons, RP_if, RP_and, RP_or, RP_not, RP_B, RP_qt, RP_perm, RP_pn, RP_ps, RP_sl, RP_call, RP_src, RP_r1, RP_r2, RP_en, RP_lc, RP_yes,  SP_nx, SP_seq, SP_drop, SP_ret, SP_set, SP_if, SP_sub, SP_app, SP_tgt, SP_par, SP_for, FP_fn, OP_some, OP_map, OP_add, OP_sub, OP_mul, OP_fdiv, OP_fmod, OP_pow, OP_neg, OP_lt, OP_le, OP_gt, OP_ge, OP_eqi, OP_nei, OP_bits, OP_int, OP_intb, OP_tup, OP_lst, OP_lenl, OP_lent, OP_lenf, OP_abs, OP_max2, OP_min2, OP_gcd, OP_ixl, OP_ixt, OP_ixf, OP_cat, OP_rep, OP_subb, OP_gN, BQ_b, BP_t, BP_f, BP_d, BP_n, BP_eq, ↓reduceIte, Option.map_some, is_non_np, is_non_ng, is_non_tp, is_non_tg, is_non_fp, is_non_fg, is_bl_np, is_bl_ng, is_bl_tp, is_bl_tg, is_bl_fp, is_bl_fg, is_int_np, is_int_ng, is_int_tp, is_int_tg, is_int_fp, is_int_fg, is_str_np, is_str_ng, is_str_tp, is_str_tg, is_str_fp, is_str_fg, is_lst_np, is_lst_ng, is_lst_tp, is_lst_tg, is_lst_fp, is_lst_fg, is_tup_np, is_tup_ng, is_tup_tp, is_tup_tg, is_tup_fp, is_tup_fg, isi_non_int, isi_non_bool, isi_non_list, isi_non_tuple, isi_non_str, isi_non_dict, isi_non_lt, isi_bl_int, isi_bl_bool, isi_bl_list, isi_bl_tuple, isi_bl_str, isi_bl_dict, isi_bl_lt, isi_int_int, isi_int_bool, isi_int_list, isi_int_tuple, isi_int_str, isi_int_dict, isi_int_lt, isi_str_int, isi_str_bool, isi_str_list, isi_str_tuple, isi_str_str, isi_str_dict, isi_str_lt, isi_lst_int, isi_lst_bool, isi_lst_list, isi_lst_tuple, isi_lst_str, isi_lst_dict, isi_lst_lt, isi_tup_int, isi_tup_bool, isi_tup_list, isi_tup_tuple, isi_tup_str, isi_tup_dict, isi_tup_lt,  at0, at1, at2, at3, set0, set1, set2, setD_l, fillIO, putIO, ioN, permO, List.map_cons, List.map_nil, List.cons_append, List.nil_append, List.append_nil, List.replicate_succ, List.replicate_zero, Nat.reduceSub, Nat.reduceAdd, List.getElem?_cons_zero, List.getElem?_cons_succ, List.set_cons_zero, List.set_cons_succ, List.length_cons, List.length_nil, List.map_append])
  clear he e
  refine sp_random hg4 (by decide) (by omega) (by unfold Bd; omega) fun s' g5 e s0' s1' hg5 he => ?_
  simp only [he]
  (try simp only [RP_varm, RP_holem, RP_c, RP_1, RP_2, RP_f, RP_nil, RP_cons, RP_if, RP_and, RP_or, RP_not, RP_B, RP_qt, RP_perm, RP_pn, RP_ps, RP_sl, RP_call, RP_src, RP_r1, RP_r2, RP_en, RP_lc, RP_yes,  SP_nx, SP_seq, SP_drop, SP_ret, SP_set, SP_if, SP_sub, SP_app, SP_tgt, SP_par, SP_for, FP_fn, OP_some, OP_map, OP_add, OP_sub, OP_mul, OP_fdiv, OP_fmod, OP_pow, OP_neg, OP_lt, OP_le, OP_gt, OP_ge, OP_eqi, OP_nei, OP_bits, OP_int, OP_intb, OP_tup, OP_lst, OP_lenl, OP_lent, OP_lenf, OP_abs, OP_max2, OP_min2, OP_gcd, OP_ixl, OP_ixt, OP_ixf, OP_cat, OP_rep, OP_subb, OP_gN, BQ_b, BP_t, BP_f, BP_d, BP_n, BP_eq, ↓reduceIte, Option.map_some, is_non_np, is_non_ng, is_non_tp, is_non_tg, is_non_fp, is_non_fg, is_bl_np, is_bl_ng, is_bl_tp, is_bl_tg, is_bl_fp, is_bl_fg, is_int_np, is_int_ng, is_int_tp, is_int_tg, is_int_fp, is_int_fg, is_str_np, is_str_ng, is_str_tp, is_str_tg, is_str_fp, is_str_fg, is_lst_np, is_lst_ng, is_lst_tp, is_lst_tg, is_lst_fp, is_lst_fg, is_tup_np, is_tup_ng, is_tup_tp, is_tup_tg, is_tup_fp, is_tup_fg, isi_non_int, isi_non_bool, isi_non_list, isi_non_tuple, isi_non_str, isi_non_dict, isi_non_lt, isi_bl_int, isi_bl_bool, isi_bl_list, isi_bl_tuple, isi_bl_str, isi_bl_dict, isi_bl_lt, isi_int_int, isi_int_bool, isi_int_list, isi_int_tuple, isi_int_str, isi_int_dict, isi_int_lt, isi_str_int, isi_str_bool, isi_str_list, isi_str_tuple, isi_str_str, isi_str_dict, isi_str_lt, isi_lst_int, isi_lst_bool, isi_lst_list, isi_lst_tuple, isi_lst_str, isi_lst_dict, isi_lst_lt, isi_tup_int, isi_tup_bool, isi_tup_list, isi_tup_tuple, isi_tup_str, isi_tup_dict, isi_tup_lt,  at0, at1, at2, at3, set0, set1, set2, setD_l, fillIO, putIO, ioN, permO, List.map_cons, List.map_nil, List.cons_append, List.nil_append, List.append_nil, List.replicate_succ, List.replicate_zero, Nat.reduceSub, Nat.reduceAdd, List.getElem?_cons_zero, List.getElem?_cons_succ, List.set_cons_zero, List.set_cons_succ, List.length_cons, List.length_nil, List.map_append])
  clear he e
  have hR' : Bd 80 (r' - m) := by unfold Bd; omega
  have hS' : Bd 80 (1 + s') := by unfold Bd; omega
  refine sp_lawlowest (by omega) (hR'.up (by decide)) (hS'.up (by decide)) fun e => ?_
  (try simp only [RP_varm, RP_holem, RP_c, RP_1, RP_2, RP_f, RP_nil, RP_cons, RP_if, RP_and, RP_or, RP_not, RP_B, RP_qt, RP_perm, RP_pn, RP_ps, RP_sl, RP_call, RP_src, RP_r1, RP_r2, RP_en, RP_lc, RP_yes,  SP_nx, SP_seq, SP_drop, SP_ret, SP_set, SP_if, SP_sub, SP_app, SP_tgt, SP_par, SP_for, FP_fn, OP_some, OP_map, OP_add, OP_sub, OP_mul, OP_fdiv, OP_fmod, OP_pow, OP_neg, OP_lt, OP_le, OP_gt, OP_ge, OP_eqi, OP_nei, OP_bits, OP_int, OP_intb, OP_tup, OP_lst, OP_lenl, OP_lent, OP_lenf, OP_abs, OP_max2, OP_min2, OP_gcd, OP_ixl, OP_ixt, OP_ixf, OP_cat, OP_rep, OP_subb, OP_gN, BQ_b, BP_t, BP_f, BP_d, BP_n, BP_eq, ↓reduceIte, Option.map_some, is_non_np, is_non_ng, is_non_tp, is_non_tg, is_non_fp, is_non_fg, is_bl_np, is_bl_ng, is_bl_tp, is_bl_tg, is_bl_fp, is_bl_fg, is_int_np, is_int_ng, is_int_tp, is_int_tg, is_int_fp, is_int_fg, is_str_np, is_str_ng, is_str_tp, is_str_tg, is_str_fp, is_str_fg, is_lst_np, is_lst_ng, is_lst_tp, is_lst_tg, is_lst_fp, is_lst_fg, is_tup_np, is_tup_ng, is_tup_tp, is_tup_tg, is_tup_fp, is_tup_fg, isi_non_int, isi_non_bool, isi_non_list, isi_non_tuple, isi_non_str, isi_non_dict, isi_non_lt, isi_bl_int, isi_bl_bool, isi_bl_list, isi_bl_tuple, isi_bl_str, isi_bl_dict, isi_bl_lt, isi_int_int, isi_int_bool, isi_int_list, isi_int_tuple, isi_int_str, isi_int_dict, isi_int_lt, isi_str_int, isi_str_bool, isi_str_list, isi_str_tuple, isi_str_str, isi_str_dict, isi_str_lt, isi_lst_int, isi_lst_bool, isi_lst_list, isi_lst_tuple, isi_lst_str, isi_lst_dict, isi_lst_lt, isi_tup_int, isi_tup_bool, isi_tup_list, isi_tup_tuple, isi_tup_str, isi_tup_dict, isi_tup_lt,  at0, at1, at2, at3, set0, set1, set2, setD_l, fillIO, putIO, ioN, permO, List.map_cons, List.map_nil, List.cons_append, List.nil_append, List.append_nil, List.replicate_succ, List.replicate_zero, Nat.reduceSub, Nat.reduceAdd, List.getElem?_cons_zero, List.getElem?_cons_succ, List.set_cons_zero, List.set_cons_succ, List.length_cons, List.length_nil, List.map_append])
  refine ⟨by decide, sp_pick hg5 (by decide) (by simp) (by simp) fun i d g6 e hi hg6 he => ?_⟩
  have hoth : Rat1 d := by
    rcases i with _ | _ | i
    · cases hi; exact ⟨_, _, rfl, oA, oB, oP⟩
    · cases hi; exact low_rat (hR'.up (by decide)) (hS'.up (by decide)) (by omega)
    · simp at hi
  simp only [he]
  (try simp only [RP_varm, RP_holem, RP_c, RP_1, RP_2, RP_f, RP_nil, RP_cons, RP_if, RP_and, RP_or, RP_not, RP_B, RP_qt, RP_perm, RP_pn, RP_ps, RP_sl, RP_call, RP_src, RP_r1, RP_r2, RP_en, RP_lc, RP_yes,  SP_nx, SP_seq, SP_drop, SP_ret, SP_set, SP_if, SP_sub, SP_app, SP_tgt, SP_par, SP_for, FP_fn, OP_some, OP_map, OP_add, OP_sub, OP_mul, OP_fdiv, OP_fmod, OP_pow, OP_neg, OP_lt, OP_le, OP_gt, OP_ge, OP_eqi, OP_nei, OP_bits, OP_int, OP_intb, OP_tup, OP_lst, OP_lenl, OP_lent, OP_lenf, OP_abs, OP_max2, OP_min2, OP_gcd, OP_ixl, OP_ixt, OP_ixf, OP_cat, OP_rep, OP_subb, OP_gN, BQ_b, BP_t, BP_f, BP_d, BP_n, BP_eq, ↓reduceIte, Option.map_some, is_non_np, is_non_ng, is_non_tp, is_non_tg, is_non_fp, is_non_fg, is_bl_np, is_bl_ng, is_bl_tp, is_bl_tg, is_bl_fp, is_bl_fg, is_int_np, is_int_ng, is_int_tp, is_int_tg, is_int_fp, is_int_fg, is_str_np, is_str_ng, is_str_tp, is_str_tg, is_str_fp, is_str_fg, is_lst_np, is_lst_ng, is_lst_tp, is_lst_tg, is_lst_fp, is_lst_fg, is_tup_np, is_tup_ng, is_tup_tp, is_tup_tg, is_tup_fp, is_tup_fg, isi_non_int, isi_non_bool, isi_non_list, isi_non_tuple, isi_non_str, isi_non_dict, isi_non_lt, isi_bl_int, isi_bl_bool, isi_bl_list, isi_bl_tuple, isi_bl_str, isi_bl_dict, isi_bl_lt, isi_int_int, isi_int_bool, isi_int_list, isi_int_tuple, isi_int_str, isi_int_dict, isi_int_lt, isi_str_int, isi_str_bool, isi_str_list, isi_str_tuple, isi_str_str, isi_str_dict, isi_str_lt, isi_lst_int, isi_lst_bool, isi_lst_list, isi_lst_tuple, isi_lst_str, isi_lst_dict, isi_lst_lt, isi_tup_int, isi_tup_bool, isi_tup_list, isi_tup_tuple, isi_tup_str, isi_tup_dict, isi_tup_lt,  at0, at1, at2, at3, set0, set1, set2, setD_l, fillIO, putIO, ioN, permO, List.map_cons, List.map_nil, List.cons_append, List.nil_append, List.append_nil, List.replicate_succ, List.replicate_zero, Nat.reduceSub, Nat.reduceAdd, List.getElem?_cons_zero, List.getElem?_cons_succ, List.set_cons_zero, List.set_cons_succ, List.length_cons, List.length_nil, List.map_append])
  refine hN _ ?_
  clear hN he e hi
  obtain ⟨p1, p2, rfl, pA, pB, pP⟩ := hoth
  -- number, bottom
  refine SP_seqI fun N hN => ?_
  (try simp only [RP_varm, RP_holem, RP_c, RP_1, RP_2, RP_f, RP_nil, RP_cons, RP_if, RP_and, RP_or, RP_not, RP_B, RP_qt, RP_perm, RP_pn, RP_ps, RP_sl, RP_call, RP_src, RP_r1, RP_r2, RP_en, RP_lc, RP_yes,  SP_nx, SP_seq, SP_drop, SP_ret, SP_set, SP_if, SP_sub, SP_app, SP_tgt, SP_par, SP_for, FP_fn, OP_some, OP_map, OP_add, OP_sub, OP_mul, OP_fdiv, OP_fmod, OP_pow, OP_neg, OP_lt, OP_le, OP_gt, OP_ge, OP_eqi, OP_nei, OP_bits, OP_int, OP_intb, OP_tup, OP_lst, OP_lenl, OP_lent, OP_lenf, OP_abs, OP_max2, OP_min2, OP_gcd, OP_ixl, OP_ixt, OP_ixf, OP_cat, OP_rep, OP_subb, OP_gN, BQ_b, BP_t, BP_f, BP_d, BP_n, BP_eq, ↓reduceIte, Option.map_some, is_non_np, is_non_ng, is_non_tp, is_non_tg, is_non_fp, is_non_fg, is_bl_np, is_bl_ng, is_bl_tp, is_bl_tg, is_bl_fp, is_bl_fg, is_int_np, is_int_ng, is_int_tp, is_int_tg, is_int_fp, is_int_fg, is_str_np, is_str_ng, is_str_tp, is_str_tg, is_str_fp, is_str_fg, is_lst_np, is_lst_ng, is_lst_tp, is_lst_tg, is_lst_fp, is_lst_fg, is_tup_np, is_tup_ng, is_tup_tp, is_tup_tg, is_tup_fp, is_tup_fg, isi_non_int, isi_non_bool, isi_non_list, isi_non_tuple, isi_non_str, isi_non_dict, isi_non_lt, isi_bl_int, isi_bl_bool, isi_bl_list, isi_bl_tuple, isi_bl_str, isi_bl_dict, isi_bl_lt, isi_int_int, isi_int_bool, isi_int_list, isi_int_tuple, isi_int_str, isi_int_dict, isi_int_lt, isi_str_int, isi_str_bool, isi_str_list, isi_str_tuple, isi_str_str, isi_str_dict, isi_str_lt, isi_lst_int, isi_lst_bool, isi_lst_list, isi_lst_tuple, isi_lst_str, isi_lst_dict, isi_lst_lt, isi_tup_int, isi_tup_bool, isi_tup_list, isi_tup_tuple, isi_tup_str, isi_tup_dict, isi_tup_lt,  at0, at1, at2, at3, set0, set1, set2, setD_l, fillIO, putIO, ioN, permO, List.map_cons, List.map_nil, List.cons_append, List.nil_append, List.append_nil, List.replicate_succ, List.replicate_zero, Nat.reduceSub, Nat.reduceAdd, List.getElem?_cons_zero, List.getElem?_cons_succ, List.set_cons_zero, List.set_cons_succ, List.length_cons, List.length_nil, List.map_append])
  refine ⟨by ((refine And.intro ?_ ?_ <;> ((apply Bd.big; (case h => repeat' (with_reducible first | assumption | (apply Bd.add) | (apply Bd.sub) | (apply Bd.mul) | (apply Bd.neg) | (apply Bd.abs) | (apply Bd.fdiv) | exact Bd.self _)); all_goals decide +kernel)))), sp_random hg6 (by decide) (by omega) (by unfold Bd; omega) fun u g7 e u0 u1 hg7 he => ?_⟩
  simp only [he]
  (try simp only [RP_varm, RP_holem, RP_c, RP_1, RP_2, RP_f, RP_nil, RP_cons, RP_if, RP_and, RP_or, RP_not, RP_B, RP_qt, RP_perm, RP_pn, RP_ps, RP_sl, RP_call, RP_src, RP_r1, RP_r2, RP_en, RP_lc, RP_yes,  SP_nx, SP_seq, SP_drop, SP_ret, SP_set, SP_if, SP_sub, SP_app, SP_tgt, SP_par, SP_for, FP_fn, OP_some, OP_map, OP_add, OP_sub, OP_mul, OP_fdiv, OP_fmod, OP_pow, OP_neg, OP_lt, OP_le, OP_gt, OP_ge, OP_eqi, OP_nei, OP_bits, OP_int, OP_intb, OP_tup, OP_lst, OP_lenl, OP_lent, OP_lenf, OP_abs, OP_max2, OP_min2, OP_gcd, OP_ixl, OP_ixt, OP_ixf, OP_cat, OP_rep, OP_subb, OP_gN, BQ_b, BP_t, BP_f, BP_d, BP_n, BP_eq, ↓reduceIte, Option.map_some, is_non_np, is_non_ng, is_non_tp, is_non_tg, is_non_fp, is_non_fg, is_bl_np, is_bl_ng, is_bl_tp, is_bl_tg, is_bl_fp, is_bl_fg, is_int_np, is_int_ng, is_int_tp, is_int_tg, is_int_fp, is_int_fg, is_str_np, is_str_ng, is_str_tp, is_str_tg, is_str_fp, is_str_fg, is_lst_np, is_lst_ng, is_lst_tp, is_lst_tg, is_lst_fp, is_lst_fg, is_tup_np, is_tup_ng, is_tup_tp, is_tup_tg, is_tup_fp, is_tup_fg, isi_non_int, isi_non_bool, isi_non_list, isi_non_tuple, isi_non_str, isi_non_dict, isi_non_lt, isi_bl_int, isi_bl_bool, isi_bl_list, isi_bl_tuple, isi_bl_str, isi_bl_dict, isi_bl_lt, isi_int_int, isi_int_bool, isi_int_list, isi_int_tuple, isi_int_str, isi_int_dict, isi_int_lt, isi_str_int, isi_str_bool, isi_str_list, isi_str_tuple, isi_str_str, isi_str_dict, isi_str_lt, isi_lst_int, isi_lst_bool, isi_lst_list, isi_lst_tuple, isi_lst_str, isi_lst_dict, isi_lst_lt, isi_tup_int, isi_tup_bool, isi_tup_list, isi_tup_tuple, isi_tup_str, isi_tup_dict, isi_tup_lt,  at0, at1, at2, at3, set0, set1, set2, setD_l, fillIO, putIO, ioN, permO, List.map_cons, List.map_nil, List.cons_append, List.nil_append, List.append_nil, List.replicate_succ, List.replicate_zero, Nat.reduceSub, Nat.reduceAdd, List.getElem?_cons_zero, List.getElem?_cons_succ, List.set_cons_zero, List.set_cons_succ, List.length_cons, List.length_nil, List.map_append])
  clear he e
  refine ⟨by decide, sp_pick hg7 (by decide) (by simp) (by simp) fun i d g8 e hi hg8 he => ?_⟩
  have hsg : ∃ z : Int, d = .int z ∧ z ≠ 0 ∧ Bd 2 z := by
    rcases i with _ | _ | i
    · cases hi; exact ⟨_, rfl, by decide, by unfold Bd; decide⟩
    · cases hi; exact ⟨_, rfl, by decide, by unfold Bd; decide⟩
    · simp at hi
  obtain ⟨z, rfl, z0, zB⟩ := hsg
  simp only [he]
  (try simp only [RP_varm, RP_holem, RP_c, RP_1, RP_2, RP_f, RP_nil, RP_cons, RP_if, RP_and, RP_or, RP_not, RP_B, RP_qt, RP_perm, RP_pn, RP_ps, RP_sl, RP_call, RP_src, RP_r1, RP_r2, RP_en, RP_lc, RP_yes,  SP_nx, SP_seq, SP_drop, SP_ret, SP_set, SP_if, SP_sub, SP_app, SP_tgt, SP_par, SP_for, FP_fn, OP_some, OP_map, OP_add, OP_sub, OP_mul, OP_fdiv, OP_fmod, OP_pow, OP_neg, OP_lt, OP_le, OP_gt, OP_ge, OP_eqi, OP_nei, OP_bits, OP_int, OP_intb, OP_tup, OP_lst, OP_lenl, OP_lent, OP_lenf, OP_abs, OP_max2, OP_min2, OP_gcd, OP_ixl, OP_ixt, OP_ixf, OP_cat, OP_rep, OP_subb, OP_gN, BQ_b, BP_t, BP_f, BP_d, BP_n, BP_eq, ↓reduceIte, Option.map_some, is_non_np, is_non_ng, is_non_tp, is_non_tg, is_non_fp, is_non_fg, is_bl_np, is_bl_ng, is_bl_tp, is_bl_tg, is_bl_fp, is_bl_fg, is_int_np, is_int_ng, is_int_tp, is_int_tg, is_int_fp, is_int_fg, is_str_np, is_str_ng, is_str_tp, is_str_tg, is_str_fp, is_str_fg, is_lst_np, is_lst_ng, is_lst_tp, is_lst_tg, is_lst_fp, is_lst_fg, is_tup_np, is_tup_ng, is_tup_tp, is_tup_tg, is_tup_fp, is_tup_fg, isi_non_int, isi_non_bool, isi_non_list, isi_non_tuple, isi_non_str, isi_non_dict, isi_non_lt, isi_bl_int, isi_bl_bool, isi_bl_list, isi_bl_tuple, isi_bl_str, isi_bl_dict, isi_bl_lt, isi_int_int, isi_int_bool, isi_int_list, isi_int_tuple, isi_int_str, isi_int_dict, isi_int_lt, isi_str_int, isi_str_bool, isi_str_list, isi_str_tuple, isi_str_str, isi_str_dict, isi_str_lt, isi_lst_int, isi_lst_bool, isi_lst_list, isi_lst_tuple, isi_lst_str, isi_lst_dict, isi_lst_lt, isi_tup_int, isi_tup_bool, isi_tup_list, isi_tup_tuple, isi_tup_str, isi_tup_dict, isi_tup_lt,  at0, at1, at2, at3, set0, set1, set2, setD_l, fillIO, putIO, ioN, permO, List.map_cons, List.map_nil, List.cons_append, List.nil_append, List.append_nil, List.replicate_succ, List.replicate_zero, Nat.reduceSub, Nat.reduceAdd, List.getElem?_cons_zero, List.getElem?_cons_succ, List.set_cons_zero, List.set_cons_succ, List.length_cons, List.length_nil, List.map_append])
  clear he e hi
  refine sp_random hg8 (by decide) (by omega) (by unfold Bd; omega) fun v g9 e v0 v1 hg9 he => ?_
  simp only [he]
  (try simp only [RP_varm, RP_holem, RP_c, RP_1, RP_2, RP_f, RP_nil, RP_cons, RP_if, RP_and, RP_or, RP_not, RP_B, RP_qt, RP_perm, RP_pn, RP_ps, RP_sl, RP_call, RP_src, RP_r1, RP_r2, RP_en, RP_lc, RP_yes,  SP_nx, SP_seq, SP_drop, SP_ret, SP_set, SP_if, SP_sub, SP_app, SP_tgt, SP_par, SP_for, FP_fn, OP_some, OP_map, OP_add, OP_sub, OP_mul, OP_fdiv, OP_fmod, OP_pow, OP_neg, OP_lt, OP_le, OP_gt, OP_ge, OP_eqi, OP_nei, OP_bits, OP_int, OP_intb, OP_tup, OP_lst, OP_lenl, OP_lent, OP_lenf, OP_abs, OP_max2, OP_min2, OP_gcd, OP_ixl, OP_ixt, OP_ixf, OP_cat, OP_rep, OP_subb, OP_gN, BQ_b, BP_t, BP_f, BP_d, BP_n, BP_eq, ↓reduceIte, Option.map_some, is_non_np, is_non_ng, is_non_tp, is_non_tg, is_non_fp, is_non_fg, is_bl_np, is_bl_ng, is_bl_tp, is_bl_tg, is_bl_fp, is_bl_fg, is_int_np, is_int_ng, is_int_tp, is_int_tg, is_int_fp, is_int_fg, is_str_np, is_str_ng, is_str_tp, is_str_tg, is_str_fp, is_str_fg, is_lst_np, is_lst_ng, is_lst_tp, is_lst_tg, is_lst_fp, is_lst_fg, is_tup_np, is_tup_ng, is_tup_tp, is_tup_tg, is_tup_fp, is_tup_fg, isi_non_int, isi_non_bool, isi_non_list, isi_non_tuple, isi_non_str, isi_non_dict, isi_non_lt, isi_bl_int, isi_bl_bool, isi_bl_list, isi_bl_tuple, isi_bl_str, isi_bl_dict, isi_bl_lt, isi_int_int, isi_int_bool, isi_int_list, isi_int_tuple, isi_int_str, isi_int_dict, isi_int_lt, isi_str_int, isi_str_bool, isi_str_list, isi_str_tuple, isi_str_str, isi_str_dict, isi_str_lt, isi_lst_int, isi_lst_bool, isi_lst_list, isi_lst_tuple, isi_lst_str, isi_lst_dict, isi_lst_lt, isi_tup_int, isi_tup_bool, isi_tup_list, isi_tup_tuple, isi_tup_str, isi_tup_dict, isi_tup_lt,  at0, at1, at2, at3, set0, set1, set2, setD_l, fillIO, putIO, ioN, permO, List.map_cons, List.map_nil, List.cons_append, List.nil_append, List.append_nil, List.replicate_succ, List.replicate_zero, Nat.reduceSub, Nat.reduceAdd, List.getElem?_cons_zero, List.getElem?_cons_succ, List.set_cons_zero, List.set_cons_succ, List.length_cons, List.length_nil, List.map_append])
  clear he e
  have hV : Bd 80 (1 + v) := by unfold Bd; omega
  have hU : Bd 80 (u - m) := by unfold Bd; omega
  have hB := zB.mul hV
  have hB0 : z * (1 + v) ≠ 0 := Int.mul_ne_zero z0 (by omega)
  refine ⟨by ((refine And.intro ?_ ?_ <;> ((apply Bd.big; (case h => repeat' (with_reducible first | assumption | (apply Bd.add) | (apply Bd.sub) | (apply Bd.mul) | (apply Bd.neg) | (apply Bd.abs) | (apply Bd.fdiv) | exact Bd.self _)); all_goals decide +kernel)))), hN _ ?_⟩
  clear hN
  generalize z * (1 + v) = bt at hB hB0 ⊢
  generalize u - m = nu at hU ⊢
  have hP0 : o2 * p2 ≠ 0 := Int.mul_ne_zero (by omega) (by omega)
  have hPB : Bd 7000 (o2 * p2) := (oB.mul pB).up (by decide)
  -- sums
  refine SP_seqI fun N hN => ?_
  (try simp only [RP_varm, RP_holem, RP_c, RP_1, RP_2, RP_f, RP_nil, RP_cons, RP_if, RP_and, RP_or, RP_not, RP_B, RP_qt, RP_perm, RP_pn, RP_ps, RP_sl, RP_call, RP_src, RP_r1, RP_r2, RP_en, RP_lc, RP_yes,  SP_nx, SP_seq, SP_drop, SP_ret, SP_set, SP_if, SP_sub, SP_app, SP_tgt, SP_par, SP_for, FP_fn, OP_some, OP_map, OP_add, OP_sub, OP_mul, OP_fdiv, OP_fmod, OP_pow, OP_neg, OP_lt, OP_le, OP_gt, OP_ge, OP_eqi, OP_nei, OP_bits, OP_int, OP_intb, OP_tup, OP_lst, OP_lenl, OP_lent, OP_lenf, OP_abs, OP_max2, OP_min2, OP_gcd, OP_ixl, OP_ixt, OP_ixf, OP_cat, OP_rep, OP_subb, OP_gN, BQ_b, BP_t, BP_f, BP_d, BP_n, BP_eq, ↓reduceIte, Option.map_some, is_non_np, is_non_ng, is_non_tp, is_non_tg, is_non_fp, is_non_fg, is_bl_np, is_bl_ng, is_bl_tp, is_bl_tg, is_bl_fp, is_bl_fg, is_int_np, is_int_ng, is_int_tp, is_int_tg, is_int_fp, is_int_fg, is_str_np, is_str_ng, is_str_tp, is_str_tg, is_str_fp, is_str_fg, is_lst_np, is_lst_ng, is_lst_tp, is_lst_tg, is_lst_fp, is_lst_fg, is_tup_np, is_tup_ng, is_tup_tp, is_tup_tg, is_tup_fp, is_tup_fg, isi_non_int, isi_non_bool, isi_non_list, isi_non_tuple, isi_non_str, isi_non_dict, isi_non_lt, isi_bl_int, isi_bl_bool, isi_bl_list, isi_bl_tuple, isi_bl_str, isi_bl_dict, isi_bl_lt, isi_int_int, isi_int_bool, isi_int_list, isi_int_tuple, isi_int_str, isi_int_dict, isi_int_lt, isi_str_int, isi_str_bool, isi_str_list, isi_str_tuple, isi_str_str, isi_str_dict, isi_str_lt, isi_lst_int, isi_lst_bool, isi_lst_list, isi_lst_tuple, isi_lst_str, isi_lst_dict, isi_lst_lt, isi_tup_int, isi_tup_bool, isi_tup_list, isi_tup_tuple, isi_tup_str, isi_tup_dict, isi_tup_lt,  at0, at1, at2, at3, set0, set1, set2, setD_l, fillIO, putIO, ioN, permO, List.map_cons, List.map_nil, List.cons_append, List.nil_append, List.append_nil, List.replicate_succ, List.replicate_zero, Nat.reduceSub, Nat.reduceAdd, List.getElem?_cons_zero, List.getElem?_cons_succ, List.set_cons_zero, List.set_cons_succ, List.length_cons, List.length_nil, List.map_append])
  refine ⟨by ((refine And.intro ?_ ?_ <;> ((apply Bd.big; (case h => repeat' (with_reducible first | assumption | (apply Bd.add) | (apply Bd.sub) | (apply Bd.mul) | (apply Bd.neg) | (apply Bd.abs) | (apply Bd.fdiv) | exact Bd.self _)); all_goals decide +kernel)))), by ((refine And.intro ?_ ?_ <;> ((apply Bd.big; (case h => repeat' (with_reducible first | assumption | (apply Bd.add) | (apply Bd.sub) | (apply Bd.mul) | (apply Bd.neg) | (apply Bd.abs) | (apply Bd.fdiv) | exact Bd.self _)); all_goals decide +kernel)))), by ((refine And.intro ?_ ?_ <;> ((apply Bd.big; (case h => repeat' (with_reducible first | assumption | (apply Bd.add) | (apply Bd.sub) | (apply Bd.mul) | (apply Bd.neg) | (apply Bd.abs) | (apply Bd.fdiv) | exact Bd.self _)); all_goals decide +kernel)))), sp_lawlowest hP0 (((oA.mul pB).add (pA.mul oB)).up (by decide)) hPB fun e => ?_⟩
  (try simp only [RP_varm, RP_holem, RP_c, RP_1, RP_2, RP_f, RP_nil, RP_cons, RP_if, RP_and, RP_or, RP_not, RP_B, RP_qt, RP_perm, RP_pn, RP_ps, RP_sl, RP_call, RP_src, RP_r1, RP_r2, RP_en, RP_lc, RP_yes,  SP_nx, SP_seq, SP_drop, SP_ret, SP_set, SP_if, SP_sub, SP_app, SP_tgt, SP_par, SP_for, FP_fn, OP_some, OP_map, OP_add, OP_sub, OP_mul, OP_fdiv, OP_fmod, OP_pow, OP_neg, OP_lt, OP_le, OP_gt, OP_ge, OP_eqi, OP_nei, OP_bits, OP_int, OP_intb, OP_tup, OP_lst, OP_lenl, OP_lent, OP_lenf, OP_abs, OP_max2, OP_min2, OP_gcd, OP_ixl, OP_ixt, OP_ixf, OP_cat, OP_rep, OP_subb, OP_gN, BQ_b, BP_t, BP_f, BP_d, BP_n, BP_eq, ↓reduceIte, Option.map_some, is_non_np, is_non_ng, is_non_tp, is_non_tg, is_non_fp, is_non_fg, is_bl_np, is_bl_ng, is_bl_tp, is_bl_tg, is_bl_fp, is_bl_fg, is_int_np, is_int_ng, is_int_tp, is_int_tg, is_int_fp, is_int_fg, is_str_np, is_str_ng, is_str_tp, is_str_tg, is_str_fp, is_str_fg, is_lst_np, is_lst_ng, is_lst_tp, is_lst_tg, is_lst_fp, is_lst_fg, is_tup_np, is_tup_ng, is_tup_tp, is_tup_tg, is_tup_fp, is_tup_fg, isi_non_int, isi_non_bool, isi_non_list, isi_non_tuple, isi_non_str, isi_non_dict, isi_non_lt, isi_bl_int, isi_bl_bool, isi_bl_list, isi_bl_tuple, isi_bl_str, isi_bl_dict, isi_bl_lt, isi_int_int, isi_int_bool, isi_int_list, isi_int_tuple, isi_int_str, isi_int_dict, isi_int_lt, isi_str_int, isi_str_bool, isi_str_list, isi_str_tuple, isi_str_str, isi_str_dict, isi_str_lt, isi_lst_int, isi_lst_bool, isi_lst_list, isi_lst_tuple, isi_lst_str, isi_lst_dict, isi_lst_lt, isi_tup_int, isi_tup_bool, isi_tup_list, isi_tup_tuple, isi_tup_str, isi_tup_dict, isi_tup_lt,  at0, at1, at2, at3, set0, set1, set2, setD_l, fillIO, putIO, ioN, permO, List.map_cons, List.map_nil, List.cons_append, List.nil_append, List.append_nil, List.replicate_succ, List.replicate_zero, Nat.reduceSub, Nat.reduceAdd, List.getElem?_cons_zero, List.getElem?_cons_succ, List.set_cons_zero, List.set_cons_succ, List.length_cons, List.length_nil, List.map_append])
  refine ⟨by ((refine And.intro ?_ ?_ <;> ((apply Bd.big; (case h => repeat' (with_reducible first | assumption | (apply Bd.add) | (apply Bd.sub) | (apply Bd.mul) | (apply Bd.neg) | (apply Bd.abs) | (apply Bd.fdiv) | exact Bd.self _)); all_goals decide +kernel)))), by ((refine And.intro ?_ ?_ <;> ((apply Bd.big; (case h => repeat' (with_reducible first | assumption | (apply Bd.add) | (apply Bd.sub) | (apply Bd.mul) | (apply Bd.neg) | (apply Bd.abs) | (apply Bd.fdiv) | exact Bd.self _)); all_goals decide +kernel)))), by ((refine And.intro ?_ ?_ <;> ((apply Bd.big; (case h => repeat' (with_reducible first | assumption | (apply Bd.add) | (apply Bd.sub) | (apply Bd.mul) | (apply Bd.neg) | (apply Bd.abs) | (apply Bd.fdiv) | exact Bd.self _)); all_goals decide +kernel)))), sp_lawlowest hP0 (((oA.mul pB).sub (pA.mul oB)).up (by decide)) hPB fun e => ?_⟩
  (try simp only [RP_varm, RP_holem, RP_c, RP_1, RP_2, RP_f, RP_nil, RP_cons, RP_if, RP_and, RP_or, RP_not, RP_B, RP_qt, RP_perm, RP_pn, RP_ps, RP_sl, RP_call, RP_src, RP_r1, RP_r2, RP_en, RP_lc, RP_yes,  SP_nx, SP_seq, SP_drop, SP_ret, SP_set, SP_if, SP_sub, SP_app, SP_tgt, SP_par, SP_for, FP_fn, OP_some, OP_map, OP_add, OP_sub, OP_mul, OP_fdiv, OP_fmod, OP_pow, OP_neg, OP_lt, OP_le, OP_gt, OP_ge, OP_eqi, OP_nei, OP_bits, OP_int, OP_intb, OP_tup, OP_lst, OP_lenl, OP_lent, OP_lenf, OP_abs, OP_max2, OP_min2, OP_gcd, OP_ixl, OP_ixt, OP_ixf, OP_cat, OP_rep, OP_subb, OP_gN, BQ_b, BP_t, BP_f, BP_d, BP_n, BP_eq, ↓reduceIte, Option.map_some, is_non_np, is_non_ng, is_non_tp, is_non_tg, is_non_fp, is_non_fg, is_bl_np, is_bl_ng, is_bl_tp, is_bl_tg, is_bl_fp, is_bl_fg, is_int_np, is_int_ng, is_int_tp, is_int_tg, is_int_fp, is_int_fg, is_str_np, is_str_ng, is_str_tp, is_str_tg, is_str_fp, is_str_fg, is_lst_np, is_lst_ng, is_lst_tp, is_lst_tg, is_lst_fp, is_lst_fg, is_tup_np, is_tup_ng, is_tup_tp, is_tup_tg, is_tup_fp, is_tup_fg, isi_non_int, isi_non_bool, isi_non_list, isi_non_tuple, isi_non_str, isi_non_dict, isi_non_lt, isi_bl_int, isi_bl_bool, isi_bl_list, isi_bl_tuple, isi_bl_str, isi_bl_dict, isi_bl_lt, isi_int_int, isi_int_bool, isi_int_list, isi_int_tuple, isi_int_str, isi_int_dict, isi_int_lt, isi_str_int, isi_str_bool, isi_str_list, isi_str_tuple, isi_str_str, isi_str_dict, isi_str_lt, isi_lst_int, isi_lst_bool, isi_lst_list, isi_lst_tuple, isi_lst_str, isi_lst_dict, isi_lst_lt, isi_tup_int, isi_tup_bool, isi_tup_list, isi_tup_tuple, isi_tup_str, isi_tup_dict, isi_tup_lt,  at0, at1, at2, at3, set0, set1, set2, setD_l, fillIO, putIO, ioN, permO, List.map_cons, List.map_nil, List.cons_append, List.nil_append, List.append_nil, List.replicate_succ, List.replicate_zero, Nat.reduceSub, Nat.reduceAdd, List.getElem?_cons_zero, List.getElem?_cons_succ, List.set_cons_zero, List.set_cons_succ, List.length_cons, List.length_nil, List.map_append])
  refine ⟨by decide, hN _ ?_⟩
  clear hN
  -- told
  refine SP_seqI fun N hN => ?_
  (try simp only [RP_varm, RP_holem, RP_c, RP_1, RP_2, RP_f, RP_nil, RP_cons, RP_if, RP_and, RP_or, RP_not, RP_B, RP_qt, RP_perm, RP_pn, RP_ps, RP_sl, RP_call, RP_src, RP_r1, RP_r2, RP_en, RP_lc, RP_yes,  SP_nx, SP_seq, SP_drop, SP_ret, SP_set, SP_if, SP_sub, SP_app, SP_tgt, SP_par, SP_for, FP_fn, OP_some, OP_map, OP_add, OP_sub, OP_mul, OP_fdiv, OP_fmod, OP_pow, OP_neg, OP_lt, OP_le, OP_gt, OP_ge, OP_eqi, OP_nei, OP_bits, OP_int, OP_intb, OP_tup, OP_lst, OP_lenl, OP_lent, OP_lenf, OP_abs, OP_max2, OP_min2, OP_gcd, OP_ixl, OP_ixt, OP_ixf, OP_cat, OP_rep, OP_subb, OP_gN, BQ_b, BP_t, BP_f, BP_d, BP_n, BP_eq, ↓reduceIte, Option.map_some, is_non_np, is_non_ng, is_non_tp, is_non_tg, is_non_fp, is_non_fg, is_bl_np, is_bl_ng, is_bl_tp, is_bl_tg, is_bl_fp, is_bl_fg, is_int_np, is_int_ng, is_int_tp, is_int_tg, is_int_fp, is_int_fg, is_str_np, is_str_ng, is_str_tp, is_str_tg, is_str_fp, is_str_fg, is_lst_np, is_lst_ng, is_lst_tp, is_lst_tg, is_lst_fp, is_lst_fg, is_tup_np, is_tup_ng, is_tup_tp, is_tup_tg, is_tup_fp, is_tup_fg, isi_non_int, isi_non_bool, isi_non_list, isi_non_tuple, isi_non_str, isi_non_dict, isi_non_lt, isi_bl_int, isi_bl_bool, isi_bl_list, isi_bl_tuple, isi_bl_str, isi_bl_dict, isi_bl_lt, isi_int_int, isi_int_bool, isi_int_list, isi_int_tuple, isi_int_str, isi_int_dict, isi_int_lt, isi_str_int, isi_str_bool, isi_str_list, isi_str_tuple, isi_str_str, isi_str_dict, isi_str_lt, isi_lst_int, isi_lst_bool, isi_lst_list, isi_lst_tuple, isi_lst_str, isi_lst_dict, isi_lst_lt, isi_tup_int, isi_tup_bool, isi_tup_list, isi_tup_tuple, isi_tup_str, isi_tup_dict, isi_tup_lt,  at0, at1, at2, at3, set0, set1, set2, setD_l, fillIO, putIO, ioN, permO, List.map_cons, List.map_nil, List.cons_append, List.nil_append, List.append_nil, List.replicate_succ, List.replicate_zero, Nat.reduceSub, Nat.reduceAdd, List.getElem?_cons_zero, List.getElem?_cons_succ, List.set_cons_zero, List.set_cons_succ, List.length_cons, List.length_nil, List.map_append])
  refine sp_lowest hB0 (hB.up (by decide)) fun e => ?_
  (try simp only [RP_varm, RP_holem, RP_c, RP_1, RP_2, RP_f, RP_nil, RP_cons, RP_if, RP_and, RP_or, RP_not, RP_B, RP_qt, RP_perm, RP_pn, RP_ps, RP_sl, RP_call, RP_src, RP_r1, RP_r2, RP_en, RP_lc, RP_yes,  SP_nx, SP_seq, SP_drop, SP_ret, SP_set, SP_if, SP_sub, SP_app, SP_tgt, SP_par, SP_for, FP_fn, OP_some, OP_map, OP_add, OP_sub, OP_mul, OP_fdiv, OP_fmod, OP_pow, OP_neg, OP_lt, OP_le, OP_gt, OP_ge, OP_eqi, OP_nei, OP_bits, OP_int, OP_intb, OP_tup, OP_lst, OP_lenl, OP_lent, OP_lenf, OP_abs, OP_max2, OP_min2, OP_gcd, OP_ixl, OP_ixt, OP_ixf, OP_cat, OP_rep, OP_subb, OP_gN, BQ_b, BP_t, BP_f, BP_d, BP_n, BP_eq, ↓reduceIte, Option.map_some, is_non_np, is_non_ng, is_non_tp, is_non_tg, is_non_fp, is_non_fg, is_bl_np, is_bl_ng, is_bl_tp, is_bl_tg, is_bl_fp, is_bl_fg, is_int_np, is_int_ng, is_int_tp, is_int_tg, is_int_fp, is_int_fg, is_str_np, is_str_ng, is_str_tp, is_str_tg, is_str_fp, is_str_fg, is_lst_np, is_lst_ng, is_lst_tp, is_lst_tg, is_lst_fp, is_lst_fg, is_tup_np, is_tup_ng, is_tup_tp, is_tup_tg, is_tup_fp, is_tup_fg, isi_non_int, isi_non_bool, isi_non_list, isi_non_tuple, isi_non_str, isi_non_dict, isi_non_lt, isi_bl_int, isi_bl_bool, isi_bl_list, isi_bl_tuple, isi_bl_str, isi_bl_dict, isi_bl_lt, isi_int_int, isi_int_bool, isi_int_list, isi_int_tuple, isi_int_str, isi_int_dict, isi_int_lt, isi_str_int, isi_str_bool, isi_str_list, isi_str_tuple, isi_str_str, isi_str_dict, isi_str_lt, isi_lst_int, isi_lst_bool, isi_lst_list, isi_lst_tuple, isi_lst_str, isi_lst_dict, isi_lst_lt, isi_tup_int, isi_tup_bool, isi_tup_list, isi_tup_tuple, isi_tup_str, isi_tup_dict, isi_tup_lt,  at0, at1, at2, at3, set0, set1, set2, setD_l, fillIO, putIO, ioN, permO, List.map_cons, List.map_nil, List.cons_append, List.nil_append, List.append_nil, List.replicate_succ, List.replicate_zero, Nat.reduceSub, Nat.reduceAdd, List.getElem?_cons_zero, List.getElem?_cons_succ, List.set_cons_zero, List.set_cons_succ, List.length_cons, List.length_nil, List.map_append])
  refine sp_plus oA oB pA pB (by omega) (by omega) fun e => ?_
  (try simp only [RP_varm, RP_holem, RP_c, RP_1, RP_2, RP_f, RP_nil, RP_cons, RP_if, RP_and, RP_or, RP_not, RP_B, RP_qt, RP_perm, RP_pn, RP_ps, RP_sl, RP_call, RP_src, RP_r1, RP_r2, RP_en, RP_lc, RP_yes,  SP_nx, SP_seq, SP_drop, SP_ret, SP_set, SP_if, SP_sub, SP_app, SP_tgt, SP_par, SP_for, FP_fn, OP_some, OP_map, OP_add, OP_sub, OP_mul, OP_fdiv, OP_fmod, OP_pow, OP_neg, OP_lt, OP_le, OP_gt, OP_ge, OP_eqi, OP_nei, OP_bits, OP_int, OP_intb, OP_tup, OP_lst, OP_lenl, OP_lent, OP_lenf, OP_abs, OP_max2, OP_min2, OP_gcd, OP_ixl, OP_ixt, OP_ixf, OP_cat, OP_rep, OP_subb, OP_gN, BQ_b, BP_t, BP_f, BP_d, BP_n, BP_eq, ↓reduceIte, Option.map_some, is_non_np, is_non_ng, is_non_tp, is_non_tg, is_non_fp, is_non_fg, is_bl_np, is_bl_ng, is_bl_tp, is_bl_tg, is_bl_fp, is_bl_fg, is_int_np, is_int_ng, is_int_tp, is_int_tg, is_int_fp, is_int_fg, is_str_np, is_str_ng, is_str_tp, is_str_tg, is_str_fp, is_str_fg, is_lst_np, is_lst_ng, is_lst_tp, is_lst_tg, is_lst_fp, is_lst_fg, is_tup_np, is_tup_ng, is_tup_tp, is_tup_tg, is_tup_fp, is_tup_fg, isi_non_int, isi_non_bool, isi_non_list, isi_non_tuple, isi_non_str, isi_non_dict, isi_non_lt, isi_bl_int, isi_bl_bool, isi_bl_list, isi_bl_tuple, isi_bl_str, isi_bl_dict, isi_bl_lt, isi_int_int, isi_int_bool, isi_int_list, isi_int_tuple, isi_int_str, isi_int_dict, isi_int_lt, isi_str_int, isi_str_bool, isi_str_list, isi_str_tuple, isi_str_str, isi_str_dict, isi_str_lt, isi_lst_int, isi_lst_bool, isi_lst_list, isi_lst_tuple, isi_lst_str, isi_lst_dict, isi_lst_lt, isi_tup_int, isi_tup_bool, isi_tup_list, isi_tup_tuple, isi_tup_str, isi_tup_dict, isi_tup_lt,  at0, at1, at2, at3, set0, set1, set2, setD_l, fillIO, putIO, ioN, permO, List.map_cons, List.map_nil, List.cons_append, List.nil_append, List.append_nil, List.replicate_succ, List.replicate_zero, Nat.reduceSub, Nat.reduceAdd, List.getElem?_cons_zero, List.getElem?_cons_succ, List.set_cons_zero, List.set_cons_succ, List.length_cons, List.length_nil, List.map_append])
  refine sp_minus oA oB pA pB (by omega) (by omega) fun e => ?_
  (try simp only [RP_varm, RP_holem, RP_c, RP_1, RP_2, RP_f, RP_nil, RP_cons, RP_if, RP_and, RP_or, RP_not, RP_B, RP_qt, RP_perm, RP_pn, RP_ps, RP_sl, RP_call, RP_src, RP_r1, RP_r2, RP_en, RP_lc, RP_yes,  SP_nx, SP_seq, SP_drop, SP_ret, SP_set, SP_if, SP_sub, SP_app, SP_tgt, SP_par, SP_for, FP_fn, OP_some, OP_map, OP_add, OP_sub, OP_mul, OP_fdiv, OP_fmod, OP_pow, OP_neg, OP_lt, OP_le, OP_gt, OP_ge, OP_eqi, OP_nei, OP_bits, OP_int, OP_intb, OP_tup, OP_lst, OP_lenl, OP_lent, OP_lenf, OP_abs, OP_max2, OP_min2, OP_gcd, OP_ixl, OP_ixt, OP_ixf, OP_cat, OP_rep, OP_subb, OP_gN, BQ_b, BP_t, BP_f, BP_d, BP_n, BP_eq, ↓reduceIte, Option.map_some, is_non_np, is_non_ng, is_non_tp, is_non_tg, is_non_fp, is_non_fg, is_bl_np, is_bl_ng, is_bl_tp, is_bl_tg, is_bl_fp, is_bl_fg, is_int_np, is_int_ng, is_int_tp, is_int_tg, is_int_fp, is_int_fg, is_str_np, is_str_ng, is_str_tp, is_str_tg, is_str_fp, is_str_fg, is_lst_np, is_lst_ng, is_lst_tp, is_lst_tg, is_lst_fp, is_lst_fg, is_tup_np, is_tup_ng, is_tup_tp, is_tup_tg, is_tup_fp, is_tup_fg, isi_non_int, isi_non_bool, isi_non_list, isi_non_tuple, isi_non_str, isi_non_dict, isi_non_lt, isi_bl_int, isi_bl_bool, isi_bl_list, isi_bl_tuple, isi_bl_str, isi_bl_dict, isi_bl_lt, isi_int_int, isi_int_bool, isi_int_list, isi_int_tuple, isi_int_str, isi_int_dict, isi_int_lt, isi_str_int, isi_str_bool, isi_str_list, isi_str_tuple, isi_str_str, isi_str_dict, isi_str_lt, isi_lst_int, isi_lst_bool, isi_lst_list, isi_lst_tuple, isi_lst_str, isi_lst_dict, isi_lst_lt, isi_tup_int, isi_tup_bool, isi_tup_list, isi_tup_tuple, isi_tup_str, isi_tup_dict, isi_tup_lt,  at0, at1, at2, at3, set0, set1, set2, setD_l, fillIO, putIO, ioN, permO, List.map_cons, List.map_nil, List.cons_append, List.nil_append, List.append_nil, List.replicate_succ, List.replicate_zero, Nat.reduceSub, Nat.reduceAdd, List.getElem?_cons_zero, List.getElem?_cons_succ, List.set_cons_zero, List.set_cons_succ, List.length_cons, List.length_nil, List.map_append])
  refine sp_times oA oB pA pB (by omega) (by omega) fun e => ?_
  (try simp only [RP_varm, RP_holem, RP_c, RP_1, RP_2, RP_f, RP_nil, RP_cons, RP_if, RP_and, RP_or, RP_not, RP_B, RP_qt, RP_perm, RP_pn, RP_ps, RP_sl, RP_call, RP_src, RP_r1, RP_r2, RP_en, RP_lc, RP_yes,  SP_nx, SP_seq, SP_drop, SP_ret, SP_set, SP_if, SP_sub, SP_app, SP_tgt, SP_par, SP_for, FP_fn, OP_some, OP_map, OP_add, OP_sub, OP_mul, OP_fdiv, OP_fmod, OP_pow, OP_neg, OP_lt, OP_le, OP_gt, OP_ge, OP_eqi, OP_nei, OP_bits, OP_int, OP_intb, OP_tup, OP_lst, OP_lenl, OP_lent, OP_lenf, OP_abs, OP_max2, OP_min2, OP_gcd, OP_ixl, OP_ixt, OP_ixf, OP_cat, OP_rep, OP_subb, OP_gN, BQ_b, BP_t, BP_f, BP_d, BP_n, BP_eq, ↓reduceIte, Option.map_some, is_non_np, is_non_ng, is_non_tp, is_non_tg, is_non_fp, is_non_fg, is_bl_np, is_bl_ng, is_bl_tp, is_bl_tg, is_bl_fp, is_bl_fg, is_int_np, is_int_ng, is_int_tp, is_int_tg, is_int_fp, is_int_fg, is_str_np, is_str_ng, is_str_tp, is_str_tg, is_str_fp, is_str_fg, is_lst_np, is_lst_ng, is_lst_tp, is_lst_tg, is_lst_fp, is_lst_fg, is_tup_np, is_tup_ng, is_tup_tp, is_tup_tg, is_tup_fp, is_tup_fg, isi_non_int, isi_non_bool, isi_non_list, isi_non_tuple, isi_non_str, isi_non_dict, isi_non_lt, isi_bl_int, isi_bl_bool, isi_bl_list, isi_bl_tuple, isi_bl_str, isi_bl_dict, isi_bl_lt, isi_int_int, isi_int_bool, isi_int_list, isi_int_tuple, isi_int_str, isi_int_dict, isi_int_lt, isi_str_int, isi_str_bool, isi_str_list, isi_str_tuple, isi_str_str, isi_str_dict, isi_str_lt, isi_lst_int, isi_lst_bool, isi_lst_list, isi_lst_tuple, isi_lst_str, isi_lst_dict, isi_lst_lt, isi_tup_int, isi_tup_bool, isi_tup_list, isi_tup_tuple, isi_tup_str, isi_tup_dict, isi_tup_lt,  at0, at1, at2, at3, set0, set1, set2, setD_l, fillIO, putIO, ioN, permO, List.map_cons, List.map_nil, List.cons_append, List.nil_append, List.append_nil, List.replicate_succ, List.replicate_zero, Nat.reduceSub, Nat.reduceAdd, List.getElem?_cons_zero, List.getElem?_cons_succ, List.set_cons_zero, List.set_cons_succ, List.length_cons, List.length_nil, List.map_append])
  refine sp_lowest hB0 (hB.up (by decide)) fun e => ?_
  (try simp only [RP_varm, RP_holem, RP_c, RP_1, RP_2, RP_f, RP_nil, RP_cons, RP_if, RP_and, RP_or, RP_not, RP_B, RP_qt, RP_perm, RP_pn, RP_ps, RP_sl, RP_call, RP_src, RP_r1, RP_r2, RP_en, RP_lc, RP_yes,  SP_nx, SP_seq, SP_drop, SP_ret, SP_set, SP_if, SP_sub, SP_app, SP_tgt, SP_par, SP_for, FP_fn, OP_some, OP_map, OP_add, OP_sub, OP_mul, OP_fdiv, OP_fmod, OP_pow, OP_neg, OP_lt, OP_le, OP_gt, OP_ge, OP_eqi, OP_nei, OP_bits, OP_int, OP_intb, OP_tup, OP_lst, OP_lenl, OP_lent, OP_lenf, OP_abs, OP_max2, OP_min2, OP_gcd, OP_ixl, OP_ixt, OP_ixf, OP_cat, OP_rep, OP_subb, OP_gN, BQ_b, BP_t, BP_f, BP_d, BP_n, BP_eq, ↓reduceIte, Option.map_some, is_non_np, is_non_ng, is_non_tp, is_non_tg, is_non_fp, is_non_fg, is_bl_np, is_bl_ng, is_bl_tp, is_bl_tg, is_bl_fp, is_bl_fg, is_int_np, is_int_ng, is_int_tp, is_int_tg, is_int_fp, is_int_fg, is_str_np, is_str_ng, is_str_tp, is_str_tg, is_str_fp, is_str_fg, is_lst_np, is_lst_ng, is_lst_tp, is_lst_tg, is_lst_fp, is_lst_fg, is_tup_np, is_tup_ng, is_tup_tp, is_tup_tg, is_tup_fp, is_tup_fg, isi_non_int, isi_non_bool, isi_non_list, isi_non_tuple, isi_non_str, isi_non_dict, isi_non_lt, isi_bl_int, isi_bl_bool, isi_bl_list, isi_bl_tuple, isi_bl_str, isi_bl_dict, isi_bl_lt, isi_int_int, isi_int_bool, isi_int_list, isi_int_tuple, isi_int_str, isi_int_dict, isi_int_lt, isi_str_int, isi_str_bool, isi_str_list, isi_str_tuple, isi_str_str, isi_str_dict, isi_str_lt, isi_lst_int, isi_lst_bool, isi_lst_list, isi_lst_tuple, isi_lst_str, isi_lst_dict, isi_lst_lt, isi_tup_int, isi_tup_bool, isi_tup_list, isi_tup_tuple, isi_tup_str, isi_tup_dict, isi_tup_lt,  at0, at1, at2, at3, set0, set1, set2, setD_l, fillIO, putIO, ioN, permO, List.map_cons, List.map_nil, List.cons_append, List.nil_append, List.append_nil, List.replicate_succ, List.replicate_zero, Nat.reduceSub, Nat.reduceAdd, List.getElem?_cons_zero, List.getElem?_cons_succ, List.set_cons_zero, List.set_cons_succ, List.length_cons, List.length_nil, List.map_append])
  refine sp_plus oA oB pA pB (by omega) (by omega) fun e => ?_
  (try simp only [RP_varm, RP_holem, RP_c, RP_1, RP_2, RP_f, RP_nil, RP_cons, RP_if, RP_and, RP_or, RP_not, RP_B, RP_qt, RP_perm, RP_pn, RP_ps, RP_sl, RP_call, RP_src, RP_r1, RP_r2, RP_en, RP_lc, RP_yes,  SP_nx, SP_seq, SP_drop, SP_ret, SP_set, SP_if, SP_sub, SP_app, SP_tgt, SP_par, SP_for, FP_fn, OP_some, OP_map, OP_add, OP_sub, OP_mul, OP_fdiv, OP_fmod, OP_pow, OP_neg, OP_lt, OP_le, OP_gt, OP_ge, OP_eqi, OP_nei, OP_bits, OP_int, OP_intb, OP_tup, OP_lst, OP_lenl, OP_lent, OP_lenf, OP_abs, OP_max2, OP_min2, OP_gcd, OP_ixl, OP_ixt, OP_ixf, OP_cat, OP_rep, OP_subb, OP_gN, BQ_b, BP_t, BP_f, BP_d, BP_n, BP_eq, ↓reduceIte, Option.map_some, is_non_np, is_non_ng, is_non_tp, is_non_tg, is_non_fp, is_non_fg, is_bl_np, is_bl_ng, is_bl_tp, is_bl_tg, is_bl_fp, is_bl_fg, is_int_np, is_int_ng, is_int_tp, is_int_tg, is_int_fp, is_int_fg, is_str_np, is_str_ng, is_str_tp, is_str_tg, is_str_fp, is_str_fg, is_lst_np, is_lst_ng, is_lst_tp, is_lst_tg, is_lst_fp, is_lst_fg, is_tup_np, is_tup_ng, is_tup_tp, is_tup_tg, is_tup_fp, is_tup_fg, isi_non_int, isi_non_bool, isi_non_list, isi_non_tuple, isi_non_str, isi_non_dict, isi_non_lt, isi_bl_int, isi_bl_bool, isi_bl_list, isi_bl_tuple, isi_bl_str, isi_bl_dict, isi_bl_lt, isi_int_int, isi_int_bool, isi_int_list, isi_int_tuple, isi_int_str, isi_int_dict, isi_int_lt, isi_str_int, isi_str_bool, isi_str_list, isi_str_tuple, isi_str_str, isi_str_dict, isi_str_lt, isi_lst_int, isi_lst_bool, isi_lst_list, isi_lst_tuple, isi_lst_str, isi_lst_dict, isi_lst_lt, isi_tup_int, isi_tup_bool, isi_tup_list, isi_tup_tuple, isi_tup_str, isi_tup_dict, isi_tup_lt,  at0, at1, at2, at3, set0, set1, set2, setD_l, fillIO, putIO, ioN, permO, List.map_cons, List.map_nil, List.cons_append, List.nil_append, List.append_nil, List.replicate_succ, List.replicate_zero, Nat.reduceSub, Nat.reduceAdd, List.getElem?_cons_zero, List.getElem?_cons_succ, List.set_cons_zero, List.set_cons_succ, List.length_cons, List.length_nil, List.map_append])
  refine ⟨by decide, hN _ ?_⟩
  clear hN
  -- are they so
  refine SP_seqI fun N hN => ?_
  (try simp only [RP_varm, RP_holem, RP_c, RP_1, RP_2, RP_f, RP_nil, RP_cons, RP_if, RP_and, RP_or, RP_not, RP_B, RP_qt, RP_perm, RP_pn, RP_ps, RP_sl, RP_call, RP_src, RP_r1, RP_r2, RP_en, RP_lc, RP_yes,  SP_nx, SP_seq, SP_drop, SP_ret, SP_set, SP_if, SP_sub, SP_app, SP_tgt, SP_par, SP_for, FP_fn, OP_some, OP_map, OP_add, OP_sub, OP_mul, OP_fdiv, OP_fmod, OP_pow, OP_neg, OP_lt, OP_le, OP_gt, OP_ge, OP_eqi, OP_nei, OP_bits, OP_int, OP_intb, OP_tup, OP_lst, OP_lenl, OP_lent, OP_lenf, OP_abs, OP_max2, OP_min2, OP_gcd, OP_ixl, OP_ixt, OP_ixf, OP_cat, OP_rep, OP_subb, OP_gN, BQ_b, BP_t, BP_f, BP_d, BP_n, BP_eq, ↓reduceIte, Option.map_some, is_non_np, is_non_ng, is_non_tp, is_non_tg, is_non_fp, is_non_fg, is_bl_np, is_bl_ng, is_bl_tp, is_bl_tg, is_bl_fp, is_bl_fg, is_int_np, is_int_ng, is_int_tp, is_int_tg, is_int_fp, is_int_fg, is_str_np, is_str_ng, is_str_tp, is_str_tg, is_str_fp, is_str_fg, is_lst_np, is_lst_ng, is_lst_tp, is_lst_tg, is_lst_fp, is_lst_fg, is_tup_np, is_tup_ng, is_tup_tp, is_tup_tg, is_tup_fp, is_tup_fg, isi_non_int, isi_non_bool, isi_non_list, isi_non_tuple, isi_non_str, isi_non_dict, isi_non_lt, isi_bl_int, isi_bl_bool, isi_bl_list, isi_bl_tuple, isi_bl_str, isi_bl_dict, isi_bl_lt, isi_int_int, isi_int_bool, isi_int_list, isi_int_tuple, isi_int_str, isi_int_dict, isi_int_lt, isi_str_int, isi_str_bool, isi_str_list, isi_str_tuple, isi_str_str, isi_str_dict, isi_str_lt, isi_lst_int, isi_lst_bool, isi_lst_list, isi_lst_tuple, isi_lst_str, isi_lst_dict, isi_lst_lt, isi_tup_int, isi_tup_bool, isi_tup_list, isi_tup_tuple, isi_tup_str, isi_tup_dict, isi_tup_lt,  at0, at1, at2, at3, set0, set1, set2, setD_l, fillIO, putIO, ioN, permO, List.map_cons, List.map_nil, List.cons_append, List.nil_append, List.append_nil, List.replicate_succ, List.replicate_zero, Nat.reduceSub, Nat.reduceAdd, List.getElem?_cons_zero, List.getElem?_cons_succ, List.set_cons_zero, List.set_cons_succ, List.length_cons, List.length_nil, List.map_append])
  refine sp_lawlowest hB0 (hU.up (by decide)) (hB.up (by decide)) fun e => ?_
  (try simp only [RP_varm, RP_holem, RP_c, RP_1, RP_2, RP_f, RP_nil, RP_cons, RP_if, RP_and, RP_or, RP_not, RP_B, RP_qt, RP_perm, RP_pn, RP_ps, RP_sl, RP_call, RP_src, RP_r1, RP_r2, RP_en, RP_lc, RP_yes,  SP_nx, SP_seq, SP_drop, SP_ret, SP_set, SP_if, SP_sub, SP_app, SP_tgt, SP_par, SP_for, FP_fn, OP_some, OP_map, OP_add, OP_sub, OP_mul, OP_fdiv, OP_fmod, OP_pow, OP_neg, OP_lt, OP_le, OP_gt, OP_ge, OP_eqi, OP_nei, OP_bits, OP_int, OP_intb, OP_tup, OP_lst, OP_lenl, OP_lent, OP_lenf, OP_abs, OP_max2, OP_min2, OP_gcd, OP_ixl, OP_ixt, OP_ixf, OP_cat, OP_rep, OP_subb, OP_gN, BQ_b, BP_t, BP_f, BP_d, BP_n, BP_eq, ↓reduceIte, Option.map_some, is_non_np, is_non_ng, is_non_tp, is_non_tg, is_non_fp, is_non_fg, is_bl_np, is_bl_ng, is_bl_tp, is_bl_tg, is_bl_fp, is_bl_fg, is_int_np, is_int_ng, is_int_tp, is_int_tg, is_int_fp, is_int_fg, is_str_np, is_str_ng, is_str_tp, is_str_tg, is_str_fp, is_str_fg, is_lst_np, is_lst_ng, is_lst_tp, is_lst_tg, is_lst_fp, is_lst_fg, is_tup_np, is_tup_ng, is_tup_tp, is_tup_tg, is_tup_fp, is_tup_fg, isi_non_int, isi_non_bool, isi_non_list, isi_non_tuple, isi_non_str, isi_non_dict, isi_non_lt, isi_bl_int, isi_bl_bool, isi_bl_list, isi_bl_tuple, isi_bl_str, isi_bl_dict, isi_bl_lt, isi_int_int, isi_int_bool, isi_int_list, isi_int_tuple, isi_int_str, isi_int_dict, isi_int_lt, isi_str_int, isi_str_bool, isi_str_list, isi_str_tuple, isi_str_str, isi_str_dict, isi_str_lt, isi_lst_int, isi_lst_bool, isi_lst_list, isi_lst_tuple, isi_lst_str, isi_lst_dict, isi_lst_lt, isi_tup_int, isi_tup_bool, isi_tup_list, isi_tup_tuple, isi_tup_str, isi_tup_dict, isi_tup_lt,  at0, at1, at2, at3, set0, set1, set2, setD_l, fillIO, putIO, ioN, permO, List.map_cons, List.map_nil, List.cons_append, List.nil_append, List.append_nil, List.replicate_succ, List.replicate_zero, Nat.reduceSub, Nat.reduceAdd, List.getElem?_cons_zero, List.getElem?_cons_succ, List.set_cons_zero, List.set_cons_succ, List.length_cons, List.length_nil, List.map_append])
  refine ⟨by decide, by decide, by ((refine And.intro ?_ ?_ <;> ((apply Bd.big; (case h => repeat' (with_reducible first | assumption | (apply Bd.add) | (apply Bd.sub) | (apply Bd.mul) | (apply Bd.neg) | (apply Bd.abs) | (apply Bd.fdiv) | exact Bd.self _)); all_goals decide +kernel)))), by ((refine And.intro ?_ ?_ <;> ((apply Bd.big; (case h => repeat' (with_reducible first | assumption | (apply Bd.add) | (apply Bd.sub) | (apply Bd.mul) | (apply Bd.neg) | (apply Bd.abs) | (apply Bd.fdiv) | exact Bd.self _)); all_goals decide +kernel)))), sp_lawlowest hP0 ((oA.mul pA).up (by decide)) hPB fun e => ?_⟩
  (try simp only [RP_varm, RP_holem, RP_c, RP_1, RP_2, RP_f, RP_nil, RP_cons, RP_if, RP_and, RP_or, RP_not, RP_B, RP_qt, RP_perm, RP_pn, RP_ps, RP_sl, RP_call, RP_src, RP_r1, RP_r2, RP_en, RP_lc, RP_yes,  SP_nx, SP_seq, SP_drop, SP_ret, SP_set, SP_if, SP_sub, SP_app, SP_tgt, SP_par, SP_for, FP_fn, OP_some, OP_map, OP_add, OP_sub, OP_mul, OP_fdiv, OP_fmod, OP_pow, OP_neg, OP_lt, OP_le, OP_gt, OP_ge, OP_eqi, OP_nei, OP_bits, OP_int, OP_intb, OP_tup, OP_lst, OP_lenl, OP_lent, OP_lenf, OP_abs, OP_max2, OP_min2, OP_gcd, OP_ixl, OP_ixt, OP_ixf, OP_cat, OP_rep, OP_subb, OP_gN, BQ_b, BP_t, BP_f, BP_d, BP_n, BP_eq, ↓reduceIte, Option.map_some, is_non_np, is_non_ng, is_non_tp, is_non_tg, is_non_fp, is_non_fg, is_bl_np, is_bl_ng, is_bl_tp, is_bl_tg, is_bl_fp, is_bl_fg, is_int_np, is_int_ng, is_int_tp, is_int_tg, is_int_fp, is_int_fg, is_str_np, is_str_ng, is_str_tp, is_str_tg, is_str_fp, is_str_fg, is_lst_np, is_lst_ng, is_lst_tp, is_lst_tg, is_lst_fp, is_lst_fg, is_tup_np, is_tup_ng, is_tup_tp, is_tup_tg, is_tup_fp, is_tup_fg, isi_non_int, isi_non_bool, isi_non_list, isi_non_tuple, isi_non_str, isi_non_dict, isi_non_lt, isi_bl_int, isi_bl_bool, isi_bl_list, isi_bl_tuple, isi_bl_str, isi_bl_dict, isi_bl_lt, isi_int_int, isi_int_bool, isi_int_list, isi_int_tuple, isi_int_str, isi_int_dict, isi_int_lt, isi_str_int, isi_str_bool, isi_str_list, isi_str_tuple, isi_str_str, isi_str_dict, isi_str_lt, isi_lst_int, isi_lst_bool, isi_lst_list, isi_lst_tuple, isi_lst_str, isi_lst_dict, isi_lst_lt, isi_tup_int, isi_tup_bool, isi_tup_list, isi_tup_tuple, isi_tup_str, isi_tup_dict, isi_tup_lt,  at0, at1, at2, at3, set0, set1, set2, setD_l, fillIO, putIO, ioN, permO, List.map_cons, List.map_nil, List.cons_append, List.nil_append, List.append_nil, List.replicate_succ, List.replicate_zero, Nat.reduceSub, Nat.reduceAdd, List.getElem?_cons_zero, List.getElem?_cons_succ, List.set_cons_zero, List.set_cons_succ, List.length_cons, List.length_nil, List.map_append])
  refine sp_lawlowest hB0 (hU.up (by decide)) (hB.up (by decide)) fun e => ?_
  (try simp only [RP_varm, RP_holem, RP_c, RP_1, RP_2, RP_f, RP_nil, RP_cons, RP_if, RP_and, RP_or, RP_not, RP_B, RP_qt, RP_perm, RP_pn, RP_ps, RP_sl, RP_call, RP_src, RP_r1, RP_r2, RP_en, RP_lc, RP_yes,  SP_nx, SP_seq, SP_drop, SP_ret, SP_set, SP_if, SP_sub, SP_app, SP_tgt, SP_par, SP_for, FP_fn, OP_some, OP_map, OP_add, OP_sub, OP_mul, OP_fdiv, OP_fmod, OP_pow, OP_neg, OP_lt, OP_le, OP_gt, OP_ge, OP_eqi, OP_nei, OP_bits, OP_int, OP_intb, OP_tup, OP_lst, OP_lenl, OP_lent, OP_lenf, OP_abs, OP_max2, OP_min2, OP_gcd, OP_ixl, OP_ixt, OP_ixf, OP_cat, OP_rep, OP_subb, OP_gN, BQ_b, BP_t, BP_f, BP_d, BP_n, BP_eq, ↓reduceIte, Option.map_some, is_non_np, is_non_ng, is_non_tp, is_non_tg, is_non_fp, is_non_fg, is_bl_np, is_bl_ng, is_bl_tp, is_bl_tg, is_bl_fp, is_bl_fg, is_int_np, is_int_ng, is_int_tp, is_int_tg, is_int_fp, is_int_fg, is_str_np, is_str_ng, is_str_tp, is_str_tg, is_str_fp, is_str_fg, is_lst_np, is_lst_ng, is_lst_tp, is_lst_tg, is_lst_fp, is_lst_fg, is_tup_np, is_tup_ng, is_tup_tp, is_tup_tg, is_tup_fp, is_tup_fg, isi_non_int, isi_non_bool, isi_non_list, isi_non_tuple, isi_non_str, isi_non_dict, isi_non_lt, isi_bl_int, isi_bl_bool, isi_bl_list, isi_bl_tuple, isi_bl_str, isi_bl_dict, isi_bl_lt, isi_int_int, isi_int_bool, isi_int_list, isi_int_tuple, isi_int_str, isi_int_dict, isi_int_lt, isi_str_int, isi_str_bool, isi_str_list, isi_str_tuple, isi_str_str, isi_str_dict, isi_str_lt, isi_lst_int, isi_lst_bool, isi_lst_list, isi_lst_tuple, isi_lst_str, isi_lst_dict, isi_lst_lt, isi_tup_int, isi_tup_bool, isi_tup_list, isi_tup_tuple, isi_tup_str, isi_tup_dict, isi_tup_lt,  at0, at1, at2, at3, set0, set1, set2, setD_l, fillIO, putIO, ioN, permO, List.map_cons, List.map_nil, List.cons_append, List.nil_append, List.append_nil, List.replicate_succ, List.replicate_zero, Nat.reduceSub, Nat.reduceAdd, List.getElem?_cons_zero, List.getElem?_cons_succ, List.set_cons_zero, List.set_cons_succ, List.length_cons, List.length_nil, List.map_append])
  refine ⟨by decide, by decide, FP_same (n := 40) ?_ rfl fun e => ?_⟩
  · exact ⟨(by decide : 6 ≤ lim), fun d h => by
      simp only [List.mem_cons, List.not_mem_nil, or_false] at h
      rcases h with h | h | h | h | h | h <;> subst h <;> exact low_ok⟩
  (try simp only [RP_varm, RP_holem, RP_c, RP_1, RP_2, RP_f, RP_nil, RP_cons, RP_if, RP_and, RP_or, RP_not, RP_B, RP_qt, RP_perm, RP_pn, RP_ps, RP_sl, RP_call, RP_src, RP_r1, RP_r2, RP_en, RP_lc, RP_yes,  SP_nx, SP_seq, SP_drop, SP_ret, SP_set, SP_if, SP_sub, SP_app, SP_tgt, SP_par, SP_for, FP_fn, OP_some, OP_map, OP_add, OP_sub, OP_mul, OP_fdiv, OP_fmod, OP_pow, OP_neg, OP_lt, OP_le, OP_gt, OP_ge, OP_eqi, OP_nei, OP_bits, OP_int, OP_intb, OP_tup, OP_lst, OP_lenl, OP_lent, OP_lenf, OP_abs, OP_max2, OP_min2, OP_gcd, OP_ixl, OP_ixt, OP_ixf, OP_cat, OP_rep, OP_subb, OP_gN, BQ_b, BP_t, BP_f, BP_d, BP_n, BP_eq, ↓reduceIte, Option.map_some, is_non_np, is_non_ng, is_non_tp, is_non_tg, is_non_fp, is_non_fg, is_bl_np, is_bl_ng, is_bl_tp, is_bl_tg, is_bl_fp, is_bl_fg, is_int_np, is_int_ng, is_int_tp, is_int_tg, is_int_fp, is_int_fg, is_str_np, is_str_ng, is_str_tp, is_str_tg, is_str_fp, is_str_fg, is_lst_np, is_lst_ng, is_lst_tp, is_lst_tg, is_lst_fp, is_lst_fg, is_tup_np, is_tup_ng, is_tup_tp, is_tup_tg, is_tup_fp, is_tup_fg, isi_non_int, isi_non_bool, isi_non_list, isi_non_tuple, isi_non_str, isi_non_dict, isi_non_lt, isi_bl_int, isi_bl_bool, isi_bl_list, isi_bl_tuple, isi_bl_str, isi_bl_dict, isi_bl_lt, isi_int_int, isi_int_bool, isi_int_list, isi_int_tuple, isi_int_str, isi_int_dict, isi_int_lt, isi_str_int, isi_str_bool, isi_str_list, isi_str_tuple, isi_str_str, isi_str_dict, isi_str_lt, isi_lst_int, isi_lst_bool, isi_lst_list, isi_lst_tuple, isi_lst_str, isi_lst_dict, isi_lst_lt, isi_tup_int, isi_tup_bool, isi_tup_list, isi_tup_tuple, isi_tup_str, isi_tup_dict, isi_tup_lt,  at0, at1, at2, at3, set0, set1, set2, setD_l, fillIO, putIO, ioN, permO, List.map_cons, List.map_nil, List.cons_append, List.nil_append, List.append_nil, List.replicate_succ, List.replicate_zero, Nat.reduceSub, Nat.reduceAdd, List.getElem?_cons_zero, List.getElem?_cons_succ, List.set_cons_zero, List.set_cons_succ, List.length_cons, List.length_nil, List.map_append])
  refine hN _ ?_
  clear hN
  -- over
  refine SP_seqI fun N hN => ?_
  (try simp only [RP_varm, RP_holem, RP_c, RP_1, RP_2, RP_f, RP_nil, RP_cons, RP_if, RP_and, RP_or, RP_not, RP_B, RP_qt, RP_perm, RP_pn, RP_ps, RP_sl, RP_call, RP_src, RP_r1, RP_r2, RP_en, RP_lc, RP_yes,  SP_nx, SP_seq, SP_drop, SP_ret, SP_set, SP_if, SP_sub, SP_app, SP_tgt, SP_par, SP_for, FP_fn, OP_some, OP_map, OP_add, OP_sub, OP_mul, OP_fdiv, OP_fmod, OP_pow, OP_neg, OP_lt, OP_le, OP_gt, OP_ge, OP_eqi, OP_nei, OP_bits, OP_int, OP_intb, OP_tup, OP_lst, OP_lenl, OP_lent, OP_lenf, OP_abs, OP_max2, OP_min2, OP_gcd, OP_ixl, OP_ixt, OP_ixf, OP_cat, OP_rep, OP_subb, OP_gN, BQ_b, BP_t, BP_f, BP_d, BP_n, BP_eq, ↓reduceIte, Option.map_some, is_non_np, is_non_ng, is_non_tp, is_non_tg, is_non_fp, is_non_fg, is_bl_np, is_bl_ng, is_bl_tp, is_bl_tg, is_bl_fp, is_bl_fg, is_int_np, is_int_ng, is_int_tp, is_int_tg, is_int_fp, is_int_fg, is_str_np, is_str_ng, is_str_tp, is_str_tg, is_str_fp, is_str_fg, is_lst_np, is_lst_ng, is_lst_tp, is_lst_tg, is_lst_fp, is_lst_fg, is_tup_np, is_tup_ng, is_tup_tp, is_tup_tg, is_tup_fp, is_tup_fg, isi_non_int, isi_non_bool, isi_non_list, isi_non_tuple, isi_non_str, isi_non_dict, isi_non_lt, isi_bl_int, isi_bl_bool, isi_bl_list, isi_bl_tuple, isi_bl_str, isi_bl_dict, isi_bl_lt, isi_int_int, isi_int_bool, isi_int_list, isi_int_tuple, isi_int_str, isi_int_dict, isi_int_lt, isi_str_int, isi_str_bool, isi_str_list, isi_str_tuple, isi_str_str, isi_str_dict, isi_str_lt, isi_lst_int, isi_lst_bool, isi_lst_list, isi_lst_tuple, isi_lst_str, isi_lst_dict, isi_lst_lt, isi_tup_int, isi_tup_bool, isi_tup_list, isi_tup_tuple, isi_tup_str, isi_tup_dict, isi_tup_lt,  at0, at1, at2, at3, set0, set1, set2, setD_l, fillIO, putIO, ioN, permO, List.map_cons, List.map_nil, List.cons_append, List.nil_append, List.append_nil, List.replicate_succ, List.replicate_zero, Nat.reduceSub, Nat.reduceAdd, List.getElem?_cons_zero, List.getElem?_cons_succ, List.set_cons_zero, List.set_cons_succ, List.length_cons, List.length_nil, List.map_append])
  refine (fun (h : N _) => ⟨fun _ => h, fun hp1 => ?_⟩) (hN _ ?_)
  rotate_left
  · refine sp_over oA oB pA pB (by omega) hp1 fun e => ?_
    (try simp only [RP_varm, RP_holem, RP_c, RP_1, RP_2, RP_f, RP_nil, RP_cons, RP_if, RP_and, RP_or, RP_not, RP_B, RP_qt, RP_perm, RP_pn, RP_ps, RP_sl, RP_call, RP_src, RP_r1, RP_r2, RP_en, RP_lc, RP_yes,  SP_nx, SP_seq, SP_drop, SP_ret, SP_set, SP_if, SP_sub, SP_app, SP_tgt, SP_par, SP_for, FP_fn, OP_some, OP_map, OP_add, OP_sub, OP_mul, OP_fdiv, OP_fmod, OP_pow, OP_neg, OP_lt, OP_le, OP_gt, OP_ge, OP_eqi, OP_nei, OP_bits, OP_int, OP_intb, OP_tup, OP_lst, OP_lenl, OP_lent, OP_lenf, OP_abs, OP_max2, OP_min2, OP_gcd, OP_ixl, OP_ixt, OP_ixf, OP_cat, OP_rep, OP_subb, OP_gN, BQ_b, BP_t, BP_f, BP_d, BP_n, BP_eq, ↓reduceIte, Option.map_some, is_non_np, is_non_ng, is_non_tp, is_non_tg, is_non_fp, is_non_fg, is_bl_np, is_bl_ng, is_bl_tp, is_bl_tg, is_bl_fp, is_bl_fg, is_int_np, is_int_ng, is_int_tp, is_int_tg, is_int_fp, is_int_fg, is_str_np, is_str_ng, is_str_tp, is_str_tg, is_str_fp, is_str_fg, is_lst_np, is_lst_ng, is_lst_tp, is_lst_tg, is_lst_fp, is_lst_fg, is_tup_np, is_tup_ng, is_tup_tp, is_tup_tg, is_tup_fp, is_tup_fg, isi_non_int, isi_non_bool, isi_non_list, isi_non_tuple, isi_non_str, isi_non_dict, isi_non_lt, isi_bl_int, isi_bl_bool, isi_bl_list, isi_bl_tuple, isi_bl_str, isi_bl_dict, isi_bl_lt, isi_int_int, isi_int_bool, isi_int_list, isi_int_tuple, isi_int_str, isi_int_dict, isi_int_lt, isi_str_int, isi_str_bool, isi_str_list, isi_str_tuple, isi_str_str, isi_str_dict, isi_str_lt, isi_lst_int, isi_lst_bool, isi_lst_list, isi_lst_tuple, isi_lst_str, isi_lst_dict, isi_lst_lt, isi_tup_int, isi_tup_bool, isi_tup_list, isi_tup_tuple, isi_tup_str, isi_tup_dict, isi_tup_lt,  at0, at1, at2, at3, set0, set1, set2, setD_l, fillIO, putIO, ioN, permO, List.map_cons, List.map_nil, List.cons_append, List.nil_append, List.append_nil, List.replicate_succ, List.replicate_zero, Nat.reduceSub, Nat.reduceAdd, List.getElem?_cons_zero, List.getElem?_cons_succ, List.set_cons_zero, List.set_cons_succ, List.length_cons, List.length_nil, List.map_append])
    refine sp_over oA oB pA pB (by omega) hp1 fun e => ?_
    (try simp only [RP_varm, RP_holem, RP_c, RP_1, RP_2, RP_f, RP_nil, RP_cons, RP_if, RP_and, RP_or, RP_not, RP_B, RP_qt, RP_perm, RP_pn, RP_ps, RP_sl, RP_call, RP_src, RP_r1, RP_r2, RP_en, RP_lc, RP_yes,  SP_nx, SP_seq, SP_drop, SP_ret, SP_set, SP_if, SP_sub, SP_app, SP_tgt, SP_par, SP_for, FP_fn, OP_some, OP_map, OP_add, OP_sub, OP_mul, OP_fdiv, OP_fmod, OP_pow, OP_neg, OP_lt, OP_le, OP_gt, OP_ge, OP_eqi, OP_nei, OP_bits, OP_int, OP_intb, OP_tup, OP_lst, OP_lenl, OP_lent, OP_lenf, OP_abs, OP_max2, OP_min2, OP_gcd, OP_ixl, OP_ixt, OP_ixf, OP_cat, OP_rep, OP_subb, OP_gN, BQ_b, BP_t, BP_f, BP_d, BP_n, BP_eq, ↓reduceIte, Option.map_some, is_non_np, is_non_ng, is_non_tp, is_non_tg, is_non_fp, is_non_fg, is_bl_np, is_bl_ng, is_bl_tp, is_bl_tg, is_bl_fp, is_bl_fg, is_int_np, is_int_ng, is_int_tp, is_int_tg, is_int_fp, is_int_fg, is_str_np, is_str_ng, is_str_tp, is_str_tg, is_str_fp, is_str_fg, is_lst_np, is_lst_ng, is_lst_tp, is_lst_tg, is_lst_fp, is_lst_fg, is_tup_np, is_tup_ng, is_tup_tp, is_tup_tg, is_tup_fp, is_tup_fg, isi_non_int, isi_non_bool, isi_non_list, isi_non_tuple, isi_non_str, isi_non_dict, isi_non_lt, isi_bl_int, isi_bl_bool, isi_bl_list, isi_bl_tuple, isi_bl_str, isi_bl_dict, isi_bl_lt, isi_int_int, isi_int_bool, isi_int_list, isi_int_tuple, isi_int_str, isi_int_dict, isi_int_lt, isi_str_int, isi_str_bool, isi_str_list, isi_str_tuple, isi_str_str, isi_str_dict, isi_str_lt, isi_lst_int, isi_lst_bool, isi_lst_list, isi_lst_tuple, isi_lst_str, isi_lst_dict, isi_lst_lt, isi_tup_int, isi_tup_bool, isi_tup_list, isi_tup_tuple, isi_tup_str, isi_tup_dict, isi_tup_lt,  at0, at1, at2, at3, set0, set1, set2, setD_l, fillIO, putIO, ioN, permO, List.map_cons, List.map_nil, List.cons_append, List.nil_append, List.append_nil, List.replicate_succ, List.replicate_zero, Nat.reduceSub, Nat.reduceAdd, List.getElem?_cons_zero, List.getElem?_cons_succ, List.set_cons_zero, List.set_cons_succ, List.length_cons, List.length_nil, List.map_append])
    have hQ0 : o2 * p1 ≠ 0 := Int.mul_ne_zero (by omega) hp1
    refine ⟨by decide, by ((refine And.intro ?_ ?_ <;> ((apply Bd.big; (case h => repeat' (with_reducible first | assumption | (apply Bd.add) | (apply Bd.sub) | (apply Bd.mul) | (apply Bd.neg) | (apply Bd.abs) | (apply Bd.fdiv) | exact Bd.self _)); all_goals decide +kernel)))), by ((refine And.intro ?_ ?_ <;> ((apply Bd.big; (case h => repeat' (with_reducible first | assumption | (apply Bd.add) | (apply Bd.sub) | (apply Bd.mul) | (apply Bd.neg) | (apply Bd.abs) | (apply Bd.fdiv) | exact Bd.self _)); all_goals decide +kernel)))), sp_lawlowest hQ0 ((oA.mul pB).up (by decide)) ((oB.mul pA).up (by decide)) fun e => ?_⟩
    (try simp only [RP_varm, RP_holem, RP_c, RP_1, RP_2, RP_f, RP_nil, RP_cons, RP_if, RP_and, RP_or, RP_not, RP_B, RP_qt, RP_perm, RP_pn, RP_ps, RP_sl, RP_call, RP_src, RP_r1, RP_r2, RP_en, RP_lc, RP_yes,  SP_nx, SP_seq, SP_drop, SP_ret, SP_set, SP_if, SP_sub, SP_app, SP_tgt, SP_par, SP_for, FP_fn, OP_some, OP_map, OP_add, OP_sub, OP_mul, OP_fdiv, OP_fmod, OP_pow, OP_neg, OP_lt, OP_le, OP_gt, OP_ge, OP_eqi, OP_nei, OP_bits, OP_int, OP_intb, OP_tup, OP_lst, OP_lenl, OP_lent, OP_lenf, OP_abs, OP_max2, OP_min2, OP_gcd, OP_ixl, OP_ixt, OP_ixf, OP_cat, OP_rep, OP_subb, OP_gN, BQ_b, BP_t, BP_f, BP_d, BP_n, BP_eq, ↓reduceIte, Option.map_some, is_non_np, is_non_ng, is_non_tp, is_non_tg, is_non_fp, is_non_fg, is_bl_np, is_bl_ng, is_bl_tp, is_bl_tg, is_bl_fp, is_bl_fg, is_int_np, is_int_ng, is_int_tp, is_int_tg, is_int_fp, is_int_fg, is_str_np, is_str_ng, is_str_tp, is_str_tg, is_str_fp, is_str_fg, is_lst_np, is_lst_ng, is_lst_tp, is_lst_tg, is_lst_fp, is_lst_fg, is_tup_np, is_tup_ng, is_tup_tp, is_tup_tg, is_tup_fp, is_tup_fg, isi_non_int, isi_non_bool, isi_non_list, isi_non_tuple, isi_non_str, isi_non_dict, isi_non_lt, isi_bl_int, isi_bl_bool, isi_bl_list, isi_bl_tuple, isi_bl_str, isi_bl_dict, isi_bl_lt, isi_int_int, isi_int_bool, isi_int_list, isi_int_tuple, isi_int_str, isi_int_dict, isi_int_lt, isi_str_int, isi_str_bool, isi_str_list, isi_str_tuple, isi_str_str, isi_str_dict, isi_str_lt, isi_lst_int, isi_lst_bool, isi_lst_list, isi_lst_tuple, isi_lst_str, isi_lst_dict, isi_lst_lt, isi_tup_int, isi_tup_bool, isi_tup_list, isi_tup_tuple, isi_tup_str, isi_tup_dict, isi_tup_lt,  at0, at1, at2, at3, set0, set1, set2, setD_l, fillIO, putIO, ioN, permO, List.map_cons, List.map_nil, List.cons_append, List.nil_append, List.append_nil, List.replicate_succ, List.replicate_zero, Nat.reduceSub, Nat.reduceAdd, List.getElem?_cons_zero, List.getElem?_cons_succ, List.set_cons_zero, List.set_cons_succ, List.length_cons, List.length_nil, List.map_append])
    refine ⟨by decide, by decide, FP_same (n := 40) ?_ rfl fun e => ?_⟩
    · exact ⟨(by decide : 2 ≤ lim), fun d h => by
        simp only [List.mem_cons, List.not_mem_nil, or_false] at h
        rcases h with h | h <;> subst h <;> exact low_ok⟩
    (try simp only [RP_varm, RP_holem, RP_c, RP_1, RP_2, RP_f, RP_nil, RP_cons, RP_if, RP_and, RP_or, RP_not, RP_B, RP_qt, RP_perm, RP_pn, RP_ps, RP_sl, RP_call, RP_src, RP_r1, RP_r2, RP_en, RP_lc, RP_yes,  SP_nx, SP_seq, SP_drop, SP_ret, SP_set, SP_if, SP_sub, SP_app, SP_tgt, SP_par, SP_for, FP_fn, OP_some, OP_map, OP_add, OP_sub, OP_mul, OP_fdiv, OP_fmod, OP_pow, OP_neg, OP_lt, OP_le, OP_gt, OP_ge, OP_eqi, OP_nei, OP_bits, OP_int, OP_intb, OP_tup, OP_lst, OP_lenl, OP_lent, OP_lenf, OP_abs, OP_max2, OP_min2, OP_gcd, OP_ixl, OP_ixt, OP_ixf, OP_cat, OP_rep, OP_subb, OP_gN, BQ_b, BP_t, BP_f, BP_d, BP_n, BP_eq, ↓reduceIte, Option.map_some, is_non_np, is_non_ng, is_non_tp, is_non_tg, is_non_fp, is_non_fg, is_bl_np, is_bl_ng, is_bl_tp, is_bl_tg, is_bl_fp, is_bl_fg, is_int_np, is_int_ng, is_int_tp, is_int_tg, is_int_fp, is_int_fg, is_str_np, is_str_ng, is_str_tp, is_str_tg, is_str_fp, is_str_fg, is_lst_np, is_lst_ng, is_lst_tp, is_lst_tg, is_lst_fp, is_lst_fg, is_tup_np, is_tup_ng, is_tup_tp, is_tup_tg, is_tup_fp, is_tup_fg, isi_non_int, isi_non_bool, isi_non_list, isi_non_tuple, isi_non_str, isi_non_dict, isi_non_lt, isi_bl_int, isi_bl_bool, isi_bl_list, isi_bl_tuple, isi_bl_str, isi_bl_dict, isi_bl_lt, isi_int_int, isi_int_bool, isi_int_list, isi_int_tuple, isi_int_str, isi_int_dict, isi_int_lt, isi_str_int, isi_str_bool, isi_str_list, isi_str_tuple, isi_str_str, isi_str_dict, isi_str_lt, isi_lst_int, isi_lst_bool, isi_lst_list, isi_lst_tuple, isi_lst_str, isi_lst_dict, isi_lst_lt, isi_tup_int, isi_tup_bool, isi_tup_list, isi_tup_tuple, isi_tup_str, isi_tup_dict, isi_tup_lt,  at0, at1, at2, at3, set0, set1, set2, setD_l, fillIO, putIO, ioN, permO, List.map_cons, List.map_nil, List.cons_append, List.nil_append, List.append_nil, List.replicate_succ, List.replicate_zero, Nat.reduceSub, Nat.reduceAdd, List.getElem?_cons_zero, List.getElem?_cons_succ, List.set_cons_zero, List.set_cons_succ, List.length_cons, List.length_nil, List.map_append])
    exact h
  clear hN
  -- compared
  refine SP_seqI fun N hN => ?_
  (try simp only [RP_varm, RP_holem, RP_c, RP_1, RP_2, RP_f, RP_nil, RP_cons, RP_if, RP_and, RP_or, RP_not, RP_B, RP_qt, RP_perm, RP_pn, RP_ps, RP_sl, RP_call, RP_src, RP_r1, RP_r2, RP_en, RP_lc, RP_yes,  SP_nx, SP_seq, SP_drop, SP_ret, SP_set, SP_if, SP_sub, SP_app, SP_tgt, SP_par, SP_for, FP_fn, OP_some, OP_map, OP_add, OP_sub, OP_mul, OP_fdiv, OP_fmod, OP_pow, OP_neg, OP_lt, OP_le, OP_gt, OP_ge, OP_eqi, OP_nei, OP_bits, OP_int, OP_intb, OP_tup, OP_lst, OP_lenl, OP_lent, OP_lenf, OP_abs, OP_max2, OP_min2, OP_gcd, OP_ixl, OP_ixt, OP_ixf, OP_cat, OP_rep, OP_subb, OP_gN, BQ_b, BP_t, BP_f, BP_d, BP_n, BP_eq, ↓reduceIte, Option.map_some, is_non_np, is_non_ng, is_non_tp, is_non_tg, is_non_fp, is_non_fg, is_bl_np, is_bl_ng, is_bl_tp, is_bl_tg, is_bl_fp, is_bl_fg, is_int_np, is_int_ng, is_int_tp, is_int_tg, is_int_fp, is_int_fg, is_str_np, is_str_ng, is_str_tp, is_str_tg, is_str_fp, is_str_fg, is_lst_np, is_lst_ng, is_lst_tp, is_lst_tg, is_lst_fp, is_lst_fg, is_tup_np, is_tup_ng, is_tup_tp, is_tup_tg, is_tup_fp, is_tup_fg, isi_non_int, isi_non_bool, isi_non_list, isi_non_tuple, isi_non_str, isi_non_dict, isi_non_lt, isi_bl_int, isi_bl_bool, isi_bl_list, isi_bl_tuple, isi_bl_str, isi_bl_dict, isi_bl_lt, isi_int_int, isi_int_bool, isi_int_list, isi_int_tuple, isi_int_str, isi_int_dict, isi_int_lt, isi_str_int, isi_str_bool, isi_str_list, isi_str_tuple, isi_str_str, isi_str_dict, isi_str_lt, isi_lst_int, isi_lst_bool, isi_lst_list, isi_lst_tuple, isi_lst_str, isi_lst_dict, isi_lst_lt, isi_tup_int, isi_tup_bool, isi_tup_list, isi_tup_tuple, isi_tup_str, isi_tup_dict, isi_tup_lt,  at0, at1, at2, at3, set0, set1, set2, setD_l, fillIO, putIO, ioN, permO, List.map_cons, List.map_nil, List.cons_append, List.nil_append, List.append_nil, List.replicate_succ, List.replicate_zero, Nat.reduceSub, Nat.reduceAdd, List.getElem?_cons_zero, List.getElem?_cons_succ, List.set_cons_zero, List.set_cons_succ, List.length_cons, List.length_nil, List.map_append])
  refine ⟨by ((refine And.intro ?_ ?_ <;> ((apply Bd.big; (case h => repeat' (with_reducible first | assumption | (apply Bd.add) | (apply Bd.sub) | (apply Bd.mul) | (apply Bd.neg) | (apply Bd.abs) | (apply Bd.fdiv) | exact Bd.self _)); all_goals decide +kernel)))), by ((refine And.intro ?_ ?_ <;> ((apply Bd.big; (case h => repeat' (with_reducible first | assumption | (apply Bd.add) | (apply Bd.sub) | (apply Bd.mul) | (apply Bd.neg) | (apply Bd.abs) | (apply Bd.fdiv) | exact Bd.self _)); all_goals decide +kernel)))), hN _ ?_⟩
  clear hN
  refine SP_seqI fun N hN => ?_
  (try simp only [RP_varm, RP_holem, RP_c, RP_1, RP_2, RP_f, RP_nil, RP_cons, RP_if, RP_and, RP_or, RP_not, RP_B, RP_qt, RP_perm, RP_pn, RP_ps, RP_sl, RP_call, RP_src, RP_r1, RP_r2, RP_en, RP_lc, RP_yes,  SP_nx, SP_seq, SP_drop, SP_ret, SP_set, SP_if, SP_sub, SP_app, SP_tgt, SP_par, SP_for, FP_fn, OP_some, OP_map, OP_add, OP_sub, OP_mul, OP_fdiv, OP_fmod, OP_pow, OP_neg, OP_lt, OP_le, OP_gt, OP_ge, OP_eqi, OP_nei, OP_bits, OP_int, OP_intb, OP_tup, OP_lst, OP_lenl, OP_lent, OP_lenf, OP_abs, OP_max2, OP_min2, OP_gcd, OP_ixl, OP_ixt, OP_ixf, OP_cat, OP_rep, OP_subb, OP_gN, BQ_b, BP_t, BP_f, BP_d, BP_n, BP_eq, ↓reduceIte, Option.map_some, is_non_np, is_non_ng, is_non_tp, is_non_tg, is_non_fp, is_non_fg, is_bl_np, is_bl_ng, is_bl_tp, is_bl_tg, is_bl_fp, is_bl_fg, is_int_np, is_int_ng, is_int_tp, is_int_tg, is_int_fp, is_int_fg, is_str_np, is_str_ng, is_str_tp, is_str_tg, is_str_fp, is_str_fg, is_lst_np, is_lst_ng, is_lst_tp, is_lst_tg, is_lst_fp, is_lst_fg, is_tup_np, is_tup_ng, is_tup_tp, is_tup_tg, is_tup_fp, is_tup_fg, isi_non_int, isi_non_bool, isi_non_list, isi_non_tuple, isi_non_str, isi_non_dict, isi_non_lt, isi_bl_int, isi_bl_bool, isi_bl_list, isi_bl_tuple, isi_bl_str, isi_bl_dict, isi_bl_lt, isi_int_int, isi_int_bool, isi_int_list, isi_int_tuple, isi_int_str, isi_int_dict, isi_int_lt, isi_str_int, isi_str_bool, isi_str_list, isi_str_tuple, isi_str_str, isi_str_dict, isi_str_lt, isi_lst_int, isi_lst_bool, isi_lst_list, isi_lst_tuple, isi_lst_str, isi_lst_dict, isi_lst_lt, isi_tup_int, isi_tup_bool, isi_tup_list, isi_tup_tuple, isi_tup_str, isi_tup_dict, isi_tup_lt,  at0, at1, at2, at3, set0, set1, set2, setD_l, fillIO, putIO, ioN, permO, List.map_cons, List.map_nil, List.cons_append, List.nil_append, List.append_nil, List.replicate_succ, List.replicate_zero, Nat.reduceSub, Nat.reduceAdd, List.getElem?_cons_zero, List.getElem?_cons_succ, List.set_cons_zero, List.set_cons_succ, List.length_cons, List.length_nil, List.map_append])
  refine hN _ ?_
  clear hN
  (try simp only [RP_varm, RP_holem, RP_c, RP_1, RP_2, RP_f, RP_nil, RP_cons, RP_if, RP_and, RP_or, RP_not, RP_B, RP_qt, RP_perm, RP_pn, RP_ps, RP_sl, RP_call, RP_src, RP_r1, RP_r2, RP_en, RP_lc, RP_yes,  SP_nx, SP_seq, SP_drop, SP_ret, SP_set, SP_if, SP_sub, SP_app, SP_tgt, SP_par, SP_for, FP_fn, OP_some, OP_map, OP_add, OP_sub, OP_mul, OP_fdiv, OP_fmod, OP_pow, OP_neg, OP_lt, OP_le, OP_gt, OP_ge, OP_eqi, OP_nei, OP_bits, OP_int, OP_intb, OP_tup, OP_lst, OP_lenl, OP_lent, OP_lenf, OP_abs, OP_max2, OP_min2, OP_gcd, OP_ixl, OP_ixt, OP_ixf, OP_cat, OP_rep, OP_subb, OP_gN, BQ_b, BP_t, BP_f, BP_d, BP_n, BP_eq, ↓reduceIte, Option.map_some, is_non_np, is_non_ng, is_non_tp, is_non_tg, is_non_fp, is_non_fg, is_bl_np, is_bl_ng, is_bl_tp, is_bl_tg, is_bl_fp, is_bl_fg, is_int_np, is_int_ng, is_int_tp, is_int_tg, is_int_fp, is_int_fg, is_str_np, is_str_ng, is_str_tp, is_str_tg, is_str_fp, is_str_fg, is_lst_np, is_lst_ng, is_lst_tp, is_lst_tg, is_lst_fp, is_lst_fg, is_tup_np, is_tup_ng, is_tup_tp, is_tup_tg, is_tup_fp, is_tup_fg, isi_non_int, isi_non_bool, isi_non_list, isi_non_tuple, isi_non_str, isi_non_dict, isi_non_lt, isi_bl_int, isi_bl_bool, isi_bl_list, isi_bl_tuple, isi_bl_str, isi_bl_dict, isi_bl_lt, isi_int_int, isi_int_bool, isi_int_list, isi_int_tuple, isi_int_str, isi_int_dict, isi_int_lt, isi_str_int, isi_str_bool, isi_str_list, isi_str_tuple, isi_str_str, isi_str_dict, isi_str_lt, isi_lst_int, isi_lst_bool, isi_lst_list, isi_lst_tuple, isi_lst_str, isi_lst_dict, isi_lst_lt, isi_tup_int, isi_tup_bool, isi_tup_list, isi_tup_tuple, isi_tup_str, isi_tup_dict, isi_tup_lt,  at0, at1, at2, at3, set0, set1, set2, setD_l, fillIO, putIO, ioN, permO, List.map_cons, List.map_nil, List.cons_append, List.nil_append, List.append_nil, List.replicate_succ, List.replicate_zero, Nat.reduceSub, Nat.reduceAdd, List.getElem?_cons_zero, List.getElem?_cons_succ, List.set_cons_zero, List.set_cons_succ, List.length_cons, List.length_nil, List.map_append])
  refine sp_compared oA oB pA pB fun e => ?_
  (try simp only [RP_varm, RP_holem, RP_c, RP_1, RP_2, RP_f, RP_nil, RP_cons, RP_if, RP_and, RP_or, RP_not, RP_B, RP_qt, RP_perm, RP_pn, RP_ps, RP_sl, RP_call, RP_src, RP_r1, RP_r2, RP_en, RP_lc, RP_yes,  SP_nx, SP_seq, SP_drop, SP_ret, SP_set, SP_if, SP_sub, SP_app, SP_tgt, SP_par, SP_for, FP_fn, OP_some, OP_map, OP_add, OP_sub, OP_mul, OP_fdiv, OP_fmod, OP_pow, OP_neg, OP_lt, OP_le, OP_gt, OP_ge, OP_eqi, OP_nei, OP_bits, OP_int, OP_intb, OP_tup, OP_lst, OP_lenl, OP_lent, OP_lenf, OP_abs, OP_max2, OP_min2, OP_gcd, OP_ixl, OP_ixt, OP_ixf, OP_cat, OP_rep, OP_subb, OP_gN, BQ_b, BP_t, BP_f, BP_d, BP_n, BP_eq, ↓reduceIte, Option.map_some, is_non_np, is_non_ng, is_non_tp, is_non_tg, is_non_fp, is_non_fg, is_bl_np, is_bl_ng, is_bl_tp, is_bl_tg, is_bl_fp, is_bl_fg, is_int_np, is_int_ng, is_int_tp, is_int_tg, is_int_fp, is_int_fg, is_str_np, is_str_ng, is_str_tp, is_str_tg, is_str_fp, is_str_fg, is_lst_np, is_lst_ng, is_lst_tp, is_lst_tg, is_lst_fp, is_lst_fg, is_tup_np, is_tup_ng, is_tup_tp, is_tup_tg, is_tup_fp, is_tup_fg, isi_non_int, isi_non_bool, isi_non_list, isi_non_tuple, isi_non_str, isi_non_dict, isi_non_lt, isi_bl_int, isi_bl_bool, isi_bl_list, isi_bl_tuple, isi_bl_str, isi_bl_dict, isi_bl_lt, isi_int_int, isi_int_bool, isi_int_list, isi_int_tuple, isi_int_str, isi_int_dict, isi_int_lt, isi_str_int, isi_str_bool, isi_str_list, isi_str_tuple, isi_str_str, isi_str_dict, isi_str_lt, isi_lst_int, isi_lst_bool, isi_lst_list, isi_lst_tuple, isi_lst_str, isi_lst_dict, isi_lst_lt, isi_tup_int, isi_tup_bool, isi_tup_list, isi_tup_tuple, isi_tup_str, isi_tup_dict, isi_tup_lt,  at0, at1, at2, at3, set0, set1, set2, setD_l, fillIO, putIO, ioN, permO, List.map_cons, List.map_nil, List.cons_append, List.nil_append, List.append_nil, List.replicate_succ, List.replicate_zero, Nat.reduceSub, Nat.reduceAdd, List.getElem?_cons_zero, List.getElem?_cons_succ, List.set_cons_zero, List.set_cons_succ, List.length_cons, List.length_nil, List.map_append])
  refine sp_compared pA pB oA oB fun e => ?_
  (try simp only [RP_varm, RP_holem, RP_c, RP_1, RP_2, RP_f, RP_nil, RP_cons, RP_if, RP_and, RP_or, RP_not, RP_B, RP_qt, RP_perm, RP_pn, RP_ps, RP_sl, RP_call, RP_src, RP_r1, RP_r2, RP_en, RP_lc, RP_yes,  SP_nx, SP_seq, SP_drop, SP_ret, SP_set, SP_if, SP_sub, SP_app, SP_tgt, SP_par, SP_for, FP_fn, OP_some, OP_map, OP_add, OP_sub, OP_mul, OP_fdiv, OP_fmod, OP_pow, OP_neg, OP_lt, OP_le, OP_gt, OP_ge, OP_eqi, OP_nei, OP_bits, OP_int, OP_intb, OP_tup, OP_lst, OP_lenl, OP_lent, OP_lenf, OP_abs, OP_max2, OP_min2, OP_gcd, OP_ixl, OP_ixt, OP_ixf, OP_cat, OP_rep, OP_subb, OP_gN, BQ_b, BP_t, BP_f, BP_d, BP_n, BP_eq, ↓reduceIte, Option.map_some, is_non_np, is_non_ng, is_non_tp, is_non_tg, is_non_fp, is_non_fg, is_bl_np, is_bl_ng, is_bl_tp, is_bl_tg, is_bl_fp, is_bl_fg, is_int_np, is_int_ng, is_int_tp, is_int_tg, is_int_fp, is_int_fg, is_str_np, is_str_ng, is_str_tp, is_str_tg, is_str_fp, is_str_fg, is_lst_np, is_lst_ng, is_lst_tp, is_lst_tg, is_lst_fp, is_lst_fg, is_tup_np, is_tup_ng, is_tup_tp, is_tup_tg, is_tup_fp, is_tup_fg, isi_non_int, isi_non_bool, isi_non_list, isi_non_tuple, isi_non_str, isi_non_dict, isi_non_lt, isi_bl_int, isi_bl_bool, isi_bl_list, isi_bl_tuple, isi_bl_str, isi_bl_dict, isi_bl_lt, isi_int_int, isi_int_bool, isi_int_list, isi_int_tuple, isi_int_str, isi_int_dict, isi_int_lt, isi_str_int, isi_str_bool, isi_str_list, isi_str_tuple, isi_str_str, isi_str_dict, isi_str_lt, isi_lst_int, isi_lst_bool, isi_lst_list, isi_lst_tuple, isi_lst_str, isi_lst_dict, isi_lst_lt, isi_tup_int, isi_tup_bool, isi_tup_list, isi_tup_tuple, isi_tup_str, isi_tup_dict, isi_tup_lt,  at0, at1, at2, at3, set0, set1, set2, setD_l, fillIO, putIO, ioN, permO, List.map_cons, List.map_nil, List.cons_append, List.nil_append, List.append_nil, List.replicate_succ, List.replicate_zero, Nat.reduceSub, Nat.reduceAdd, List.getElem?_cons_zero, List.getElem?_cons_succ, List.set_cons_zero, List.set_cons_succ, List.length_cons, List.length_nil, List.map_append])
  refine sp_compared oA oB oA oB fun e => ?_
  (try simp only [RP_varm, RP_holem, RP_c, RP_1, RP_2, RP_f, RP_nil, RP_cons, RP_if, RP_and, RP_or, RP_not, RP_B, RP_qt, RP_perm, RP_pn, RP_ps, RP_sl, RP_call, RP_src, RP_r1, RP_r2, RP_en, RP_lc, RP_yes,  SP_nx, SP_seq, SP_drop, SP_ret, SP_set, SP_if, SP_sub, SP_app, SP_tgt, SP_par, SP_for, FP_fn, OP_some, OP_map, OP_add, OP_sub, OP_mul, OP_fdiv, OP_fmod, OP_pow, OP_neg, OP_lt, OP_le, OP_gt, OP_ge, OP_eqi, OP_nei, OP_bits, OP_int, OP_intb, OP_tup, OP_lst, OP_lenl, OP_lent, OP_lenf, OP_abs, OP_max2, OP_min2, OP_gcd, OP_ixl, OP_ixt, OP_ixf, OP_cat, OP_rep, OP_subb, OP_gN, BQ_b, BP_t, BP_f, BP_d, BP_n, BP_eq, ↓reduceIte, Option.map_some, is_non_np, is_non_ng, is_non_tp, is_non_tg, is_non_fp, is_non_fg, is_bl_np, is_bl_ng, is_bl_tp, is_bl_tg, is_bl_fp, is_bl_fg, is_int_np, is_int_ng, is_int_tp, is_int_tg, is_int_fp, is_int_fg, is_str_np, is_str_ng, is_str_tp, is_str_tg, is_str_fp, is_str_fg, is_lst_np, is_lst_ng, is_lst_tp, is_lst_tg, is_lst_fp, is_lst_fg, is_tup_np, is_tup_ng, is_tup_tp, is_tup_tg, is_tup_fp, is_tup_fg, isi_non_int, isi_non_bool, isi_non_list, isi_non_tuple, isi_non_str, isi_non_dict, isi_non_lt, isi_bl_int, isi_bl_bool, isi_bl_list, isi_bl_tuple, isi_bl_str, isi_bl_dict, isi_bl_lt, isi_int_int, isi_int_bool, isi_int_list, isi_int_tuple, isi_int_str, isi_int_dict, isi_int_lt, isi_str_int, isi_str_bool, isi_str_list, isi_str_tuple, isi_str_str, isi_str_dict, isi_str_lt, isi_lst_int, isi_lst_bool, isi_lst_list, isi_lst_tuple, isi_lst_str, isi_lst_dict, isi_lst_lt, isi_tup_int, isi_tup_bool, isi_tup_list, isi_tup_tuple, isi_tup_str, isi_tup_dict, isi_tup_lt,  at0, at1, at2, at3, set0, set1, set2, setD_l, fillIO, putIO, ioN, permO, List.map_cons, List.map_nil, List.cons_append, List.nil_append, List.append_nil, List.replicate_succ, List.replicate_zero, Nat.reduceSub, Nat.reduceAdd, List.getElem?_cons_zero, List.getElem?_cons_succ, List.set_cons_zero, List.set_cons_succ, List.length_cons, List.length_nil, List.map_append])
  refine ⟨by decide, by decide, FP_same (n := 40) ?_ ?_ fun e => ?_⟩
  · exact ⟨(by decide : 3 ≤ lim), fun d h => by
      simp only [List.mem_cons, List.not_mem_nil, or_false] at h
      rcases h with h | h | h <;> subst h <;> exact trivial⟩
  · have h1 : ∀ x : Int, ((if decide (0 < x) = true then 1 else 0) - (if decide (x < 0) = true then 1 else 0) : Int) = sgn x := fun x => rfl
    have h2 : sgn (p1 * o2 - o1 * p2) = 0 - sgn (o1 * p2 - p1 * o2) := by
      rw [show p1 * o2 - o1 * p2 = -(o1 * p2 - p1 * o2) by omega]
      generalize o1 * p2 - p1 * o2 = x
      unfold sgn b2i
      rcases Int.lt_trichotomy x 0 with h | h | h
      · simp [h, show ¬ 0 < x by omega]
      · subst h; decide
      · simp [h, show ¬ x < 0 by omega]
    have h3 : sgn (o1 * o2 - o1 * o2) = 0 := by
      rw [Int.sub_self]; decide
    rw [h1, h2, h3]
  · exact q _
theorem law_true (ns : List Int) : FP (m_law [.fro (ns.map .int)]) fun d _ => d = .bl true := by
  unfold m_law b_law
  (try simp only [RP_varm, RP_holem, RP_c, RP_1, RP_2, RP_f, RP_nil, RP_cons, RP_if, RP_and, RP_or, RP_not, RP_B, RP_qt, RP_perm, RP_pn, RP_ps, RP_sl, RP_call, RP_src, RP_r1, RP_r2, RP_en, RP_lc, RP_yes,  SP_nx, SP_seq, SP_drop, SP_ret, SP_set, SP_if, SP_sub, SP_app, SP_tgt, SP_par, SP_for, FP_fn, OP_some, OP_map, OP_add, OP_sub, OP_mul, OP_fdiv, OP_fmod, OP_pow, OP_neg, OP_lt, OP_le, OP_gt, OP_ge, OP_eqi, OP_nei, OP_bits, OP_int, OP_intb, OP_tup, OP_lst, OP_lenl, OP_lent, OP_lenf, OP_abs, OP_max2, OP_min2, OP_gcd, OP_ixl, OP_ixt, OP_ixf, OP_cat, OP_rep, OP_subb, OP_gN, BQ_b, BP_t, BP_f, BP_d, BP_n, BP_eq, ↓reduceIte, Option.map_some, is_non_np, is_non_ng, is_non_tp, is_non_tg, is_non_fp, is_non_fg, is_bl_np, is_bl_ng, is_bl_tp, is_bl_tg, is_bl_fp, is_bl_fg, is_int_np, is_int_ng, is_int_tp, is_int_tg, is_int_fp, is_int_fg, is_str_np, is_str_ng, is_str_tp, is_str_tg, is_str_fp, is_str_fg, is_lst_np, is_lst_ng, is_lst_tp, is_lst_tg, is_lst_fp, is_lst_fg, is_tup_np, is_tup_ng, is_tup_tp, is_tup_tg, is_tup_fp, is_tup_fg, isi_non_int, isi_non_bool, isi_non_list, isi_non_tuple, isi_non_str, isi_non_dict, isi_non_lt, isi_bl_int, isi_bl_bool, isi_bl_list, isi_bl_tuple, isi_bl_str, isi_bl_dict, isi_bl_lt, isi_int_int, isi_int_bool, isi_int_list, isi_int_tuple, isi_int_str, isi_int_dict, isi_int_lt, isi_str_int, isi_str_bool, isi_str_list, isi_str_tuple, isi_str_str, isi_str_dict, isi_str_lt, isi_lst_int, isi_lst_bool, isi_lst_list, isi_lst_tuple, isi_lst_str, isi_lst_dict, isi_lst_lt, isi_tup_int, isi_tup_bool, isi_tup_list, isi_tup_tuple, isi_tup_str, isi_tup_dict, isi_tup_lt,  at0, at1, at2, at3, set0, set1, set2, setD_l, fillIO, putIO, ioN, permO, List.map_cons, List.map_nil, List.cons_append, List.nil_append, List.append_nil, List.replicate_succ, List.replicate_zero, Nat.reduceSub, Nat.reduceAdd, List.getElem?_cons_zero, List.getElem?_cons_succ, List.set_cons_zero, List.set_cons_succ, List.length_cons, List.length_nil, List.map_append])
  refine sp_case (k := 0) (by decide) fun e => ?_
  (try simp only [RP_varm, RP_holem, RP_c, RP_1, RP_2, RP_f, RP_nil, RP_cons, RP_if, RP_and, RP_or, RP_not, RP_B, RP_qt, RP_perm, RP_pn, RP_ps, RP_sl, RP_call, RP_src, RP_r1, RP_r2, RP_en, RP_lc, RP_yes,  SP_nx, SP_seq, SP_drop, SP_ret, SP_set, SP_if, SP_sub, SP_app, SP_tgt, SP_par, SP_for, FP_fn, OP_some, OP_map, OP_add, OP_sub, OP_mul, OP_fdiv, OP_fmod, OP_pow, OP_neg, OP_lt, OP_le, OP_gt, OP_ge, OP_eqi, OP_nei, OP_bits, OP_int, OP_intb, OP_tup, OP_lst, OP_lenl, OP_lent, OP_lenf, OP_abs, OP_max2, OP_min2, OP_gcd, OP_ixl, OP_ixt, OP_ixf, OP_cat, OP_rep, OP_subb, OP_gN, BQ_b, BP_t, BP_f, BP_d, BP_n, BP_eq, ↓reduceIte, Option.map_some, is_non_np, is_non_ng, is_non_tp, is_non_tg, is_non_fp, is_non_fg, is_bl_np, is_bl_ng, is_bl_tp, is_bl_tg, is_bl_fp, is_bl_fg, is_int_np, is_int_ng, is_int_tp, is_int_tg, is_int_fp, is_int_fg, is_str_np, is_str_ng, is_str_tp, is_str_tg, is_str_fp, is_str_fg, is_lst_np, is_lst_ng, is_lst_tp, is_lst_tg, is_lst_fp, is_lst_fg, is_tup_np, is_tup_ng, is_tup_tp, is_tup_tg, is_tup_fp, is_tup_fg, isi_non_int, isi_non_bool, isi_non_list, isi_non_tuple, isi_non_str, isi_non_dict, isi_non_lt, isi_bl_int, isi_bl_bool, isi_bl_list, isi_bl_tuple, isi_bl_str, isi_bl_dict, isi_bl_lt, isi_int_int, isi_int_bool, isi_int_list, isi_int_tuple, isi_int_str, isi_int_dict, isi_int_lt, isi_str_int, isi_str_bool, isi_str_list, isi_str_tuple, isi_str_str, isi_str_dict, isi_str_lt, isi_lst_int, isi_lst_bool, isi_lst_list, isi_lst_tuple, isi_lst_str, isi_lst_dict, isi_lst_lt, isi_tup_int, isi_tup_bool, isi_tup_list, isi_tup_tuple, isi_tup_str, isi_tup_dict, isi_tup_lt,  at0, at1, at2, at3, set0, set1, set2, setD_l, fillIO, putIO, ioN, permO, List.map_cons, List.map_nil, List.cons_append, List.nil_append, List.append_nil, List.replicate_succ, List.replicate_zero, Nat.reduceSub, Nat.reduceAdd, List.getElem?_cons_zero, List.getElem?_cons_succ, List.set_cons_zero, List.set_cons_succ, List.length_cons, List.length_nil, List.map_append])
  refine sp_case (k := 1) (by decide) fun e => ?_
  trivial
end M3

/-! PG -/
set_option Elab.async false
set_option linter.all false
set_option maxRecDepth 100000
set_option maxHeartbeats 4000000
namespace M3
open PySem PySem.Spec PyProof.Rows L2
theorem all_mk {l : PySem.W.OpenLaw} {w : World} {K : PySem.W.Frag} {h : Heap} {mg : Str → Option Value} {fa f0 f1 f2 f3 f4 f5 f6 f7 f8 f9 f10 f11 f12 f13 f14 f15 : Addr} (X : K.In h) (G : h.Ns mainGlobals mg) (hfa : mg "law" = some (.ref fa))
    {od0 od1 od2 od3 od4 od5 od6 od7 od8 od9 od10 od11 od12 od13 od14 od15 an0 an1 an2 an3 an4 an5 an6 an7 an8 an9 an10 an11 an12 an13 an14 an15 : Option Addr} {sl0 sl1 sl2 sl3 sl4 sl5 sl6 sl7 sl8 sl9 sl10 sl11 sl12 sl13 sl14 sl15 : Array (Option Value)} {oc0 oc1 oc2 oc3 oc4 oc5 oc6 oc7 oc8 oc9 oc10 oc11 oc12 oc13 oc14 oc15 kV0 kV1 kV2 kV3 kV4 kV5 kV6 kV7 kV8 kV9 kV10 kV11 kV12 kV13 kV14 kV15 dc0 dc1 dc2 dc3 dc4 dc5 dc6 dc7 dc8 dc9 dc10 dc11 dc12 dc13 dc14 dc15 pm0 pm1 pm2 pm3 pm4 pm5 pm6 pm7 pm8 pm9 pm10 pm11 pm12 pm13 pm14 pm15 cd0 cd1 cd2 cd3 cd4 cd5 cd6 cd7 cd8 cd9 cd10 cd11 cd12 cd13 cd14 cd15 ct0 ct1 ct2 ct3 ct4 ct5 ct6 ct7 ct8 ct9 ct10 ct11 ct12 ct13 ct14 ct15 : Value}
    (a0 : PySem.W.nsIn K mainGlobals "lowest" = some (some (.ref f0))) (l0 : K.lookup f0 = some ⟨oc0, od0, .func (PySem.W.fnOf "lowest" "lowest" (defArgs s_lowest) (defBody s_lowest) (defScope s_lowest) .none kV0 dc0 pm0 an0 cd0 ct0), sl0⟩) (c0 : PySem.W.codeIn K cd0 "lowest" = true) (k0 : PySem.W.keepIn K (.ref f0) = true)
    (a1 : PySem.W.nsIn K mainGlobals "plus" = some (some (.ref f1))) (l1 : K.lookup f1 = some ⟨oc1, od1, .func (PySem.W.fnOf "plus" "plus" (defArgs s_plus) (defBody s_plus) (defScope s_plus) .none kV1 dc1 pm1 an1 cd1 ct1), sl1⟩) (c1 : PySem.W.codeIn K cd1 "plus" = true) (k1 : PySem.W.keepIn K (.ref f1) = true)
    (a2 : PySem.W.nsIn K mainGlobals "minus" = some (some (.ref f2))) (l2 : K.lookup f2 = some ⟨oc2, od2, .func (PySem.W.fnOf "minus" "minus" (defArgs s_minus) (defBody s_minus) (defScope s_minus) .none kV2 dc2 pm2 an2 cd2 ct2), sl2⟩) (c2 : PySem.W.codeIn K cd2 "minus" = true) (k2 : PySem.W.keepIn K (.ref f2) = true)
    (a3 : PySem.W.nsIn K mainGlobals "times" = some (some (.ref f3))) (l3 : K.lookup f3 = some ⟨oc3, od3, .func (PySem.W.fnOf "times" "times" (defArgs s_times) (defBody s_times) (defScope s_times) .none kV3 dc3 pm3 an3 cd3 ct3), sl3⟩) (c3 : PySem.W.codeIn K cd3 "times" = true) (k3 : PySem.W.keepIn K (.ref f3) = true)
    (a4 : PySem.W.nsIn K mainGlobals "over" = some (some (.ref f4))) (l4 : K.lookup f4 = some ⟨oc4, od4, .func (PySem.W.fnOf "over" "over" (defArgs s_over) (defBody s_over) (defScope s_over) .none kV4 dc4 pm4 an4 cd4 ct4), sl4⟩) (c4 : PySem.W.codeIn K cd4 "over" = true) (k4 : PySem.W.keepIn K (.ref f4) = true)
    (a5 : PySem.W.nsIn K mainGlobals "compared" = some (some (.ref f5))) (l5 : K.lookup f5 = some ⟨oc5, od5, .func (PySem.W.fnOf "compared" "compared" (defArgs s_compared) (defBody s_compared) (defScope s_compared) .none kV5 dc5 pm5 an5 cd5 ct5), sl5⟩) (c5 : PySem.W.codeIn K cd5 "compared" = true) (k5 : PySem.W.keepIn K (.ref f5) = true)
    (a6 : PySem.W.nsIn K mainGlobals "_law_hash" = some (some (.ref f6))) (l6 : K.lookup f6 = some ⟨oc6, od6, .func (PySem.W.fnOf "_law_hash" "_law_hash" (defArgs s_law_hash) (defBody s_law_hash) (defScope s_law_hash) .none kV6 dc6 pm6 an6 cd6 ct6), sl6⟩) (c6 : PySem.W.codeIn K cd6 "_law_hash" = true) (k6 : PySem.W.keepIn K (.ref f6) = true)
    (a7 : PySem.W.nsIn K mainGlobals "_law_random" = some (some (.ref f7))) (l7 : K.lookup f7 = some ⟨oc7, od7, .func (PySem.W.fnOf "_law_random" "_law_random" (defArgs s_law_random) (defBody s_law_random) (defScope s_law_random) .none kV7 dc7 pm7 an7 cd7 ct7), sl7⟩) (c7 : PySem.W.codeIn K cd7 "_law_random" = true) (k7 : PySem.W.keepIn K (.ref f7) = true)
    (a8 : PySem.W.nsIn K mainGlobals "_law_cell" = some (some (.ref f8))) (l8 : K.lookup f8 = some ⟨oc8, od8, .func (PySem.W.fnOf "_law_cell" "_law_cell" (defArgs s_law_cell) (defBody s_law_cell) (defScope s_law_cell) .none kV8 dc8 pm8 an8 cd8 ct8), sl8⟩) (c8 : PySem.W.codeIn K cd8 "_law_cell" = true) (k8 : PySem.W.keepIn K (.ref f8) = true)
    (a9 : PySem.W.nsIn K mainGlobals "_law_generator" = some (some (.ref f9))) (l9 : K.lookup f9 = some ⟨oc9, od9, .func (PySem.W.fnOf "_law_generator" "_law_generator" (defArgs s_law_generator) (defBody s_law_generator) (defScope s_law_generator) .none kV9 dc9 pm9 an9 cd9 ct9), sl9⟩) (c9 : PySem.W.codeIn K cd9 "_law_generator" = true) (k9 : PySem.W.keepIn K (.ref f9) = true)
    (a10 : PySem.W.nsIn K mainGlobals "_law_pick" = some (some (.ref f10))) (l10 : K.lookup f10 = some ⟨oc10, od10, .func (PySem.W.fnOf "_law_pick" "_law_pick" (defArgs s_law_pick) (defBody s_law_pick) (defScope s_law_pick) .none kV10 dc10 pm10 an10 cd10 ct10), sl10⟩) (c10 : PySem.W.codeIn K cd10 "_law_pick" = true) (k10 : PySem.W.keepIn K (.ref f10) = true)
    (a11 : PySem.W.nsIn K mainGlobals "_law_same" = some (some (.ref f11))) (l11 : K.lookup f11 = some ⟨oc11, od11, .func (PySem.W.fnOf "_law_same" "_law_same" (defArgs s_law_same) (defBody s_law_same) (defScope s_law_same) .none kV11 dc11 pm11 an11 cd11 ct11), sl11⟩) (c11 : PySem.W.codeIn K cd11 "_law_same" = true) (k11 : PySem.W.keepIn K (.ref f11) = true)
    (a12 : PySem.W.nsIn K mainGlobals "_law_common" = some (some (.ref f12))) (l12 : K.lookup f12 = some ⟨oc12, od12, .func (PySem.W.fnOf "_law_common" "_law_common" (defArgs s_law_common) (defBody s_law_common) (defScope s_law_common) .none kV12 dc12 pm12 an12 cd12 ct12), sl12⟩) (c12 : PySem.W.codeIn K cd12 "_law_common" = true) (k12 : PySem.W.keepIn K (.ref f12) = true)
    (a13 : PySem.W.nsIn K mainGlobals "_law_lowest" = some (some (.ref f13))) (l13 : K.lookup f13 = some ⟨oc13, od13, .func (PySem.W.fnOf "_law_lowest" "_law_lowest" (defArgs s_law_lowest) (defBody s_law_lowest) (defScope s_law_lowest) .none kV13 dc13 pm13 an13 cd13 ct13), sl13⟩) (c13 : PySem.W.codeIn K cd13 "_law_lowest" = true) (k13 : PySem.W.keepIn K (.ref f13) = true)
    (a14 : PySem.W.nsIn K mainGlobals "_law_case_right" = some (some (.ref f14))) (l14 : K.lookup f14 = some ⟨oc14, od14, .func (PySem.W.fnOf "_law_case_right" "_law_case_right" (defArgs s_law_case_right) (defBody s_law_case_right) (defScope s_law_case_right) .none kV14 dc14 pm14 an14 cd14 ct14), sl14⟩) (c14 : PySem.W.codeIn K cd14 "_law_case_right" = true) (k14 : PySem.W.keepIn K (.ref f14) = true)
    (a15 : PySem.W.nsIn K mainGlobals "law" = some (some (.ref f15))) (l15 : K.lookup f15 = some ⟨oc15, od15, .func (PySem.W.fnOf "law" "law" (defArgs s_law) (defBody s_law) (defScope s_law) .none kV15 dc15 pm15 an15 cd15 ct15), sl15⟩) (c15 : PySem.W.codeIn K cd15 "law" = true) (k15 : PySem.W.keepIn K (.ref f15) = true)
    (z_abs : PySem.W.nsIn K mainGlobals "abs" = some none) (z_bool : PySem.W.nsIn K mainGlobals "bool" = some none) (z_dict : PySem.W.nsIn K mainGlobals "dict" = some none) (z_int : PySem.W.nsIn K mainGlobals "int" = some none) (z_isinstance : PySem.W.nsIn K mainGlobals "isinstance" = some none) (z_len : PySem.W.nsIn K mainGlobals "len" = some none) (z_list : PySem.W.nsIn K mainGlobals "list" = some none) (z_max : PySem.W.nsIn K mainGlobals "max" = some none) (z_range : PySem.W.nsIn K mainGlobals "range" = some none) (z_str : PySem.W.nsIn K mainGlobals "str" = some none) (z_sum : PySem.W.nsIn K mainGlobals "sum" = some none) (z_tuple : PySem.W.nsIn K mainGlobals "tuple" = some none) (z_gcd : PySem.W.nsIn K mainGlobals "gcd" = some (some (.builtin "math.gcd"))) :
    ∃ fd : FuncData, (∀ (s : Shared) (v : Value), BindsTo s fd ⟨[v], []⟩ [("script", v)]) ∧ ∀ base : Heap, K.In base → base.Ns mainGlobals mg → FnOk l.prog w K mg base (L2.CX l.prog w) 42 fa fd ["script"] (spM K [] [0] 0 1 m_law) := by
  have e := hfa.symm.trans (PySem.W.mg_of X G a15)
  cases e
  have F0 := fun_mk (st := s_lowest) l0 c0 k0
  have F1 := fun_mk (st := s_plus) l1 c1 k1
  have F2 := fun_mk (st := s_minus) l2 c2 k2
  have F3 := fun_mk (st := s_times) l3 c3 k3
  have F4 := fun_mk (st := s_over) l4 c4 k4
  have F5 := fun_mk (st := s_compared) l5 c5 k5
  have F6 := fun_mk (st := s_law_hash) l6 c6 k6
  have F7 := fun_mk (st := s_law_random) l7 c7 k7
  have F8 := fun_mk (st := s_law_cell) l8 c8 k8
  have F9 := fun_mk (st := s_law_generator) l9 c9 k9
  have F10 := fun_mk (st := s_law_pick) l10 c10 k10
  have F11 := fun_mk (st := s_law_same) l11 c11 k11
  have F12 := fun_mk (st := s_law_common) l12 c12 k12
  have F13 := fun_mk (st := s_law_lowest) l13 c13 k13
  have F14 := fun_mk (st := s_law_case_right) l14 c14 k14
  have F15 := fun_mk (st := s_law) l15 c15 k15
  let A : Ad := ⟨f0, PySem.W.fnOf "lowest" "lowest" (defArgs s_lowest) (defBody s_lowest) (defScope s_lowest) .none kV0 dc0 pm0 an0 cd0 ct0, f1, PySem.W.fnOf "plus" "plus" (defArgs s_plus) (defBody s_plus) (defScope s_plus) .none kV1 dc1 pm1 an1 cd1 ct1, f2, PySem.W.fnOf "minus" "minus" (defArgs s_minus) (defBody s_minus) (defScope s_minus) .none kV2 dc2 pm2 an2 cd2 ct2, f3, PySem.W.fnOf "times" "times" (defArgs s_times) (defBody s_times) (defScope s_times) .none kV3 dc3 pm3 an3 cd3 ct3, f4, PySem.W.fnOf "over" "over" (defArgs s_over) (defBody s_over) (defScope s_over) .none kV4 dc4 pm4 an4 cd4 ct4, f5, PySem.W.fnOf "compared" "compared" (defArgs s_compared) (defBody s_compared) (defScope s_compared) .none kV5 dc5 pm5 an5 cd5 ct5, f6, PySem.W.fnOf "_law_hash" "_law_hash" (defArgs s_law_hash) (defBody s_law_hash) (defScope s_law_hash) .none kV6 dc6 pm6 an6 cd6 ct6, f7, PySem.W.fnOf "_law_random" "_law_random" (defArgs s_law_random) (defBody s_law_random) (defScope s_law_random) .none kV7 dc7 pm7 an7 cd7 ct7, f8, PySem.W.fnOf "_law_cell" "_law_cell" (defArgs s_law_cell) (defBody s_law_cell) (defScope s_law_cell) .none kV8 dc8 pm8 an8 cd8 ct8, f9, PySem.W.fnOf "_law_generator" "_law_generator" (defArgs s_law_generator) (defBody s_law_generator) (defScope s_law_generator) .none kV9 dc9 pm9 an9 cd9 ct9, f10, PySem.W.fnOf "_law_pick" "_law_pick" (defArgs s_law_pick) (defBody s_law_pick) (defScope s_law_pick) .none kV10 dc10 pm10 an10 cd10 ct10, f11, PySem.W.fnOf "_law_same" "_law_same" (defArgs s_law_same) (defBody s_law_same) (defScope s_law_same) .none kV11 dc11 pm11 an11 cd11 ct11, f12, PySem.W.fnOf "_law_common" "_law_common" (defArgs s_law_common) (defBody s_law_common) (defScope s_law_common) .none kV12 dc12 pm12 an12 cd12 ct12, f13, PySem.W.fnOf "_law_lowest" "_law_lowest" (defArgs s_law_lowest) (defBody s_law_lowest) (defScope s_law_lowest) .none kV13 dc13 pm13 an13 cd13 ct13, f14, PySem.W.fnOf "_law_case_right" "_law_case_right" (defArgs s_law_case_right) (defBody s_law_case_right) (defScope s_law_case_right) .none kV14 dc14 pm14 an14 cd14 ct14, fa, PySem.W.fnOf "law" "law" (defArgs s_law) (defBody s_law) (defScope s_law) .none kV15 dc15 pm15 an15 cd15 ct15⟩
  have T : GF K mg A := ⟨F0, PySem.W.mg_of X G a0, F0.binds (ps := ["number", "bottom"]) fun _ _ _ _ _ _ us hl => match us, hl with | [_, _], _ => rfl,
    F1, PySem.W.mg_of X G a1, F1.binds (ps := ["one", "other"]) fun _ _ _ _ _ _ us hl => match us, hl with | [_, _], _ => rfl,
    F2, PySem.W.mg_of X G a2, F2.binds (ps := ["one", "other"]) fun _ _ _ _ _ _ us hl => match us, hl with | [_, _], _ => rfl,
    F3, PySem.W.mg_of X G a3, F3.binds (ps := ["one", "other"]) fun _ _ _ _ _ _ us hl => match us, hl with | [_, _], _ => rfl,
    F4, PySem.W.mg_of X G a4, F4.binds (ps := ["one", "other"]) fun _ _ _ _ _ _ us hl => match us, hl with | [_, _], _ => rfl,
    F5, PySem.W.mg_of X G a5, F5.binds (ps := ["one", "other"]) fun _ _ _ _ _ _ us hl => match us, hl with | [_, _], _ => rfl,
    F6, PySem.W.mg_of X G a6, F6.binds (ps := ["seed", "index"]) fun _ _ _ _ _ _ us hl => match us, hl with | [_, _], _ => rfl,
    F7, PySem.W.mg_of X G a7, F7.binds (ps := ["generator", "bound"]) fun _ _ _ _ _ _ us hl => match us, hl with | [_, _], _ => rfl,
    F8, PySem.W.mg_of X G a8, F8.binds (ps := ["script", "index"]) fun _ _ _ _ _ _ us hl => match us, hl with | [_, _], _ => rfl,
    F9, PySem.W.mg_of X G a9, F9.binds (ps := ["script", "index"]) fun _ _ _ _ _ _ us hl => match us, hl with | [_, _], _ => rfl,
    F10, PySem.W.mg_of X G a10, F10.binds (ps := ["generator", "things"]) fun _ _ _ _ _ _ us hl => match us, hl with | [_, _], _ => rfl,
    F11, PySem.W.mg_of X G a11, F11.binds (ps := ["told", "due"]) fun _ _ _ _ _ _ us hl => match us, hl with | [_, _], _ => rfl,
    F12, PySem.W.mg_of X G a12, F12.binds (ps := ["one", "other"]) fun _ _ _ _ _ _ us hl => match us, hl with | [_, _], _ => rfl,
    F13, PySem.W.mg_of X G a13, F13.binds (ps := ["number", "bottom"]) fun _ _ _ _ _ _ us hl => match us, hl with | [_, _], _ => rfl,
    F14, PySem.W.mg_of X G a14, F14.binds (ps := ["script", "index"]) fun _ _ _ _ _ _ us hl => match us, hl with | [_, _], _ => rfl,
    F15, PySem.W.mg_of X G a15, F15.binds (ps := ["script"]) fun _ _ _ _ _ _ us hl => match us, hl with | [_], _ => rfl,
    PySem.W.mg_none_of X G z_abs,
    PySem.W.mg_none_of X G z_bool,
    PySem.W.mg_none_of X G z_dict,
    PySem.W.mg_none_of X G z_int,
    PySem.W.mg_none_of X G z_isinstance,
    PySem.W.mg_none_of X G z_len,
    PySem.W.mg_none_of X G z_list,
    PySem.W.mg_none_of X G z_max,
    PySem.W.mg_none_of X G z_range,
    PySem.W.mg_none_of X G z_str,
    PySem.W.mg_none_of X G z_sum,
    PySem.W.mg_none_of X G z_tuple,
    PySem.W.mg_of X G z_gcd⟩
  exact ⟨_, fun s v => .of_eq rfl, fun base _ _ => ok_law (A := A) T⟩
end M3
open PySem PySem.W PyProof.Rows
set_option maxHeartbeats 0 in
theorem PySem.Challenge.cw_whobetter_k02_fractions_holds : PySem.Challenge.rw_whobetter_k02_fractions.Holds := by
  w_on; o_law; k_head; (case hw => w_witness2)
  k_fill
  refine L2.walk_of (l := PySem.Challenge.rw_whobetter_k02_fractions) (n := 63) (k := 42) (x := "script") (CX := fun w => L2.CX PySem.Challenge.rw_whobetter_k02_fractions.prog w) (sp := fun w => M3.spM _ [] [0] 0 1 M3.m_law) rfl (by decide) rfl ⟨rfl, by decide, by decide⟩ (fun w h Y => PySem.W.kIn_of Y) ?F (fun _ _ a ns hl _ hS => M3.top_sp hS (M3.law_true ns)) (fun _ _ _ _ _ h => by obtain ⟨_, _, _, _, _, _, _, _, _, _, _, _, h⟩ := h; exact h)
  case F =>
    intro w mg fa h KX G hmg
    refine' M3.all_mk KX G hmg ?a0 ?l0 ?c0 ?k0 ?a1 ?l1 ?c1 ?k1 ?a2 ?l2 ?c2 ?k2 ?a3 ?l3 ?c3 ?k3 ?a4 ?l4 ?c4 ?k4 ?a5 ?l5 ?c5 ?k5 ?a6 ?l6 ?c6 ?k6 ?a7 ?l7 ?c7 ?k7 ?a8 ?l8 ?c8 ?k8 ?a9 ?l9 ?c9 ?k9 ?a10 ?l10 ?c10 ?k10 ?a11 ?l11 ?c11 ?k11 ?a12 ?l12 ?c12 ?k12 ?a13 ?l13 ?c13 ?k13 ?a14 ?l14 ?c14 ?k14 ?a15 ?l15 ?c15 ?k15 ?z_abs ?z_bool ?z_dict ?z_int ?z_isinstance ?z_len ?z_list ?z_max ?z_range ?z_str ?z_sum ?z_tuple ?z_gcd
    (case a0 => k_is); (case l0 => k_is); (case c0 => k_is); (case k0 => k_is); (case a1 => k_is); (case l1 => k_is); (case c1 => k_is); (case k1 => k_is); (case a2 => k_is); (case l2 => k_is); (case c2 => k_is); (case k2 => k_is); (case a3 => k_is); (case l3 => k_is); (case c3 => k_is); (case k3 => k_is); (case a4 => k_is); (case l4 => k_is); (case c4 => k_is); (case k4 => k_is); (case a5 => k_is); (case l5 => k_is); (case c5 => k_is); (case k5 => k_is); (case a6 => k_is); (case l6 => k_is); (case c6 => k_is); (case k6 => k_is); (case a7 => k_is); (case l7 => k_is); (case c7 => k_is); (case k7 => k_is); (case a8 => k_is); (case l8 => k_is); (case c8 => k_is); (case k8 => k_is); (case a9 => k_is); (case l9 => k_is); (case c9 => k_is); (case k9 => k_is); (case a10 => k_is); (case l10 => k_is); (case c10 => k_is); (case k10 => k_is); (case a11 => k_is); (case l11 => k_is); (case c11 => k_is); (case k11 => k_is); (case a12 => k_is); (case l12 => k_is); (case c12 => k_is); (case k12 => k_is); (case a13 => k_is); (case l13 => k_is); (case c13 => k_is); (case k13 => k_is); (case a14 => k_is); (case l14 => k_is); (case c14 => k_is); (case k14 => k_is); (case a15 => k_is); (case l15 => k_is); (case c15 => k_is); (case k15 => k_is); (case z_abs => k_is); (case z_bool => k_is); (case z_dict => k_is); (case z_int => k_is); (case z_isinstance => k_is); (case z_len => k_is); (case z_list => k_is); (case z_max => k_is); (case z_range => k_is); (case z_str => k_is); (case z_sum => k_is); (case z_tuple => k_is); (case z_gcd => k_is)

