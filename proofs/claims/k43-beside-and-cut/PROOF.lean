import PyProof.Rows.All
import HandS.ForMost
import HandS.ForExc
import HandS.Wide
import HandS.WideBits
import HandS.Gcd
import HandS.IsInst
import HandS.CallSlots
import HandS.CallLocal
import HandS.TupAny
import HandS.Deep
import HandS.SortInts
import HandS.Rev
import PyProof.ReprRoads
import HandS.ExcOwn
import HandS.Conv
import HandS.Small
import HandS.More
import HandS.Dict
import HandS.RaiseMore
import PySem.Challenge.RW_whobetter_k43_beside_and_cut
/-! MBase -/
set_option Elab.async false
set_option linter.all false
set_option maxRecDepth 100000
set_option maxHeartbeats 4000000
/-! M3: data, what they are in the heap, the state of a def's frame, the judgements -/
namespace M3
open PySem PySem.Spec PyProof.Rows L2

abbrev Fg := PySem.W.Frag

/-! ### data -/
inductive D where
  | non
  | bl (b : Bool)
  | int (i : Int)
  | str (x : Str)
  | lst (l : List D)
  | tup (l : List D)
  | dct (ks : List Key) (l : List D)
  | fro (l : List D)
  | val (u : V)

/-- a tuple: tracked, or of the written part -/
def TpL (K : Fg) (H : Hp) (a : Addr) (xs : List V) : Prop :=
  H a = some (.tup xs) ∨ ∃ (o : Obj) (its : Array Value) (n : Nat), K.lookup a = some o ∧ o.cls = .type "tuple" ∧ o.data = .seq its n ∧ its.size ≤ sizeLine ∧ Vals xs its.toList
theorem TpL.t {K : Fg} {H : Hp} {a : Addr} {xs : List V} (h : TpL K H a xs) : SqT K H a xs := by
  rcases h with h | h
  · exact .inl (.inl h)
  · exact .inr h
mutual
/-- the value stands for the datum -/
def Rp (K : Fg) (H : Hp) : D → V → Prop
  | .non, v => v = .non
  | .bl b, v => v = .bl b
  | .int i, v => v = .int i
  | .str x, v => v = .str x
  | .lst l, v => ∃ a xs, v = .ref a ∧ H a = some (.lst xs) ∧ Rps K H l xs
  | .tup l, v => ∃ a xs, v = .ref a ∧ TpL K H a xs ∧ Rps K H l xs
  | .dct ks l, v => ∃ a xs, v = .ref a ∧ H a = some (.dK (ks.zip xs)) ∧ ks.length = l.length ∧ Rps K H l xs
  | .fro l, v => ∃ a xs, v = .ref a ∧ SqL K H a xs ∧ Rps K H l xs
  | .val u, v => v = u
def Rps (K : Fg) (H : Hp) : List D → List V → Prop
  | [], xs => xs = []
  | d :: l, xs => ∃ x r, xs = x :: r ∧ Rp K H d x ∧ Rps K H l r
end

/-! ### heaps -/
def Ex (H H' : Hp) : Prop := ∀ a o, H a = some o → H' a = some o
theorem Ex.rfl' (H : Hp) : Ex H H := fun _ _ e => e
theorem Ex.trn {H H1 H2 : Hp} (a : Ex H H1) (b : Ex H1 H2) : Ex H H2 := fun c o e => b c o (a c o e)
theorem Ex.new {H : Hp} {p : Addr} {o : HO} (h : H p = none) : Ex H (upd H p o) := fun a u e => by
  rw [upd_ne (ne_of_none e h)]; exact e
theorem Ex.non {H H' : Hp} {p : Addr} (e : Ex H H') (h : H' p = none) : H p = none := by
  cases q : H p with
  | none => rfl
  | some o => rw [e p o q] at h; cases h
theorem ex_rd {H H' : Hp} {a : Addr} {u : HO} (e : Ex H H') (h : Rd H a u) : Rd H' a u := by
  rcases h with h | ⟨o, h⟩
  · exact .inl (e _ _ h)
  · exact .inr ⟨o, e _ _ h⟩
theorem ex_l {K : Fg} {H H' : Hp} {a : Addr} {xs : List V} (e : Ex H H') (h : SqL K H a xs) : SqL K H' a xs := by
  rcases h with h | h
  · exact .inl (ex_rd e h)
  · exact .inr h
theorem ex_p {K : Fg} {H H' : Hp} {a : Addr} {xs : List V} (e : Ex H H') (h : TpL K H a xs) : TpL K H' a xs := by
  rcases h with h | h
  · exact .inl (e _ _ h)
  · exact .inr h
theorem ex_t {K : Fg} {H H' : Hp} {a : Addr} {xs : List V} (e : Ex H H') (h : SqT K H a xs) : SqT K H' a xs := by
  rcases h with h | h
  · exact .inl (ex_rd e h)
  · exact .inr h

mutual
theorem Rp.ex {K : Fg} {H H' : Hp} (e : Ex H H') : ∀ (d : D) {v : V}, Rp K H d v → Rp K H' d v
  | .non, _, h => h
  | .bl _, _, h => h
  | .int _, _, h => h
  | .str _, _, h => h
  | .lst l, _, ⟨a, xs, h1, h2, h3⟩ => ⟨a, xs, h1, e _ _ h2, Rps.ex e l h3⟩
  | .fro l, _, ⟨a, xs, h1, h2, h3⟩ => ⟨a, xs, h1, ex_l e h2, Rps.ex e l h3⟩
  | .tup l, _, ⟨a, xs, h1, h2, h3⟩ => ⟨a, xs, h1, ex_p e h2, Rps.ex e l h3⟩
  | .dct _ l, _, ⟨a, xs, h1, h2, hk, h3⟩ => ⟨a, xs, h1, e _ _ h2, hk, Rps.ex e l h3⟩
  | .val _, _, h => h
theorem Rps.ex {K : Fg} {H H' : Hp} (e : Ex H H') : ∀ (l : List D) {xs : List V}, Rps K H l xs → Rps K H' l xs
  | [], _, h => h
  | d :: l, _, ⟨x, r, h1, h2, h3⟩ => ⟨x, r, h1, Rp.ex e d h2, Rps.ex e l h3⟩
end

section
variable {K : Fg} {H : Hp}
theorem Rps.len : ∀ {l : List D} {xs : List V}, Rps K H l xs → xs.length = l.length
  | [], _, h => by rw [show _ = _ from h]; rfl
  | d :: l, _, h => by
    obtain ⟨x, r, rfl, _, h3⟩ := h
    simp [h3.len]
theorem Rps.get : ∀ {l : List D} {xs : List V} {i : Nat} {d : D}, Rps K H l xs → l[i]? = some d → ∃ x, xs[i]? = some x ∧ Rp K H d x
  | [], _, _, _, _, e => by simp at e
  | d :: l, _, 0, d', h, e => by
    obtain ⟨x, r, rfl, h2, h3⟩ := h
    simp at e; subst e
    exact ⟨x, rfl, h2⟩
  | d :: l, _, i + 1, d', h, e => by
    obtain ⟨x, r, rfl, h2, h3⟩ := h
    obtain ⟨y, e1, h4⟩ := h3.get (i := i) (by simpa using e)
    exact ⟨y, by simpa using e1, h4⟩
theorem Rps.app : ∀ {l m : List D} {xs ys : List V}, Rps K H l xs → Rps K H m ys → Rps K H (l ++ m) (xs ++ ys)
  | [], _, _, _, h, k => by
    rw [show _ = _ from h]; exact k
  | d :: l, _, _, _, h, k => by
    obtain ⟨x, r, rfl, h2, h3⟩ := h
    exact ⟨x, _, rfl, h2, h3.app k⟩
theorem Rps.one {d : D} {x : V} (h : Rp K H d x) : Rps K H [d] [x] := ⟨x, [], rfl, h, rfl⟩
theorem Rps.take : ∀ {l : List D} {xs : List V} (n : Nat), Rps K H l xs → Rps K H (l.take n) (xs.take n)
  | [], _, n, h => by
    rw [show _ = _ from h]; cases n <;> rfl
  | d :: l, _, 0, h => rfl
  | d :: l, _, n + 1, h => by
    obtain ⟨x, r, rfl, h2, h3⟩ := h
    exact ⟨x, _, rfl, h2, h3.take n⟩
theorem Rps.drop : ∀ {l : List D} {xs : List V} (n : Nat), Rps K H l xs → Rps K H (l.drop n) (xs.drop n)
  | [], _, n, h => by
    rw [show _ = _ from h]; cases n <;> rfl
  | d :: l, _, 0, h => h
  | d :: l, _, n + 1, h => by
    obtain ⟨x, r, rfl, h2, h3⟩ := h
    exact h3.drop n
theorem Rps.set : ∀ {l : List D} {xs : List V} (n : Nat) {d : D} {x : V}, Rps K H l xs → Rp K H d x → Rps K H (l.set n d) (xs.set n x)
  | [], _, n, _, _, h, _ => by
    rw [show _ = _ from h]; cases n <;> rfl
  | d :: l, _, 0, _, _, h, k => by
    obtain ⟨x, r, rfl, h2, h3⟩ := h
    exact ⟨_, _, rfl, k, h3⟩
  | d :: l, _, n + 1, _, _, h, k => by
    obtain ⟨x, r, rfl, h2, h3⟩ := h
    exact ⟨x, _, rfl, h2, h3.set n k⟩
theorem Rps.rev : ∀ {l : List D} {xs : List V}, Rps K H l xs → Rps K H l.reverse xs.reverse
  | [], _, h => by
    rw [show _ = _ from h]; rfl
  | d :: l, _, h => by
    obtain ⟨x, r, rfl, h2, h3⟩ := h
    rw [List.reverse_cons, List.reverse_cons]
    exact h3.rev.app (.one h2)
end

/-! ### hidden addresses -/
def hid (H : Hp) (F : List Addr) : Hp := fun a => if a ∈ F then none else H a
section
variable {H H' : Hp} {F G : List Addr} {p : Addr} {o : HO}
theorem hid_in (h : p ∈ F) : hid H F p = none := if_pos h
theorem hid_out (h : p ∉ F) : hid H F p = H p := if_neg h
theorem hid_le : Ex (hid H F) H := fun a o e => by
  by_cases h : a ∈ F
  · rw [hid_in h] at e; cases e
  · rwa [hid_out h] at e
theorem hid_sub (h : ∀ a ∈ G, a ∈ F) : Ex (hid H F) (hid H G) := fun a o e => by
  by_cases k : a ∈ F
  · rw [hid_in k] at e; cases e
  · rw [hid_out k] at e
    rw [hid_out fun z => k (h a z)]; exact e
theorem hid_ex (e : Ex H H') : Ex (hid H F) (hid H' F) := fun a o q => by
  by_cases k : a ∈ F
  · rw [hid_in k] at q; cases q
  · rw [hid_out k] at q ⊢
    exact e _ _ q
theorem hid_nil : hid H [] = H := by
  funext a; exact hid_out (by simp)
/-- outside of F nothing is changed -/
theorem hid_chg (h : ∀ a, a ∉ F → H' a = H a) : hid H' F = hid H F := by
  funext a
  by_cases k : a ∈ F
  · rw [hid_in k, hid_in k]
  · rw [hid_out k, hid_out k, h a k]
theorem hid_same (h : ∀ a, a ∈ F ↔ a ∈ G) : hid H F = hid H G := by
  funext a
  by_cases k : a ∈ F
  · rw [hid_in k, hid_in ((h a).mp k)]
  · rw [hid_out k, hid_out fun z => k ((h a).mpr z)]
end

/-! ### owned data -/
def All3 (P : D → V → List Addr → Prop) : List D → List V → List (List Addr) → Prop
  | [], [], [] => True
  | d :: l, x :: xs, f :: fs => P d x f ∧ All3 P l xs fs
  | _, _, _ => False

def Own (K : Fg) (Hm H : Hp) : Nat → D → V → List Addr → Prop
  | 0, d, v, fp => fp = [] ∧ Rp K Hm d v
  | n + 1, d, v, fp => ∃ a xs fps, v = .ref a ∧ fp = a :: fps.flatten ∧
      ((∃ l, d = .lst l ∧ H a = some (.lst xs) ∧ All3 (Own K Hm H n) l xs fps) ∨
       (∃ ks l, d = .dct ks l ∧ H a = some (.dK (ks.zip xs)) ∧ ks.length = l.length ∧ All3 (Own K Hm H n) l xs fps))

theorem All3.imp {P Q : D → V → List Addr → Prop} : ∀ {l : List D} {xs : List V} {fs : List (List Addr)}, (∀ d x f, f ∈ fs → P d x f → Q d x f) → All3 P l xs fs → All3 Q l xs fs
  | [], [], [], _, _ => trivial
  | d :: l, x :: xs, f :: fs, g, ⟨h1, h2⟩ => ⟨g _ _ _ List.mem_cons_self h1, h2.imp fun d x f' m => g d x f' (List.mem_cons_of_mem _ m)⟩
  | [], [], _ :: _, _, h => h.elim
  | [], _ :: _, _, _, h => h.elim
  | _ :: _, [], _, _, h => h.elim
  | _ :: _, _ :: _, [], _, h => h.elim
theorem All3.len {P : D → V → List Addr → Prop} : ∀ {l : List D} {xs : List V} {fs : List (List Addr)}, All3 P l xs fs → xs.length = l.length ∧ fs.length = l.length
  | [], [], [], _ => ⟨rfl, rfl⟩
  | d :: l, x :: xs, f :: fs, ⟨_, h2⟩ => by
    have := h2.len
    simp [this]
  | [], [], _ :: _, h => h.elim
  | [], _ :: _, _, h => h.elim
  | _ :: _, [], _, h => h.elim
  | _ :: _, _ :: _, [], h => h.elim
theorem All3.app {P : D → V → List Addr → Prop} : ∀ {l m : List D} {xs ys : List V} {fs gs : List (List Addr)}, All3 P l xs fs → All3 P m ys gs → All3 P (l ++ m) (xs ++ ys) (fs ++ gs)
  | [], _, [], _, [], _, _, k => k
  | d :: l, _, x :: xs, _, f :: fs, _, ⟨h1, h2⟩, k => ⟨h1, h2.app k⟩
  | [], _, [], _, _ :: _, _, h, _ => h.elim
  | [], _, _ :: _, _, _, _, h, _ => h.elim
  | _ :: _, _, [], _, _, _, h, _ => h.elim
  | _ :: _, _, _ :: _, _, [], _, h, _ => h.elim
theorem All3.get {P : D → V → List Addr → Prop} : ∀ {l : List D} {xs : List V} {fs : List (List Addr)} {i : Nat} {d : D}, All3 P l xs fs → l[i]? = some d → ∃ x f, xs[i]? = some x ∧ fs[i]? = some f ∧ P d x f
  | [], [], [], _, _, _, e => by simp at e
  | d :: l, x :: xs, f :: fs, 0, _, ⟨h1, _⟩, e => by
    simp at e; subst e
    exact ⟨x, f, rfl, rfl, h1⟩
  | d :: l, x :: xs, f :: fs, i + 1, _, ⟨_, h2⟩, e => by
    obtain ⟨y, g, e1, e2, h⟩ := h2.get (i := i) (by simpa using e)
    exact ⟨y, g, by simpa using e1, by simpa using e2, h⟩
  | [], [], _ :: _, _, _, h, _ => h.elim
  | [], _ :: _, _, _, _, h, _ => h.elim
  | _ :: _, [], _, _, _, h, _ => h.elim
  | _ :: _, _ :: _, [], _, _, h, _ => h.elim
theorem All3.set {P : D → V → List Addr → Prop} : ∀ {l : List D} {xs : List V} {fs : List (List Addr)} (i : Nat) {d : D} {x : V} {f : List Addr}, All3 P l xs fs → P d x f → All3 P (l.set i d) (xs.set i x) (fs.set i f)
  | [], [], [], i, _, _, _, _, _ => by cases i <;> exact trivial
  | d :: l, x :: xs, f :: fs, 0, _, _, _, ⟨_, h2⟩, k => ⟨k, h2⟩
  | d :: l, x :: xs, f :: fs, i + 1, _, _, _, ⟨h1, h2⟩, k => ⟨h1, h2.set i k⟩
  | [], [], _ :: _, _, _, _, _, h, _ => h.elim
  | [], _ :: _, _, _, _, _, _, h, _ => h.elim
  | _ :: _, [], _, _, _, _, _, h, _ => h.elim
  | _ :: _, _ :: _, [], _, _, _, _, h, _ => h.elim
theorem All3.erase {P : D → V → List Addr → Prop} : ∀ {l : List D} {xs : List V} {fs : List (List Addr)} (i : Nat), All3 P l xs fs → All3 P (l.eraseIdx i) (xs.eraseIdx i) (fs.eraseIdx i)
  | [], [], [], i, _ => by cases i <;> exact trivial
  | d :: l, x :: xs, f :: fs, 0, ⟨_, h2⟩ => h2
  | d :: l, x :: xs, f :: fs, i + 1, ⟨h1, h2⟩ => ⟨h1, h2.erase i⟩
  | [], [], _ :: _, _, h => h.elim
  | [], _ :: _, _, _, h => h.elim
  | _ :: _, [], _, _, h => h.elim
  | _ :: _, _ :: _, [], _, h => h.elim
theorem mem_flat_of {f : List Addr} {fs : List (List Addr)} {a : Addr} (h : f ∈ fs) (k : a ∈ f) : a ∈ fs.flatten := List.mem_flatten.mpr ⟨f, h, k⟩

section
variable {K : Fg} {Hm Hm' H H' : Hp}
/-- the owned objects unchanged, the others kept -/
theorem Own.frame (e : Ex Hm Hm') : ∀ (n : Nat) {d : D} {v : V} {fp : List Addr}, (∀ a ∈ fp, H' a = H a) → Own K Hm H n d v fp → Own K Hm' H' n d v fp
  | 0, d, v, fp, _, ⟨h1, h2⟩ => ⟨h1, Rp.ex e d h2⟩
  | n + 1, d, v, fp, k, ⟨a, xs, fps, h1, h2, h3⟩ => by
    have ka : H' a = H a := k a (by rw [h2]; exact List.mem_cons_self)
    have kf : ∀ f ∈ fps, ∀ b ∈ f, H' b = H b := fun f m b mb => k b (by rw [h2]; exact List.mem_cons_of_mem _ (mem_flat_of m mb))
    refine ⟨a, xs, fps, h1, h2, ?_⟩
    rcases h3 with ⟨l, q1, q2, q3⟩ | ⟨ks, l, q1, q2, q3, q4⟩
    · exact .inl ⟨l, q1, by rw [ka]; exact q2, q3.imp fun d x f m h => Own.frame e n (kf f m) h⟩
    · exact .inr ⟨ks, l, q1, by rw [ka]; exact q2, q3, q4.imp fun d x f m h => Own.frame e n (kf f m) h⟩
theorem Own.pres : ∀ (n : Nat) {d : D} {v : V} {fp : List Addr}, Own K Hm H n d v fp → ∀ a ∈ fp, ∃ o, H a = some o
  | 0, _, _, _, ⟨h1, _⟩, a, m => by rw [h1] at m; cases m
  | n + 1, d, v, fp, ⟨a, xs, fps, h1, h2, h3⟩, b, m => by
    rw [h2] at m
    have inner : ∀ {l : List D} {xs : List V} {fps : List (List Addr)}, All3 (Own K Hm H n) l xs fps → b ∈ fps.flatten → ∃ o, H b = some o := by
      intro l xs fps
      induction l generalizing xs fps with
      | nil => cases xs <;> cases fps <;> intro h <;> first | exact h.elim | (intro m; simp at m)
      | cons d l ih =>
        cases xs <;> cases fps <;> intro h <;> first | exact h.elim | skip
        intro m
        rw [List.flatten_cons, List.mem_append] at m
        rcases m with m | m
        · exact Own.pres n h.1 b m
        · exact ih h.2 m
    rcases List.mem_cons.mp m with rfl | m
    · rcases h3 with ⟨l, _, q2, _⟩ | ⟨ks, l, _, q2, _, _⟩
      · exact ⟨_, q2⟩
      · exact ⟨_, q2⟩
    · rcases h3 with ⟨l, _, _, q3⟩ | ⟨ks, l, _, _, _, q3⟩
      · exact inner q3 m
      · exact inner q3 m
/-- what is owned may be shared: in any heap that has the rest and the owned objects -/
theorem Own.share (e : Ex Hm Hm') : ∀ (n : Nat) {d : D} {v : V} {fp : List Addr}, (∀ a ∈ fp, ∀ o, H a = some o → Hm' a = some o) → Own K Hm H n d v fp → Rp K Hm' d v
  | 0, d, v, fp, _, ⟨_, h2⟩ => Rp.ex e d h2
  | n + 1, d, v, fp, k, ⟨a, xs, fps, h1, h2, h3⟩ => by
    have ka := k a (by rw [h2]; exact List.mem_cons_self)
    have inner : ∀ {l : List D} {xs : List V} {fps : List (List Addr)}, All3 (Own K Hm H n) l xs fps → (∀ b ∈ fps.flatten, ∀ o, H b = some o → Hm' b = some o) → Rps K Hm' l xs := by
      intro l xs fps
      induction l generalizing xs fps with
      | nil => cases xs <;> cases fps <;> intro h <;> first | exact h.elim | (intro _; rfl)
      | cons d l ih =>
        cases xs <;> cases fps <;> intro h <;> first | exact h.elim | skip
        intro m
        refine ⟨_, _, rfl, Own.share e n (fun b mb => m b (by rw [List.flatten_cons]; exact List.mem_append_left _ mb)) h.1, ih h.2 fun b mb => m b (by rw [List.flatten_cons]; exact List.mem_append_right _ mb)⟩
    have kb : ∀ b ∈ fps.flatten, ∀ o, H b = some o → Hm' b = some o := fun b m => k b (by rw [h2]; exact List.mem_cons_of_mem _ m)
    rcases h3 with ⟨l, q1, q2, q3⟩ | ⟨ks, l, q1, q2, q3, q4⟩
    · subst q1
      exact ⟨a, xs, h1, ka _ q2, inner q3 kb⟩
    · subst q1
      exact ⟨a, xs, h1, ka _ q2, q3, inner q4 kb⟩
end
end M3

/-! MSt -/
set_option Elab.async false
set_option linter.all false
set_option maxRecDepth 100000
set_option maxHeartbeats 4000000
namespace M3
open PySem PySem.Spec PyProof.Rows L2

/-! ### borrowed data: down to the depth n anywhere in the heap, below that shared -/
def All2 (P : D → V → Prop) : List D → List V → Prop
  | [], [] => True
  | d :: l, x :: xs => P d x ∧ All2 P l xs
  | _, _ => False
def Bor (K : Fg) (Hm H : Hp) : Nat → D → V → Prop
  | 0, d, v => Rp K Hm d v
  | n + 1, d, v => Rp K Hm d v ∨ ∃ a xs, v = .ref a ∧
      ((∃ l, d = .lst l ∧ H a = some (.lst xs) ∧ All2 (Bor K Hm H n) l xs) ∨
       (∃ ks l, d = .dct ks l ∧ H a = some (.dK (ks.zip xs)) ∧ ks.length = l.length ∧ All2 (Bor K Hm H n) l xs))
theorem All2.imp {P Q : D → V → Prop} (g : ∀ d x, P d x → Q d x) : ∀ {l : List D} {xs : List V}, All2 P l xs → All2 Q l xs
  | [], [], _ => trivial
  | d :: l, x :: xs, ⟨h1, h2⟩ => ⟨g _ _ h1, h2.imp g⟩
  | [], _ :: _, h => h.elim
  | _ :: _, [], h => h.elim
theorem All2.rps {K : Fg} {H : Hp} : ∀ {l : List D} {xs : List V}, All2 (Rp K H) l xs → Rps K H l xs
  | [], [], _ => rfl
  | d :: l, x :: xs, ⟨h1, h2⟩ => ⟨_, _, rfl, h1, h2.rps⟩
  | [], _ :: _, h => h.elim
  | _ :: _, [], h => h.elim
theorem All2.of_rps {K : Fg} {H : Hp} : ∀ {l : List D} {xs : List V}, Rps K H l xs → All2 (Rp K H) l xs
  | [], xs, h => by rw [show xs = [] from h]; exact trivial
  | d :: l, xs, h => by
    obtain ⟨x, r, rfl, h1, h2⟩ := h
    exact ⟨h1, All2.of_rps h2⟩
theorem All2.of3 {P : D → V → List Addr → Prop} {Q : D → V → Prop} (g : ∀ d x f, P d x f → Q d x) : ∀ {l : List D} {xs : List V} {fs : List (List Addr)}, All3 P l xs fs → All2 Q l xs
  | [], [], [], _ => trivial
  | d :: l, x :: xs, f :: fs, ⟨h1, h2⟩ => ⟨g _ _ _ h1, All2.of3 g h2⟩
  | [], [], _ :: _, h => h.elim
  | [], _ :: _, _, h => h.elim
  | _ :: _, [], _, h => h.elim
  | _ :: _, _ :: _, [], h => h.elim
theorem All2.len {P : D → V → Prop} : ∀ {l : List D} {xs : List V}, All2 P l xs → xs.length = l.length
  | [], [], _ => rfl
  | d :: l, x :: xs, ⟨_, h2⟩ => by simp [h2.len]
  | [], _ :: _, h => h.elim
  | _ :: _, [], h => h.elim
theorem All2.get {P : D → V → Prop} : ∀ {l : List D} {xs : List V} {i : Nat} {d : D}, All2 P l xs → l[i]? = some d → ∃ x, xs[i]? = some x ∧ P d x
  | [], [], _, _, _, e => by simp at e
  | d :: l, x :: xs, 0, _, ⟨h1, _⟩, e => by
    simp at e; subst e
    exact ⟨x, rfl, h1⟩
  | d :: l, x :: xs, i + 1, _, ⟨_, h2⟩, e => by
    obtain ⟨y, e1, h⟩ := h2.get (i := i) (by simpa using e)
    exact ⟨y, by simpa using e1, h⟩
  | [], _ :: _, _, _, h, _ => h.elim
  | _ :: _, [], _, _, h, _ => h.elim
section
variable {K : Fg} {Hm Hm' H H' : Hp}
theorem Bor.mono (e : Ex Hm Hm') : ∀ (n : Nat) {d : D} {v : V}, (n = 0 ∨ Ex H H') → Bor K Hm H n d v → Bor K Hm' H' n d v
  | 0, d, v, _, h => Rp.ex e d h
  | n + 1, d, v, k, h => by
    have k' : Ex H H' := k.resolve_left (by omega)
    rcases h with h | ⟨a, xs, h1, ⟨l, q1, q2, q3⟩ | ⟨ks, l, q1, q2, q3, q4⟩⟩
    · exact .inl (Rp.ex e d h)
    · exact .inr ⟨a, xs, h1, .inl ⟨l, q1, k' _ _ q2, q3.imp fun _ _ h => Bor.mono e n (.inr k') h⟩⟩
    · exact .inr ⟨a, xs, h1, .inr ⟨ks, l, q1, k' _ _ q2, q3, q4.imp fun _ _ h => Bor.mono e n (.inr k') h⟩⟩
theorem Bor.rp (e : Ex Hm H) : ∀ (n : Nat) {d : D} {v : V}, Bor K Hm H n d v → Rp K H d v
  | 0, d, v, h => Rp.ex e d h
  | n + 1, d, v, h => by
    rcases h with h | ⟨a, xs, h1, ⟨l, q1, q2, q3⟩ | ⟨ks, l, q1, q2, q3, q4⟩⟩
    · exact Rp.ex e d h
    · subst q1
      exact ⟨a, xs, h1, q2, (q3.imp fun _ _ h => Bor.rp e n h).rps⟩
    · subst q1
      exact ⟨a, xs, h1, q2, q3, (q4.imp fun _ _ h => Bor.rp e n h).rps⟩
theorem Own.bor : ∀ (n : Nat) {d : D} {v : V} {fp : List Addr}, Own K Hm H n d v fp → Bor K Hm H n d v
  | 0, _, _, _, ⟨_, h⟩ => h
  | n + 1, _, _, _, ⟨a, xs, fps, h1, _, h3⟩ => by
    rcases h3 with ⟨l, q1, q2, q3⟩ | ⟨ks, l, q1, q2, q3, q4⟩
    · exact .inr ⟨a, xs, h1, .inl ⟨l, q1, q2, All2.of3 (fun _ _ _ h => Own.bor n h) q3⟩⟩
    · exact .inr ⟨a, xs, h1, .inr ⟨ks, l, q1, q2, q3, All2.of3 (fun _ _ _ h => Own.bor n h) q4⟩⟩
theorem Bor.up : ∀ (n : Nat) {d : D} {v : V}, Rp K Hm d v → Bor K Hm H n d v
  | 0, _, _, h => h
  | _ + 1, _, _, h => .inl h
/-- a list, its items one depth down -/
theorem Bor.list (e : Ex Hm H) {n : Nat} {l : List D} {v : V} (h : Bor K Hm H n (.lst l) v) : ∃ a xs, v = .ref a ∧ H a = some (.lst xs) ∧ All2 (Bor K Hm H n.pred) l xs := by
  cases n with
  | zero =>
    obtain ⟨a, xs, h1, h2, h3⟩ := h
    exact ⟨a, xs, h1, e _ _ h2, (All2.of_rps h3)⟩
  | succ n =>
    rcases h with h | ⟨a, xs, h1, ⟨l', q1, q2, q3⟩ | ⟨ks, l', q1, q2, q3, q4⟩⟩
    · obtain ⟨a, xs, h1, h2, h3⟩ := h
      exact ⟨a, xs, h1, e _ _ h2, (All2.of_rps h3).imp fun _ _ h => Bor.up n h⟩
    · cases q1
      exact ⟨a, xs, h1, q2, q3⟩
    · cases q1
theorem Bor.tuple (e : Ex Hm H) {n : Nat} {l : List D} {v : V} (h : Bor K Hm H n (.tup l) v) : ∃ a xs, v = .ref a ∧ TpL K H a xs ∧ Rps K Hm l xs := by
  cases n with
  | zero =>
    obtain ⟨a, xs, h1, h2, h3⟩ := h
    exact ⟨a, xs, h1, ex_p e h2, h3⟩
  | succ n =>
    rcases h with h | ⟨a, xs, h1, ⟨l', q1, q2, q3⟩ | ⟨ks, l', q1, q2, q3, q4⟩⟩
    · obtain ⟨a, xs, h1, h2, h3⟩ := h
      exact ⟨a, xs, h1, ex_p e h2, h3⟩
    · cases q1
    · cases q1
theorem Bor.dict (e : Ex Hm H) {n : Nat} {ks : List Key} {l : List D} {v : V} (h : Bor K Hm H n (.dct ks l) v) : ∃ a xs, v = .ref a ∧ H a = some (.dK (ks.zip xs)) ∧ ks.length = l.length ∧ All2 (Bor K Hm H n.pred) l xs := by
  cases n with
  | zero =>
    obtain ⟨a, xs, h1, h2, hk, h3⟩ := h
    exact ⟨a, xs, h1, e _ _ h2, hk, (All2.of_rps h3)⟩
  | succ n =>
    rcases h with h | ⟨a, xs, h1, ⟨l', q1, q2, q3⟩ | ⟨ks', l', q1, q2, q3, q4⟩⟩
    · obtain ⟨a, xs, h1, h2, hk, h3⟩ := h
      exact ⟨a, xs, h1, e _ _ h2, hk, (All2.of_rps h3).imp fun _ _ h => Bor.up n h⟩
    · cases q1
    · cases q1
      exact ⟨a, xs, h1, q2, q3, q4⟩
end

/-! ### the state -/
abbrev Sl := List (Option D)
structure Bc where
  B : Hp
  pv : Nat → V
  pf : Nat → List Addr
  R : List Addr
  hR : Hp
abbrev msk (F : List (List Addr)) (G : List Addr) : List Addr := F.flatten ++ G
structure Stt (K : Fg) (P O : List Nat) (β : Bc) (F : List (List Addr)) (G : List Addr) (env : Sl) (σ : L2.St) (H : Hp) : Prop where
  len : σ.length = env.length
  olen : O.length = env.length
  flen : F.length = env.length
  nd : (msk F G).Nodup
  pres : ∀ a ∈ msk F G, ∃ o, H a = some o
  base : Ex β.B (hid H (msk F G))
  slot : ∀ i d, env[i]? = some (some d) → ∃ v, σ[i]? = some (some v) ∧ Own K (hid H (msk F G)) H (O.getD i 0) d v (F.getD i [])
  pin : ∀ i ∈ P, σ[i]? = some (some (β.pv i)) ∧ F.getD i [] = β.pf i
  z : ∀ i, O.getD i 0 = 0 → F.getD i [] = []
  rr : ∀ a ∈ β.R, a ∈ G ∧ H a = β.hR a

section
variable {K : Fg} {P O : List Nat} {β : Bc} {F : List (List Addr)} {G : List Addr} {env : Sl} {σ : L2.St} {H H' : Hp}
theorem getD_mem_flat {F : List (List Addr)} {i : Nat} {a : Addr} (h : a ∈ F.getD i []) : a ∈ F.flatten := by
  rw [List.getD_eq_getElem?_getD] at h
  cases e : F[i]? with
  | none => rw [e] at h; cases h
  | some f =>
    rw [e] at h
    exact mem_flat_of (List.mem_of_getElem? e) h
theorem Stt.fresh (S : Stt K P O β F G env σ H) {p : Addr} (h : H p = none) : p ∉ msk F G := fun m => by
  obtain ⟨o, e⟩ := S.pres p m
  rw [h] at e; cases e
/-- the heap grows, what is owned stands -/
theorem Stt.grow (S : Stt K P O β F G env σ H) (e : Ex (hid H (msk F G)) (hid H' (msk F G))) (k : ∀ a ∈ msk F G, H' a = H a) : Stt K P O β F G env σ H' := by
  refine ⟨S.len, S.olen, S.flen, S.nd, fun a m => by rw [k a m]; exact S.pres a m, S.base.trn e, fun i d h => ?_, S.pin, S.z, fun a m => ⟨(S.rr a m).1, by rw [k a (List.mem_append_right _ (S.rr a m).1)]; exact (S.rr a m).2⟩⟩
  obtain ⟨v, h1, h2⟩ := S.slot i d h
  exact ⟨v, h1, h2.frame e _ fun a m => k a (List.mem_append_left _ (getD_mem_flat m))⟩
theorem Stt.ext (S : Stt K P O β F G env σ H) (e : Ex H H') : Stt K P O β F G env σ H' :=
  S.grow (hid_ex e) fun a m => by
    obtain ⟨o, h⟩ := S.pres a m
    rw [h, e a o h]
theorem hid_new0 {p : Addr} {o : HO} (np : p ∉ msk F G) (h : H p = none) : hid (upd H p o) (msk F (p :: G)) = hid H (msk F G) := by
  funext a
  by_cases e : a = p
  · subst e
    rw [hid_in (List.mem_append_right _ List.mem_cons_self), hid_out np, h]
  · by_cases k : a ∈ msk F G
    · rw [hid_in k, hid_in]
      rcases List.mem_append.mp k with k | k
      · exact List.mem_append_left _ k
      · exact List.mem_append_right _ (List.mem_cons_of_mem _ k)
    · rw [hid_out k, hid_out, upd_ne e]
      intro z
      rcases List.mem_append.mp z with z | z
      · exact k (List.mem_append_left _ z)
      · rcases List.mem_cons.mp z with z | z
        · exact e z
        · exact k (List.mem_append_right _ z)
/-- a new owned object in flight -/
theorem Stt.newG (S : Stt K P O β F G env σ H) {p : Addr} {o : HO} (h : H p = none) : Stt K P O β F (p :: G) env σ (upd H p o) := by
  have np := S.fresh h
  have hs : hid (upd H p o) (msk F (p :: G)) = hid H (msk F G) := hid_new0 np h
  refine ⟨S.len, S.olen, S.flen, ?_, fun a m => ?_, by rw [hs]; exact S.base, fun i d q => ?_, S.pin, S.z, fun a m => ⟨List.mem_cons_of_mem _ (S.rr a m).1, (upd_ne fun z => np (by rw [← z]; exact List.mem_append_right _ (S.rr a m).1)).trans (S.rr a m).2⟩⟩
  · have h1 : (msk F (p :: G)).Perm (p :: msk F G) := List.perm_middle
    exact h1.nodup_iff.mpr (List.nodup_cons.mpr ⟨np, S.nd⟩)
  · by_cases e : a = p
    · subst e; exact ⟨_, upd_same⟩
    · rw [upd_ne e]
      refine S.pres a ?_
      rcases List.mem_append.mp m with m | m
      · exact List.mem_append_left _ m
      · rcases List.mem_cons.mp m with m | m
        · exact absurd m e
        · exact List.mem_append_right _ m
  · obtain ⟨v, h1, h2⟩ := S.slot i d q
    refine ⟨v, h1, ?_⟩
    rw [hs]
    refine h2.frame (Ex.rfl' _) _ fun a m => upd_ne fun z => ?_
    subst z
    exact np (List.mem_append_left _ (getD_mem_flat m))
theorem hid_newG (S : Stt K P O β F G env σ H) {p : Addr} {o : HO} (h : H p = none) : hid (upd H p o) (msk F (p :: G)) = hid H (msk F G) := hid_new0 (S.fresh h) h
/-- an object in flight is changed -/
theorem Stt.updG (S : Stt K P O β F G env σ H) {p : Addr} {o : HO} (h : p ∈ G) (hp : p ∉ β.R) : Stt K P O β F G env σ (upd H p o) := by
  have hm : p ∈ msk F G := List.mem_append_right _ h
  have hs : hid (upd H p o) (msk F G) = hid H (msk F G) := hid_chg fun a k => upd_ne fun z => k (z ▸ hm)
  refine ⟨S.len, S.olen, S.flen, S.nd, fun a m => ?_, by rw [hs]; exact S.base, fun i d q => ?_, S.pin, S.z, fun a m => ⟨(S.rr a m).1, (upd_ne fun z => hp (by rw [← z]; exact m)).trans (S.rr a m).2⟩⟩
  · by_cases e : a = p
    · subst e; exact ⟨_, upd_same⟩
    · rw [upd_ne e]; exact S.pres a m
  · obtain ⟨v, h1, h2⟩ := S.slot i d q
    refine ⟨v, h1, ?_⟩
    rw [hs]
    refine h2.frame (Ex.rfl' _) _ fun a m => upd_ne fun z => ?_
    subst z
    exact (List.nodup_append.mp S.nd).2.2 _ (getD_mem_flat m) _ h rfl
theorem hid_updG {p : Addr} {o : HO} (h : p ∈ G) : hid (upd H p o) (msk F G) = hid H (msk F G) := hid_chg fun a k => upd_ne fun z => k (z ▸ List.mem_append_right _ h)
/-- what is in flight lands: shared from now on -/
theorem Stt.dropG (S : Stt K P O β F G env σ H) {G' : List Addr} (hs : G'.Sublist G) (hR : ∀ a ∈ β.R, a ∈ G') : Stt K P O β F G' env σ H := by
  have sb : ∀ a ∈ msk F G', a ∈ msk F G := fun a m => by
    rcases List.mem_append.mp m with m | m
    · exact List.mem_append_left _ m
    · exact List.mem_append_right _ (hs.subset m)
  have e : Ex (hid H (msk F G)) (hid H (msk F G')) := hid_sub sb
  refine ⟨S.len, S.olen, S.flen, S.nd.sublist (List.Sublist.append (List.Sublist.refl _) hs), fun a m => S.pres a (sb a m), S.base.trn e, fun i d q => ?_, S.pin, S.z, fun a m => ⟨hR a m, (S.rr a m).2⟩⟩
  obtain ⟨v, h1, h2⟩ := S.slot i d q
  exact ⟨v, h1, h2.frame e _ fun _ _ => rfl⟩
theorem hid_dropG {G' : List Addr} (hs : ∀ a ∈ G', a ∈ G) : Ex (hid H (msk F G)) (hid H (msk F G')) := hid_sub fun a m => by
    rcases List.mem_append.mp m with m | m
    · exact List.mem_append_left _ m
    · exact List.mem_append_right _ (hs a m)
/-- owned data in flight, landed, are shared -/
theorem own_land {fp : List Addr} {n : Nat} {d : D} {v : V} (hn : (msk F (fp ++ G)).Nodup) (h : Own K (hid H (msk F (fp ++ G))) H n d v fp) : Rp K (hid H (msk F G)) d v := by
  refine h.share (hid_dropG fun a m => List.mem_append_right _ m) n fun a m o q => ?_
  rw [hid_out fun z => ?_]
  · exact q
  · have h1 := (List.nodup_append.mp hn)
    rcases List.mem_append.mp z with z | z
    · exact h1.2.2 _ z _ (List.mem_append_left _ m) rfl
    · exact (List.nodup_append.mp h1.2.1).2.2 _ m _ z rfl
end
/-- from one heap on to another: what is shared is kept, what is in flight is as it was -/
structure Fw (F : List (List Addr)) (G : List Addr) (H H' : Hp) : Prop where
  ex : Ex (hid H (msk F G)) (hid H' (msk F G))
  gs : ∀ a ∈ G, H' a = H a
theorem Fw.rfl' {F : List (List Addr)} {G : List Addr} {H : Hp} : Fw F G H H := ⟨Ex.rfl' _, fun _ _ => rfl⟩
theorem Fw.trn {F : List (List Addr)} {G : List Addr} {H H1 H2 : Hp} (a : Fw F G H H1) (b : Fw F G H1 H2) : Fw F G H H2 := ⟨a.ex.trn b.ex, fun x m => (b.gs x m).trans (a.gs x m)⟩
theorem Fw.of {K : Fg} {P O : List Nat} {β : Bc} {F : List (List Addr)} {G : List Addr} {env : Sl} {σ : L2.St} {H H' : Hp} (S : Stt K P O β F G env σ H) (e : Ex H H') : Fw F G H H' := ⟨hid_ex e, fun a m => by
  obtain ⟨o, h⟩ := S.pres a (List.mem_append_right _ m)
  rw [h, e a o h]⟩
/-- .. and something new in flight -/
structure Fo (F : List (List Addr)) (G fp : List Addr) (H H' : Hp) : Prop where
  ex : Ex (hid H (msk F G)) (hid H' (msk F (fp ++ G)))
  gs : ∀ a ∈ G, H' a = H a
theorem Fw.tro {F : List (List Addr)} {G fp : List Addr} {H H1 H2 : Hp} (a : Fw F G H H1) (b : Fo F G fp H1 H2) : Fo F G fp H H2 := ⟨a.ex.trn b.ex, fun x m => (b.gs x m).trans (a.gs x m)⟩
end M3

/-! MJ -/
set_option Elab.async false
set_option linter.all false
set_option maxRecDepth 100000
set_option maxHeartbeats 4000000
namespace M3
open PySem PySem.Spec PyProof.Rows L2

/-- what a mirror's step comes to -/
inductive Rs (α : Type) where
  | ok (a : α) (e : Sl)
  | exc (c : Addr) (x : D) (e : Sl)
  | bad
def Rs.bind {α γ : Type} (r : Rs α) (k : α → Sl → Rs γ) : Rs γ :=
  match r with
  | .ok a e => k a e
  | .exc c x e => .exc c x e
  | .bad => .bad
abbrev Mi (α : Type) := Sl → Rs α
abbrev M := Mi D

section
variable (X : Cx) (P O : List Nat) (W : WX) (β : Bc) (F : List (List Addr)) (G : List Addr) (σ : L2.St) (H : Hp)
def ExcW (c : Addr) (x : D) (env' : Sl) : Prop := ∀ dx v H', Stt X.K P O β F G env' σ H' → Ex (hid H (msk F G)) (hid H' (msk F G)) → H' dx = some (.xd [("value", v)]) → Rp X.K (hid H' (msk F G)) x v → W (.ref c) (some dx) σ H'
/-- what must hold of a step's outcome: R of it and the heap behind -/
def Pst {α : Type} (b : Bool) (env : Sl) (R : α → Hp → Prop) : Rs α → Prop
  | .ok a env' => ∀ H', Stt X.K P O β F G env' σ H' → Fw F G H H' → (b = true → env' = env ∧ Ex H H') → R a H'
  | .exc c x env' => ExcW X P O W β F G σ H c x env'
  | .bad => False
end

section
variable {X : Cx} {P O : List Nat} {W : WX} {β : Bc} {F : List (List Addr)} {G : List Addr} {σ : L2.St} {H : Hp} {α γ : Type} {b b1 b2 : Bool} {env : Sl}
theorem Pst.imp {R R' : α → Hp → Prop} {r : Rs α} (h : Pst X P O W β F G σ H b env R r) (g : ∀ a H', R a H' → R' a H') : Pst X P O W β F G σ H b env R' r := by
  cases r with
  | ok a e => exact fun H' S x p => g _ _ (h H' S x p)
  | exc c x e => exact h
  | bad => exact h
theorem Pst.weak {R : α → Hp → Prop} {r : Rs α} (h : Pst X P O W β F G σ H b env R r) (hb : b = true → b1 = true) : Pst X P O W β F G σ H b1 env R r := by
  cases r with
  | ok a e => exact fun H' S x p => h H' S x fun q => p (hb q)
  | exc c x e => exact h
  | bad => exact h
/-- one step, then the rest -/
theorem Pst.bind {R : γ → Hp → Prop} {R1 : α → Hp → Prop} {r : Rs α} {k : α → Sl → Rs γ} (h : Pst X P O W β F G σ H (b1 && b2) env R (r.bind k))
    (step : ∀ a env1 H1, Stt X.K P O β F G env1 σ H1 → Fw F G H H1 → (b1 = true → env1 = env ∧ Ex H H1) → Pst X P O W β F G σ H1 b2 env1 R (k a env1) → R1 a H1) : Pst X P O W β F G σ H b1 env R1 r := by
  cases r with
  | ok a e =>
    intro H1 S1 x1 p1
    refine step a e H1 S1 x1 p1 ?_
    have h' : Pst X P O W β F G σ H (b1 && b2) env R (k a e) := h
    cases q : k a e with
    | ok a2 e2 =>
      rw [q] at h'
      intro H2 S2 x2 p2
      refine h' H2 S2 (x1.trn x2) fun hb => ?_
      rw [Bool.and_eq_true] at hb
      obtain ⟨e1, g1⟩ := p1 hb.1
      obtain ⟨e2, g2⟩ := p2 hb.2
      exact ⟨e2.trans e1, g1.trn g2⟩
    | exc c x e2 =>
      rw [q] at h'
      exact fun dx v H2 S2 x2 => h' dx v H2 S2 (x1.ex.trn x2)
    | bad => rw [q] at h'; exact h'
  | exc c x e => exact h
  | bad => exact h
end

/-! ### the judgements -/
/-- an expression: n the depth to which it is borrowed, b: it changes nothing -/
structure ME (X : Cx) (P O : List Nat) (W : WX) (n : Nat) (b : Bool) (e : Expr) (m : M) : Prop where
  run : ∃ t, PE X e t ∧ ∀ β F G env σ H Q, Stt X.K P O β F G env σ H →
    Pst X P O W β F G σ H b env (fun d H' => ∀ v, Bor X.K (hid H' (msk F G)) H' n d v → Q v H') (m env) → t σ H Q
/-- a test -/
structure MT (X : Cx) (P O : List Nat) (W : WX) (b : Bool) (e : Expr) (m : M) : Prop where
  run : ∃ t, PT X e t ∧ ∀ β F G env σ H Q, Stt X.K P O β F G env σ H →
    Pst X P O W β F G σ H b env (fun d H' => ∃ c, d = .bl c ∧ Q c H') (m env) → t σ H Q
structure MW (X : Cx) (P O : List Nat) (W : WX) (b : Bool) (e : Expr) (m : M) : Prop where
  run : ∃ t, PW X e t ∧ ∀ β F G env σ H Q, Stt X.K P O β F G env σ H →
    Pst X P O W β F G σ H b env (fun d H' => ∃ c, d = .bl c ∧ Q c H') (m env) → t σ H Q
theorem MW.mt {X : Cx} {P O : List Nat} {W : WX} {b : Bool} {e : Expr} {m : M} (h : MW X P O W b e m) : MT X P O W b e m := by
  obtain ⟨t, h1, h2⟩ := h.run
  exact ⟨t, h1.pt, h2⟩
/-- arguments, shared each -/
structure MA (X : Cx) (P O : List Nat) (W : WX) (b : Bool) (es : List Expr) (m : Mi (List D)) : Prop where
  run : ∃ t, PA X es t ∧ ∀ β F G env σ H Q, Stt X.K P O β F G env σ H →
    Pst X P O W β F G σ H b env (fun ds H' => ∀ vs, Rps X.K (hid H' (msk F G)) ds vs → Q vs H') (m env) → t σ H Q
/-- arguments of a built-in, borrowed to any depth: all that follow the first change nothing -/
structure MAB (X : Cx) (P O : List Nat) (W : WX) (n : Nat) (b : Bool) (es : List Expr) (m : Mi (List D)) : Prop where
  run : ∃ t, PA X es t ∧ ∀ β F G env σ H Q, Stt X.K P O β F G env σ H →
    Pst X P O W β F G σ H b env (fun ds H' => ∀ vs, All2 (Bor X.K (hid H' (msk F G)) H' n) ds vs → Q vs H') (m env) → t σ H Q
/-- of a step that makes a new thing, owned to the depth n -/
def PstO (X : Cx) (P O : List Nat) (W : WX) (β : Bc) (F : List (List Addr)) (G : List Addr) (σ : L2.St) (H : Hp) (n : Nat) (b : Bool) (env : Sl) (Q : VK) : Rs D → Prop
  | .ok d env' => ∀ v H' fp, Stt X.K P O β F (fp ++ G) env' σ H' → Fo F G fp H H' → (b = true → env' = env ∧ Ex H H') → Own X.K (hid H' (msk F (fp ++ G))) H' n d v fp → Q v H'
  | .exc c x env' => ExcW X P O W β F G σ H c x env'
  | .bad => False
/-- an expression that makes a new thing, owned to the depth n -/
structure MO (X : Cx) (P O : List Nat) (W : WX) (n : Nat) (b : Bool) (e : Expr) (m : M) : Prop where
  run : ∃ t, PE X e t ∧ ∀ β F G env σ H Q, Stt X.K P O β F G env σ H →
    PstO X P O W β F G σ H n b env Q (m env) → t σ H Q

/-! ### outcomes of operations -/
/-- the datum is flat, v its value -/
def Flat : D → V → Prop
  | .non, v => v = .non
  | .bl b, v => v = .bl b
  | .int i, v => v = .int i
  | .str x, v => v = .str x
  | .val u, v => v = u
  | _, _ => False
theorem Flat.rp {K : Fg} {H : Hp} : ∀ {d : D} {v : V}, Flat d v → Rp K H d v
  | .non, _, h => h
  | .bl _, _, h => h
  | .int _, _, h => h
  | .str _, _, h => h
  | .val _, _, h => h
  | .lst _, _, h => h.elim
  | .tup _, _, h => h.elim
  | .dct _ _, _, h => h.elim
  | .fro _, _, h => h.elim
/-- something shared as it lies, or a new list or tuple of shared things -/
def Out (K : Fg) (Hs H H' : Hp) (d : D) (v : V) : Prop :=
  (H' = H ∧ Rp K Hs d v) ∨ ∃ p, H p = none ∧ v = .ref p ∧ ((∃ l xs, d = .lst l ∧ H' = upd H p (.lst xs) ∧ Rps K Hs l xs) ∨ (∃ l xs, d = .tup l ∧ H' = upd H p (.tup xs) ∧ Rps K Hs l xs))
theorem Out.flat {K : Fg} {Hs H : Hp} {d : D} {v : V} (h : Flat d v) : Out K Hs H H d v := .inl ⟨rfl, h.rp⟩

section
variable {K : Fg} {P O : List Nat} {β : Bc} {F : List (List Addr)} {G : List Addr} {env : Sl} {σ : L2.St} {H H' : Hp} {d : D} {v : V}
theorem Out.ex (h : Out K (hid H (msk F G)) H H' d v) : Ex H H' := by
  rcases h with ⟨rfl, _⟩ | ⟨p, hp, _, ⟨l, xs, _, rfl, _⟩ | ⟨l, xs, _, rfl, _⟩⟩
  · exact Ex.rfl' _
  · exact Ex.new hp
  · exact Ex.new hp
theorem Out.rp (S : Stt K P O β F G env σ H) (h : Out K (hid H (msk F G)) H H' d v) : Rp K (hid H' (msk F G)) d v := by
  have e := h.ex
  rcases h with ⟨rfl, r⟩ | ⟨p, hp, rfl, ⟨l, xs, rfl, rfl, r⟩ | ⟨l, xs, rfl, rfl, r⟩⟩
  · exact r
  · refine ⟨p, xs, rfl, ?_, Rps.ex (hid_ex e) _ r⟩
    rw [hid_out (S.fresh hp), upd_same]
  · refine ⟨p, xs, rfl, .inl ?_, Rps.ex (hid_ex e) _ r⟩
    rw [hid_out (S.fresh hp), upd_same]
end

/-- an operation of two things, its outcome flat -/
def OpS (X : Cx) (g : Value → Value → Sem Value) (f : D → D → Option D) : Prop :=
  ∃ r, OpR X g r ∧ ∀ H d1 d2 v1 v2 d Q, f d1 d2 = some d → Rp X.K H d1 v1 → Rp X.K H d2 v2 → (∀ v, Flat d v → Q v H) → r v1 v2 H Q
/-- an operation of two things, its outcome new or flat -/
def OpG (X : Cx) (g : Value → Value → Sem Value) (f : D → D → Option D) : Prop :=
  ∃ r, OpR X g r ∧ ∀ Hs H d1 d2 v1 v2 d Q, Ex Hs H → f d1 d2 = some d → Bor X.K Hs H 1 d1 v1 → Bor X.K Hs H 1 d2 v2 → (∀ v H', Out X.K Hs H H' d v → Q v H') → r v1 v2 H Q
def UnS (X : Cx) (g : Value → Sem Value) (f : D → Option D) : Prop :=
  ∃ r, UnR X g r ∧ ∀ H d1 v1 d Q, f d1 = some d → Rp X.K H d1 v1 → (∀ v, Flat d v → Q v H) → r v1 H Q
/-- a call of a built-in -/
def CallS (X : Cx) (g : Value) (f : List D → Option D) : Prop :=
  ∃ r, CallR X g r ∧ ∀ H ds vs d Q, f ds = some d → Rps X.K H ds vs → (∀ v, Flat d v → Q v H) → r vs H Q
def CallG (X : Cx) (g : Value) (f : List D → Option D) : Prop :=
  ∃ r, CallR X g r ∧ ∀ Hs H ds vs d Q, Ex Hs H → f ds = some d → All2 (Bor X.K Hs H 1) ds vs → (∀ v H', Out X.K Hs H H' d v → Q v H') → r vs H Q

/-! ### mirrors of expressions -/
def liftO {α : Type} (o : Option α) (e : Sl) : Rs α := match o with | some a => .ok a e | none => .bad
def mVar (i : Nat) : M := fun e => match e[i]? with | some (some d) => .ok d e | _ => .bad
def mC (d : D) : M := fun e => .ok d e
def m1 (f : D → Option D) (a : M) : M := fun e => (a e).bind fun x e1 => liftO (f x) e1
def m2 (f : D → D → Option D) (a b : M) : M := fun e => (a e).bind fun x e1 => (b e1).bind fun y e2 => liftO (f x y) e2
def mf (f : List D → Option D) (a : Mi (List D)) : M := fun e => (a e).bind fun x e1 => liftO (f x) e1
def mNil : Mi (List D) := fun e => .ok [] e
def mCons (a : M) (r : Mi (List D)) : Mi (List D) := fun e => (a e).bind fun x e1 => (r e1).bind fun xs e2 => .ok (x :: xs) e2
def mIf (c a b : M) : M := fun e => (c e).bind fun x e1 => match x with | .bl true => a e1 | .bl false => b e1 | _ => .bad
def mNot (c : M) : M := fun e => (c e).bind fun x e1 => match x with | .bl k => .ok (.bl !k) e1 | _ => .bad
def mAnd (a b : M) : M := fun e => (a e).bind fun x e1 => match x with | .bl true => b e1 | .bl false => .ok (.bl false) e1 | _ => .bad
def mOr (a b : M) : M := fun e => (a e).bind fun x e1 => match x with | .bl true => .ok (.bl true) e1 | .bl false => b e1 | _ => .bad

section
variable {X : Cx} {P O : List Nat} {W : WX} {n k n1 n2 : Nat} {b b1 b2 b3 : Bool} {e a c : Expr} {m ma mb mc : M} {pos : Pos} {es : List Expr} {ms : Mi (List D)}

theorem Pst.lift {α : Type} {β : Bc} {F : List (List Addr)} {G : List Addr} {σ : L2.St} {H : Hp} {env : Sl} {R : α → Hp → Prop} {o : Option α} (h : Pst X P O W β F G σ H b env R (liftO o env)) : ∃ a, o = some a ∧ Pst X P O W β F G σ H b env R (.ok a env) := by
  cases o with
  | none => exact h.elim
  | some a => exact ⟨a, rfl, h⟩

theorem ME.weak (h : ME X P O W n b e m) (hb : b1 = true → b = true := by intro h; exact h) : ME X P O W n b1 e m := by
  obtain ⟨t, h1, h2⟩ := h.run
  exact ⟨t, h1, fun β F G env σ H Q S p => h2 β F G env σ H Q S (p.weak hb)⟩
theorem ME.up (h : ME X P O W 0 b e m) : ME X P O W n b e m := by
  obtain ⟨t, h1, h2⟩ := h.run
  exact ⟨t, h1, fun β F G env σ H Q S p => h2 β F G env σ H Q S (p.imp fun d H' q v hv => q v (Bor.up n hv))⟩

theorem me_var (i : Nat) {x : Str} {O : List Nat} (hO : O.getD i 0 = n := by rfl) (hN : X.N[i]? = some x := by rfl) (hv : Vis X.env.scope x := by first | exact Or.inl rfl | exact Or.inr (Or.inl rfl) | exact Or.inr (Or.inr rfl)) (hd : (x == ("__debug__" : Str)) = false := by decide)
    (hcd : (x == ("__classdict__" : Str)) = false := by decide) : ME X P O W n true (.Name x pos) (mVar i) := by
  refine ⟨_, pe_var hN hv hd hcd, fun β F G env σ H Q S p => ?_⟩
  cases q : env[i]? with
  | none =>
    have : mVar i env = .bad := by unfold mVar; rw [q]
    rw [this] at p; exact p.elim
  | some o =>
    cases o with
    | none =>
      have : mVar i env = .bad := by unfold mVar; rw [q]
      rw [this] at p; exact p.elim
    | some d =>
      have e : mVar i env = .ok d env := by unfold mVar; rw [q]
      rw [e] at p
      obtain ⟨v, h1, h2⟩ := S.slot i d q
      rw [hO] at h2
      exact ⟨v, h1, p H S Fw.rfl' (fun _ => ⟨rfl, Ex.rfl' _⟩) v h2.bor⟩
theorem me_c {t : TE} {d : D} {v : V} (h : PE X e (tC v)) (hf : Flat d v) : ME X P O W 0 true e (mC d) :=
  ⟨_, h, fun β F G env σ H Q S p => p H S Fw.rfl' (fun _ => ⟨rfl, Ex.rfl' _⟩) v hf.rp⟩
theorem me_int {i j} : ME X P O W 0 true (.Constant (.int i) j pos) (mC (.int i)) := me_c (t := tC .non) pe_int rfl
theorem me_bl {i j} : ME X P O W 0 true (.Constant (.bool i) j pos) (mC (.bl i)) := me_c (t := tC .non) pe_bl rfl
theorem me_non {j} : ME X P O W 0 true (.Constant .none j pos) (mC .non) := me_c (t := tC .non) pe_non rfl
theorem me_str {i j} : ME X P O W 0 true (.Constant (.str i) j pos) (mC (.str i)) := me_c (t := tC .non) pe_str rfl
/-- a module's name that holds a flat thing -/
theorem me_glob {x : Str} {d : D} {v : V} {u : Value} (hg : Gl X x) (hm : X.mg x = some u) (r : RelV v u) (hf : Flat d v) (hd : (x == ("__debug__" : Str)) = false := by decide) : ME X P O W 0 true (.Name x pos) (mC d) :=
  me_c (t := tC .non) (pe_glob hg hm r hd) hf

/-- two operands -/
theorem me_2S {op : Expr} {f : D → D → Option D} {tt : R2 → TE → TE → TE} {r : R2} (hr : ∀ H d1 d2 v1 v2 d Q, f d1 d2 = some d → Rp X.K H d1 v1 → Rp X.K H d2 v2 → (∀ v, Flat d v → Q v H) → r v1 v2 H Q)
    (hp : ∀ ta tb, PE X a ta → PE X c tb → PE X op (tOp r ta tb)) (ha : ME X P O W n1 b1 a ma) (hb : ME X P O W n2 b2 c mb) (hm : (n1 == 0 || b2) = true) : ME X P O W 0 (b1 && b2) op (m2 f ma mb) := by
  obtain ⟨ta, pa, ha⟩ := ha.run
  obtain ⟨tb, pb, hb⟩ := hb.run
  refine ⟨_, hp _ _ pa pb, fun β F G env σ H Q S p => ?_⟩
  refine ha β F G env σ H _ S (p.bind fun d1 env1 H1 S1 x1 p1 q v1 r1 => ?_)
  have q' : Pst X P O W β F G σ H1 (b2 && true) env1 (fun d H' => ∀ v, Bor X.K (hid H' (msk F G)) H' 0 d v → Q v H') ((mb env1).bind fun y e2 => liftO (f d1 y) e2) := by rw [Bool.and_true]; exact q
  refine hb β F G env1 σ H1 _ S1 (q'.bind fun d2 env2 H2 S2 x2 p2 q2 v2 r2 => ?_)
  obtain ⟨d, e, q3⟩ := q2.lift
  have r1' : Bor X.K (hid H2 (msk F G)) H2 n1 d1 v1 := r1.mono x2.ex _ (by
    rcases Bool.or_eq_true _ _ ▸ hm with h | h
    · exact .inl (by simpa using h)
    · exact .inr (p2 h).2)
  exact hr H2 d1 d2 v1 v2 d _ e (r1'.rp hid_le) (r2.rp hid_le) fun v hv => q3 H2 S2 Fw.rfl' (fun _ => ⟨rfl, Ex.rfl' _⟩) v hv.rp
theorem me_bin {op : Operator} {f : D → D → Option D} (ho : OpS X (binaryOp op) f) (ha : ME X P O W n1 b1 a ma) (hb : ME X P O W n2 b2 c mb) (hm : (n1 == 0 || b2) = true := by rfl) : ME X P O W 0 (b1 && b2) (.BinOp a op c pos) (m2 f ma mb) := by
  obtain ⟨r, h1, h2⟩ := ho
  exact me_2S (tt := tOp) h2 (fun ta tb => pe_op h1) ha hb hm
theorem me_cmp {op : CmpOp} {f : D → D → Option D} (ho : OpS X (compareOp op) f) (ha : ME X P O W n1 b1 a ma) (hb : ME X P O W n2 b2 c mb) (hk : behindInMarks op c = false := by first | exact nomark _ | rfl) (hm : (n1 == 0 || b2) = true := by rfl) : ME X P O W 0 (b1 && b2) (.Compare a [op] [c] pos) (m2 f ma mb) := by
  obtain ⟨r, h1, h2⟩ := ho
  exact me_2S (tt := tOp) h2 (fun ta tb pa pb => pe_cmpR h1 pa pb hk) ha hb hm
theorem me_un {op : UnaryOp} {f : D → Option D} (ho : UnS X (unaryOp op) f) (ha : ME X P O W n1 b1 a ma) : ME X P O W 0 b1 (.UnaryOp op a pos) (m1 f ma) := by
  obtain ⟨r, h1, h2⟩ := ho
  obtain ⟨ta, pa, ha⟩ := ha.run
  refine ⟨_, pe_un h1 pa, fun β F G env σ H Q S p => ?_⟩
  have p' : Pst X P O W β F G σ H (b1 && true) env (fun d H' => ∀ v, Bor X.K (hid H' (msk F G)) H' 0 d v → Q v H') ((ma env).bind fun x e1 => liftO (f x) e1) := by rw [Bool.and_true]; exact p
  refine ha β F G env σ H _ S (p'.bind fun d1 env1 H1 S1 x1 p1 q v1 r1 => ?_)
  obtain ⟨d, e, q3⟩ := q.lift
  exact h2 H1 d1 v1 d _ e (r1.rp hid_le) fun v hv => q3 H1 S1 Fw.rfl' (fun _ => ⟨rfl, Ex.rfl' _⟩) v hv.rp
end
end M3

/-! MX -/
set_option Elab.async false
set_option linter.all false
set_option maxRecDepth 100000
set_option maxHeartbeats 4000000
namespace M3
open PySem PySem.Spec PyProof.Rows L2

/-! ### whole numbers, sums of texts and of lists -/
@[irreducible] def bigN : Nat := 2 ^ 400000
@[irreducible] def divN : Nat := 2 ^ 8000
theorem bigN_e : bigN = 2 ^ 400000 := by unfold bigN; rfl
theorem divN_e : divN = 2 ^ 8000 := by unfold divN; rfl
def lim : Nat := 1000000
theorem lim_le {n : Nat} (h : n ≤ lim) : n ≤ sizeLine := Nat.le_trans h (by decide)
theorem lim_lt {n : Nat} (h : n < lim) : n < sizeLine := Nat.lt_of_lt_of_le h (by decide)
theorem log2_of {n a : Nat} (h : n < 2 ^ a) (ha : 0 < a) : n.log2 < a := PySem.Flt.log2_lt_of ha h

def D.add : D → D → Option D
  | .int i, .int j => some (.int (i + j))
  | .str x, .str y => if x.length + y.length ≤ lim then some (.str (x ++ y)) else none
  | .lst l, .lst m => if l.length + m.length ≤ lim then some (.lst (l ++ m)) else none
  | .tup l, .tup m => if l.length + m.length ≤ lim then some (.tup (l ++ m)) else none
  | _, _ => none
def D.sub : D → D → Option D
  | .int i, .int j => some (.int (i - j))
  | .bl i, .bl j => some (.int (b2i i - b2i j))
  | _, _ => none
def D.mul : D → D → Option D
  | .int i, .int j => if i.natAbs < bigN ∧ j.natAbs < bigN then some (.int (i * j)) else none
  | .lst l, .int k => if l.length * k.toNat ≤ lim ∧ -1000000 ≤ k ∧ k ≤ 1000000 then some (.lst (List.replicate k.toNat l).flatten) else none
  | _, _ => none
def D.fdiv : D → D → Option D
  | .int i, .int j => if j ≠ 0 ∧ j.natAbs < divN then some (.int (i.fdiv j)) else none
  | _, _ => none
def D.fmod : D → D → Option D
  | .int i, .int j => if j ≠ 0 then some (.int (i.fmod j)) else none
  | _, _ => none
def D.pow : D → D → Option D
  | .int i, .int j => if 0 ≤ j ∧ j ≤ 1000 ∧ i.natAbs < 2 ^ 1000 then some (.int (i ^ j.toNat)) else none
  | _, _ => none
def D.neg : D → Option D
  | .int i => some (.int (-i))
  | _ => none

section
variable {X : Cx}
theorem Rps.bor {K : Fg} {Hs H : Hp} : ∀ {l : List D} {xs : List V}, All2 (Bor K Hs H 0) l xs → Rps K Hs l xs := fun h => All2.rps h
theorem oAdd : OpG X (binaryOp .Add) D.add := by
  refine ⟨_, op_add.or (op_add_str.or (op_cat.or op_catA)), fun Hs H d1 d2 v1 v2 d Q e hf r1 r2 q => ?_⟩
  cases d1 with
  | int i =>
    cases d2 with
    | int j =>
      cases hf
      obtain rfl := (r1.rp e : v1 = _); obtain rfl := (r2.rp e : v2 = _)
      exact .inl ⟨i, j, rfl, rfl, q _ _ (.flat rfl)⟩
    | _ => cases hf
  | str x =>
    cases d2 with
    | str y =>
      obtain rfl := (r1.rp e : v1 = _); obtain rfl := (r2.rp e : v2 = _)
      dsimp only [D.add] at hf
      split at hf
      · cases hf
        exact .inr (.inl ⟨x, y, rfl, rfl, lim_le (by assumption), q _ _ (.flat rfl)⟩)
      · cases hf
    | _ => cases hf
  | lst l =>
    cases d2 with
    | lst m =>
      obtain ⟨a, xs, rfl, h1, h2⟩ := r1.list e
      obtain ⟨b, ys, rfl, h3, h4⟩ := r2.list e
      dsimp only [D.add] at hf
      split at hf
      · rename_i hl
        cases hf
        refine .inr (.inr (.inl ⟨a, b, xs, ys, rfl, rfl, h1, h3, ?_, fun p hp => q _ _ (.inr ⟨p, hp, rfl, .inl ⟨_, _, rfl, rfl, (All2.rps h2).app (All2.rps h4)⟩⟩)⟩))
        rw [h2.len, h4.len]; exact lim_le hl
      · cases hf
    | _ => cases hf
  | tup l =>
    cases d2 with
    | tup m =>
      obtain ⟨a, xs, rfl, h1, h2⟩ := r1.tuple e
      obtain ⟨b, ys, rfl, h3, h4⟩ := r2.tuple e
      dsimp only [D.add] at hf
      split at hf
      · rename_i hl
        cases hf
        refine .inr (.inr (.inr ⟨a, b, xs, ys, rfl, rfl, h1.t, h3.t, ?_, fun z => ?_, fun _ z => ?_, fun _ _ p hp => q _ _ (.inr ⟨p, hp, rfl, .inr ⟨_, _, rfl, rfl, h2.app h4⟩⟩)⟩))
        · rw [h2.len, h4.len]; exact lim_le hl
        · have zl : l = [] := List.eq_nil_of_length_eq_zero (by rw [← h2.len, z]; rfl)
          subst zl
          refine q _ _ (.inl ⟨rfl, ?_⟩)
          cases r2 with
          | inl h => exact h
          | inr h =>
            obtain ⟨_, _, _, ⟨_, z, _⟩ | ⟨_, _, z, _⟩⟩ := h <;> cases z
        · have zl : m = [] := List.eq_nil_of_length_eq_zero (by rw [← h4.len, z]; rfl)
          subst zl
          rw [List.append_nil] at q
          refine q _ _ (.inl ⟨rfl, ?_⟩)
          cases r1 with
          | inl h => exact h
          | inr h =>
            obtain ⟨_, _, _, ⟨_, z, _⟩ | ⟨_, _, z, _⟩⟩ := h <;> cases z
      · cases hf
    | _ => cases hf
  | _ => cases d2 <;> cases hf
theorem op_sub_bb : OpR X (binaryOp .Sub) (fun x y H Q => ∃ i j, x = .bl i ∧ y = .bl j ∧ Q (.int (b2i i - b2i j)) H) := by
  intro pins s σ H x y v u Q I rx ry h
  obtain ⟨i, j, rfl, rfl, q⟩ := h
  cases rx
  cases ry
  exact sub_bool ⟨.int _, H, I.tok _, ⟨_, rfl⟩, q⟩
theorem oSub : OpS X (binaryOp .Sub) D.sub := by
  refine ⟨_, op_sub.or op_sub_bb, fun H d1 d2 v1 v2 d Q hf r1 r2 q => ?_⟩
  cases d1 with
  | int i =>
    cases d2 with
    | int j =>
      cases hf
      obtain rfl := (r1 : v1 = _); obtain rfl := (r2 : v2 = _)
      exact .inl ⟨i, j, rfl, rfl, q _ rfl⟩
    | _ => cases hf
  | bl i =>
    cases d2 with
    | bl j =>
      cases hf
      obtain rfl := (r1 : v1 = _); obtain rfl := (r2 : v2 = _)
      exact .inr ⟨i, j, rfl, rfl, q _ rfl⟩
    | _ => cases hf
  | _ => cases d2 <;> cases hf
set_option exponentiation.threshold 500000 in
theorem mulW_of {i j : Int} (h : i.natAbs < bigN ∧ j.natAbs < bigN) : CMulW i j := by
  have g1 : i.natAbs < 2 ^ 400000 := bigN_e ▸ h.1
  have g2 : j.natAbs < 2 ^ 400000 := bigN_e ▸ h.2
  have h1 : i.natAbs.log2 < 400000 := log2_of g1 (by decide)
  have h2 : j.natAbs.log2 < 400000 := log2_of g2 (by decide)
  unfold CMulW
  omega
theorem oMul : OpG X (binaryOp .Mult) D.mul := by
  refine ⟨_, op_mulW.or op_rep, fun Hs H d1 d2 v1 v2 d Q e hf r1 r2 q => ?_⟩
  cases d1 with
  | int i =>
    cases d2 with
    | int j =>
      obtain rfl := (r1.rp e : v1 = _); obtain rfl := (r2.rp e : v2 = _)
      dsimp only [D.mul] at hf
      split at hf
      · cases hf
        exact .inl ⟨i, j, rfl, rfl, mulW_of (by assumption), q _ _ (.flat rfl)⟩
      · cases hf
    | _ => cases hf
  | lst l =>
    cases d2 with
    | int k =>
      obtain ⟨a, xs, rfl, h1, h2⟩ := r1.list e
      obtain rfl := (r2.rp e : v2 = _)
      dsimp only [D.mul] at hf
      split at hf
      · rename_i hl
        cases hf
        refine .inr ⟨a, k, xs, rfl, rfl, h1, by omega, by omega, ?_, fun p hp => q _ _ (.inr ⟨p, hp, rfl, .inl ⟨_, _, rfl, rfl, ?_⟩⟩)⟩
        · rw [h2.len]; exact lim_le hl.1
        · have h3 : Rps X.K Hs l xs := All2.rps h2
          generalize k.toNat = n
          induction n with
          | zero => rfl
          | succ n ih =>
            rw [List.replicate_succ, List.replicate_succ, List.flatten_cons, List.flatten_cons]
            exact h3.app ih
      · cases hf
    | _ => cases hf
  | _ => cases d2 <;> cases hf
set_option exponentiation.threshold 500000 in
theorem op_fdivZ : OpR X (binaryOp .FloorDiv) (rI (fun _ j => j ≠ 0 ∧ j.natAbs < divN) fun i j => .int (i.fdiv j)) :=
  opI fun _ _ _ _ _ _ _ hc q => floordiv_int hc.1 q (.inl (PyProof.noPylong_of_log2 (Nat.lt_trans (log2_of (a := 8000) (divN_e ▸ hc.2) (by decide)) (by decide))))
theorem oFdiv : OpS X (binaryOp .FloorDiv) D.fdiv := by
  refine ⟨_, op_fdivZ, fun H d1 d2 v1 v2 d Q hf r1 r2 q => ?_⟩
  cases d1 with
  | int i =>
    cases d2 with
    | int j =>
      obtain rfl := (r1 : v1 = _); obtain rfl := (r2 : v2 = _)
      dsimp only [D.fdiv] at hf
      split at hf
      · cases hf
        exact ⟨i, j, rfl, rfl, by assumption, q _ rfl⟩
      · cases hf
    | _ => cases hf
  | _ => cases d2 <;> cases hf
theorem oFmod : OpS X (binaryOp .Mod) D.fmod := by
  refine ⟨_, op_modN, fun H d1 d2 v1 v2 d Q hf r1 r2 q => ?_⟩
  cases d1 with
  | int i =>
    cases d2 with
    | int j =>
      obtain rfl := (r1 : v1 = _); obtain rfl := (r2 : v2 = _)
      dsimp only [D.fmod] at hf
      split at hf
      · cases hf
        exact ⟨i, j, rfl, rfl, by assumption, q _ rfl⟩
      · cases hf
    | _ => cases hf
  | _ => cases d2 <;> cases hf
theorem op_powZ : OpR X (binaryOp .Pow) (rI (fun i j => 0 ≤ j ∧ j ≤ 1000 ∧ i.natAbs < 2 ^ 1000) fun i j => .int (i ^ j.toNat)) :=
  opI fun i j _ _ _ _ _ hc q => pow_int hc.1 (by
    have h1 : i.natAbs.log2 < 1000 := log2_of hc.2.2 (by decide)
    have h2 : (Builtin.Int.intBits i : Int) ≤ 1001 := by
      unfold Builtin.Int.intBits
      split <;> omega
    have h3 : (Builtin.Int.intBits i : Int) * j ≤ 1001 * 1000 := Int.mul_le_mul h2 hc.2.1 hc.1 (by omega)
    omega) q
theorem oPow : OpS X (binaryOp .Pow) D.pow := by
  refine ⟨_, op_powZ, fun H d1 d2 v1 v2 d Q hf r1 r2 q => ?_⟩
  cases d1 with
  | int i =>
    cases d2 with
    | int j =>
      obtain rfl := (r1 : v1 = _); obtain rfl := (r2 : v2 = _)
      dsimp only [D.pow] at hf
      split at hf
      · cases hf
        exact ⟨i, j, rfl, rfl, by assumption, q _ rfl⟩
      · cases hf
    | _ => cases hf
  | _ => cases d2 <;> cases hf
theorem oNeg : UnS X (unaryOp .USub) D.neg := by
  refine ⟨_, un_neg, fun H d1 v1 d Q hf r1 q => ?_⟩
  cases d1 with
  | int i =>
    cases hf
    obtain rfl := (r1 : v1 = _)
    exact ⟨i, rfl, q _ rfl⟩
  | _ => cases hf

/-! ### comparisons -/
def cmpI (p : Int → Int → Bool) : D → D → Option D
  | .int i, .int j => some (.bl (p i j))
  | _, _ => none
abbrev D.lt := cmpI fun i j => decide (i < j)
abbrev D.le := cmpI fun i j => decide (i ≤ j)
abbrev D.gt := cmpI fun i j => decide (j < i)
abbrev D.ge := cmpI fun i j => decide (j ≤ i)
theorem oCmp {g : Value → Value → Sem Value} {p : Int → Int → Bool} (h : OpR X g (rI0 fun i j => .bl (p i j))) : OpS X g (cmpI p) := by
  refine ⟨_, h, fun H d1 d2 v1 v2 d Q hf r1 r2 q => ?_⟩
  cases d1 with
  | int i =>
    cases d2 with
    | int j =>
      cases hf
      obtain rfl := (r1 : v1 = _); obtain rfl := (r2 : v2 = _)
      exact ⟨i, j, rfl, rfl, q _ rfl⟩
    | _ => cases hf
  | _ => cases d2 <;> cases hf
theorem oLt : OpS X (compareOp .Lt) D.lt := oCmp op_lt
theorem oLe : OpS X (compareOp .LtE) D.le := oCmp op_le
theorem oGt : OpS X (compareOp .Gt) D.gt := oCmp op_gt
theorem oGe : OpS X (compareOp .GtE) D.ge := oCmp op_ge

mutual
def D.py : D → Option PyData
  | .non => some .none
  | .bl b => some (.bool b)
  | .int i => some (.int i)
  | .str x => some (.str x)
  | .lst l => (D.pys l).map .list
  | .tup l => (D.pys l).map .tuple
  | .dct _ _ => none
  | .fro _ => none
  | .val _ => none
def D.pys : List D → Option (List PyData)
  | [] => some []
  | d :: l => match D.py d, D.pys l with | some a, some r => some (a :: r) | _, _ => none
end
mutual
theorem D.dp {K : Fg} {H : Hp} : ∀ (d : D) {v : V} {p : PyData}, D.py d = some p → Rp K H d v → Dp K H v p
  | .non, _, _, e, h => by cases e; cases (h : _ = _); exact .non
  | .bl _, _, _, e, h => by cases e; cases (h : _ = _); exact .bl _
  | .int _, _, _, e, h => by cases e; cases (h : _ = _); exact .int _
  | .str _, _, _, e, h => by cases e; cases (h : _ = _); exact .str _
  | .lst l, _, _, e, ⟨a, xs, h1, h2, h3⟩ => by
    unfold D.py at e
    cases q : D.pys l with
    | none => rw [q] at e; cases e
    | some r =>
      rw [q] at e; cases e; subst h1
      exact .lst (SqL.of h2) (D.dps l q h3)
  | .tup l, _, _, e, ⟨a, xs, h1, h2, h3⟩ => by
    unfold D.py at e
    cases q : D.pys l with
    | none => rw [q] at e; cases e
    | some r =>
      rw [q] at e; cases e; subst h1
      exact .tup h2.t (D.dps l q h3)
  | .dct _ _, _, _, e, _ => by cases e
  | .fro _, _, _, e, _ => by cases e
  | .val _, _, _, e, _ => by cases e
theorem D.dps {K : Fg} {H : Hp} : ∀ (l : List D) {xs : List V} {ps : List PyData}, D.pys l = some ps → Rps K H l xs → DpAll K H xs ps
  | [], _, _, e, h => by cases e; rw [show _ = _ from h]; exact .nil
  | d :: l, _, _, e, ⟨x, r, h1, h2, h3⟩ => by
    unfold D.pys at e
    cases q1 : D.py d with
    | none => rw [q1] at e; cases e
    | some a =>
      cases q2 : D.pys l with
      | none => rw [q1, q2] at e; cases e
      | some rr =>
        rw [q1, q2] at e; cases e; subst h1
        exact .cons (D.dp d q1 h2) (D.dps l q2 h3)
end
/-- the data that == takes -/
def D.shaped (d : D) : Option PyData := match D.py d with | some p => if SeqAt.shaped p = true then some p else none | none => none
def D.beqS (d e : D) : Option Bool := match D.shaped d, D.shaped e with | some p, some q => some (PyData.eqv p q) | _, _ => none
def D.beq : D → D → Option Bool
  | .str x, .str y => some (decide (x = y))
  | d, e => D.beqS d e
def D.eq (d e : D) : Option D := (D.beq d e).map .bl
def D.ne (d e : D) : Option D := (D.beq d e).map fun b => .bl !b
theorem D.shaped_dp {K : Fg} {H : Hp} {d : D} {v : V} {p : PyData} (h : D.shaped d = some p) (r : Rp K H d v) : Dp K H v p ∧ SeqAt.shaped p = true := by
  unfold D.shaped at h
  cases q : D.py d with
  | none => rw [q] at h; cases h
  | some p' =>
    rw [q] at h
    dsimp only at h
    split at h
    · cases h; exact ⟨D.dp d q r, by assumption⟩
    · cases h
theorem beq_cases {K : Fg} {H : Hp} {d1 d2 : D} {v1 v2 : V} {b : Bool} (hf : D.beq d1 d2 = some b) (r1 : Rp K H d1 v1) (r2 : Rp K H d2 v2) :
    (scal v1 v2 = true ∧ b = decide (v1 = v2)) ∨ ∃ p q, Dp K H v1 p ∧ Dp K H v2 q ∧ SeqAt.shaped p = true ∧ SeqAt.shaped q = true ∧ b = PyData.eqv p q := by
  have gen : D.beqS d1 d2 = some b → ∃ p q, Dp K H v1 p ∧ Dp K H v2 q ∧ SeqAt.shaped p = true ∧ SeqAt.shaped q = true ∧ b = PyData.eqv p q := by
    intro hf
    unfold D.beqS at hf
    cases e1 : D.shaped d1 with
    | none => rw [e1] at hf; cases hf
    | some p1 =>
      cases e2 : D.shaped d2 with
      | none => rw [e1, e2] at hf; cases hf
      | some p2 =>
        rw [e1, e2] at hf; cases hf
        exact ⟨p1, p2, (D.shaped_dp e1 r1).1, (D.shaped_dp e2 r2).1, (D.shaped_dp e1 r1).2, (D.shaped_dp e2 r2).2, rfl⟩
  unfold D.beq at hf
  split at hf
  · cases hf
    obtain rfl := (r1 : v1 = _); obtain rfl := (r2 : v2 = _)
    rename_i x y
    refine .inl ⟨rfl, ?_⟩
    by_cases h : x = y
    · subst h; simp
    · have h' : ¬V.str x = V.str y := fun z => h (V.str.inj z)
      simp [h, h']
  · exact .inr (gen hf)
theorem oEq (hu : X.A.units + 64 < cLine) : OpS X (compareOp .Eq) D.eq := by
  refine ⟨_, op_eq.or (op_eqD hu), fun H d1 d2 v1 v2 d Q hf r1 r2 q => ?_⟩
  unfold D.eq at hf
  cases e : D.beq d1 d2 with
  | none => rw [e] at hf; cases hf
  | some b =>
    rw [e] at hf
    cases hf
    rcases beq_cases e r1 r2 with ⟨h, rfl⟩ | ⟨p, q', h1, h2, h3, h4, rfl⟩
    · exact .inl ⟨h, q _ rfl⟩
    · exact .inr ⟨p, q', h1, h2, h3, h4, q _ rfl⟩
theorem oNe (hu : X.A.units + 64 < cLine) : OpS X (compareOp .NotEq) D.ne := by
  refine ⟨_, op_ne.or (op_neD hu), fun H d1 d2 v1 v2 d Q hf r1 r2 q => ?_⟩
  unfold D.ne at hf
  cases e : D.beq d1 d2 with
  | none => rw [e] at hf; cases hf
  | some b =>
    rw [e] at hf
    cases hf
    rcases beq_cases e r1 r2 with ⟨h, rfl⟩ | ⟨p, q', h1, h2, h3, h4, rfl⟩
    · exact .inl ⟨h, q _ rfl⟩
    · exact .inr ⟨p, q', h1, h2, h3, h4, q _ rfl⟩
/-- is None, is True, is False -/
def D.okIs : D → Bool
  | .val u => (match u with | .ref _ => true | .ty _ => true | _ => false)
  | _ => true
def D.isNon : D → Bool
  | .non => true
  | _ => false
def D.isBl (b : Bool) : D → Bool
  | .bl c => c == b
  | _ => false
theorem Rp.isNon {K : Fg} {H : Hp} : ∀ {d : D} {v : V}, Rp K H d v → d.okIs = true → decide (v = .non) = d.isNon
  | .non, _, h, _ => by cases (h : _ = _); rfl
  | .bl _, _, h, _ => by cases (h : _ = _); rfl
  | .int _, _, h, _ => by cases (h : _ = _); rfl
  | .str _, _, h, _ => by cases (h : _ = _); rfl
  | .lst _, _, ⟨_, _, h, _⟩, _ => by subst h; rfl
  | .tup _, _, ⟨_, _, h, _⟩, _ => by subst h; rfl
  | .dct _ _, _, ⟨_, _, h, _⟩, _ => by subst h; rfl
  | .fro _, _, ⟨_, _, h, _⟩, _ => by subst h; rfl
  | .val u, _, h, g => by
    cases (h : _ = _)
    cases u <;> first | rfl | cases g
theorem Rp.isBl {K : Fg} {H : Hp} {b : Bool} : ∀ {d : D} {v : V}, Rp K H d v → d.okIs = true → decide (v = .bl b) = d.isBl b
  | .non, _, h, _ => by cases (h : _ = _); rfl
  | .bl c, _, h, _ => by cases (h : _ = _); cases c <;> cases b <;> rfl
  | .int _, _, h, _ => by cases (h : _ = _); rfl
  | .str _, _, h, _ => by cases (h : _ = _); rfl
  | .lst _, _, ⟨_, _, h, _⟩, _ => by subst h; rfl
  | .tup _, _, ⟨_, _, h, _⟩, _ => by subst h; rfl
  | .dct _ _, _, ⟨_, _, h, _⟩, _ => by subst h; rfl
  | .fro _, _, ⟨_, _, h, _⟩, _ => by subst h; rfl
  | .val u, _, h, g => by
    cases (h : _ = _)
    cases u <;> first | rfl | cases g
def D.is (neg : Bool) (d e : D) : Option D :=
  if d.okIs = true then
    match e with
    | .non => some (.bl (if neg then !d.isNon else d.isNon))
    | .bl b => some (.bl (if neg then !d.isBl b else d.isBl b))
    | _ => none
  else none
section
variable {M : Model} {A : Around} {E : Value → Shared → Prop} {s : Shared} {Q : Value → Shared → Prop}
theorem is_bool_gen {x : V} {v : Value} {b : Bool} (r : RelV x v) (h : Q (.bool (v == .bool b)) s) : wpAny M A (compareOp .Is v (.bool b)) Q E s := by
  cases x <;> first
    | (obtain rfl := (r : v = _); exact wpAny_pure h)
    | (obtain ⟨t, rfl⟩ := (r : ∃ t, _); exact wpAny_pure h)
theorem isnot_bool_gen {x : V} {v : Value} {b : Bool} (r : RelV x v) (h : Q (.bool (!(v == .bool b))) s) : wpAny M A (compareOp .IsNot v (.bool b)) Q E s := by
  cases x <;> first
    | (obtain rfl := (r : v = _); exact wpAny_pure h)
    | (obtain ⟨t, rfl⟩ := (r : ∃ t, _); exact wpAny_pure h)
end
theorem relV_bool {x : V} {v : Value} {b : Bool} (r : RelV x v) : (v == Value.bool b) = decide (x = .bl b) := by
  cases x with
  | bl c =>
    obtain rfl := (r : v = _)
    cases c <;> cases b <;> rfl
  | non => obtain rfl := (r : v = _); rfl
  | int i => obtain ⟨t, rfl⟩ := (r : ∃ t, _); rfl
  | str i => obtain ⟨t, rfl⟩ := (r : ∃ t, _); rfl
  | byt i => obtain ⟨t, rfl⟩ := (r : ∃ t, _); rfl
  | flt i => obtain ⟨t, rfl⟩ := (r : ∃ t, _); rfl
  | ref a => obtain rfl := (r : v = _); rfl
  | ty n => obtain rfl := (r : v = _); rfl
theorem op_isB2 : OpR X (compareOp .Is) (fun x y H Q => ∃ b, y = .bl b ∧ Q (.bl (decide (x = .bl b))) H) := by
  intro pins s σ H x y v u Q I rx ry h
  obtain ⟨b, rfl, q⟩ := h
  cases ry
  exact is_bool_gen rx ⟨.bl _, H, I, rfl, by rw [relV_bool rx]; exact q⟩
theorem op_notB2 : OpR X (compareOp .IsNot) (fun x y H Q => ∃ b, y = .bl b ∧ Q (.bl (!decide (x = .bl b))) H) := by
  intro pins s σ H x y v u Q I rx ry h
  obtain ⟨b, rfl, q⟩ := h
  cases ry
  exact isnot_bool_gen rx ⟨.bl _, H, I, rfl, by rw [relV_bool rx]; exact q⟩
theorem oIs : OpS X (compareOp .Is) (D.is false) := by
  refine ⟨_, op_isN.or op_isB2, fun H d1 d2 v1 v2 d Q hf r1 r2 q => ?_⟩
  unfold D.is at hf
  split at hf
  · rename_i hk
    cases d2 with
    | non =>
      cases hf
      exact .inl ⟨r2, q _ (congrArg V.bl (r1.isNon hk))⟩
    | bl b =>
      cases hf
      exact .inr ⟨b, r2, q _ (congrArg V.bl (r1.isBl hk))⟩
    | _ => cases hf
  · cases hf
theorem oIsNot : OpS X (compareOp .IsNot) (D.is true) := by
  refine ⟨_, op_notN.or op_notB2, fun H d1 d2 v1 v2 d Q hf r1 r2 q => ?_⟩
  unfold D.is at hf
  split at hf
  · rename_i hk
    cases d2 with
    | non =>
      cases hf
      exact .inl ⟨r2, q _ (congrArg (fun b => V.bl (!b)) (r1.isNon hk))⟩
    | bl b =>
      cases hf
      exact .inr ⟨b, r2, q _ (congrArg (fun b => V.bl (!b)) (r1.isBl hk))⟩
    | _ => cases hf
  · cases hf
end
end M3

/-! MY -/
set_option Elab.async false
set_option linter.all false
set_option maxRecDepth 100000
set_option maxHeartbeats 4000000
namespace M3
open PySem PySem.Spec PyProof.Rows L2

section
variable {X : Cx} {P O : List Nat} {W : WX} {β : Bc} {F : List (List Addr)} {G : List Addr} {σ : L2.St} {H : Hp} {α γ : Type} {b b1 b2 : Bool} {env : Sl}
theorem Pst.bindL {R : γ → Hp → Prop} {R1 : α → Hp → Prop} {r : Rs α} {k : α → Sl → Rs γ} (h : Pst X P O W β F G σ H b env R (r.bind k))
    (step : ∀ a env1 H1, Stt X.K P O β F G env1 σ H1 → Fw F G H H1 → (b = true → env1 = env ∧ Ex H H1) → Pst X P O W β F G σ H1 true env1 R (k a env1) → R1 a H1) : Pst X P O W β F G σ H b env R1 r := by
  rw [← Bool.and_true b] at h
  exact h.bind step
theorem Pst.here {R : α → Hp → Prop} {a : α} (h : Pst X P O W β F G σ H b env R (.ok a env)) (S : Stt X.K P O β F G env σ H) : R a H := h H S Fw.rfl' fun _ => ⟨rfl, Ex.rfl' _⟩
/-- an outcome of an operation, at an end -/
theorem Pst.out {Q : VK} {d : D} {n : Nat} {v : V} {H' : Hp} (h : Pst X P O W β F G σ H b env (fun d H' => ∀ v, Bor X.K (hid H' (msk F G)) H' n d v → Q v H') (.ok d env)) (S : Stt X.K P O β F G env σ H) (o : Out X.K (hid H (msk F G)) H H' d v) : Q v H' :=
  h H' (S.ext o.ex) (Fw.of S o.ex) (fun _ => ⟨rfl, o.ex⟩) v (Bor.up n (o.rp S))
end

section
variable {X : Cx} {P O : List Nat} {W : WX} {n k n1 n2 n3 : Nat} {b b1 b2 b3 : Bool} {e a c : Expr} {m ma mb mc : M} {pos : Pos} {es : List Expr} {ms mt : Mi (List D)} {rest : List Expr}

theorem me_2G {op : Expr} {f : D → D → Option D} {r : R2} (hr : ∀ Hs H d1 d2 v1 v2 d Q, Ex Hs H → f d1 d2 = some d → Bor X.K Hs H 1 d1 v1 → Bor X.K Hs H 1 d2 v2 → (∀ v H', Out X.K Hs H H' d v → Q v H') → r v1 v2 H Q)
    (hp : ∀ ta tb, PE X a ta → PE X c tb → PE X op (tOp r ta tb)) (ha : ME X P O W n1 b1 a ma) (hb : ME X P O W n2 b2 c mb) (hm : (n1 == 0 || (b2 && n1 == 1)) = true) (hn : (n2 == 0 || n2 == 1) = true) : ME X P O W 0 (b1 && b2) op (m2 f ma mb) := by
  obtain ⟨ta, pa, ha⟩ := ha.run
  obtain ⟨tb, pb, hb⟩ := hb.run
  refine ⟨_, hp _ _ pa pb, fun β F G env σ H Q S p => ?_⟩
  refine ha β F G env σ H _ S (p.bind fun d1 env1 H1 S1 x1 p1 q v1 r1 => ?_)
  refine hb β F G env1 σ H1 _ S1 (q.bindL fun d2 env2 H2 S2 x2 p2 q2 v2 r2 => ?_)
  obtain ⟨d, e, q3⟩ := q2.lift
  have up : ∀ {n : Nat} {d : D} {v : V}, n = 0 ∨ n = 1 → Bor X.K (hid H2 (msk F G)) H2 n d v → Bor X.K (hid H2 (msk F G)) H2 1 d v := fun {n d v} h r => by
    rcases h with rfl | rfl
    · exact Bor.up 1 r
    · exact r
  have r1' : Bor X.K (hid H2 (msk F G)) H2 1 d1 v1 := by
    rcases Bool.or_eq_true _ _ ▸ hm with h | h
    · have z : n1 = 0 := by simpa using h
      subst z
      exact up (.inl rfl) (r1.mono x2.ex _ (.inl rfl))
    · rw [Bool.and_eq_true] at h
      have z : n1 = 1 := by simpa using h.2
      subst z
      exact r1.mono x2.ex _ (.inr (p2 h.1).2)
  have r2' : Bor X.K (hid H2 (msk F G)) H2 1 d2 v2 := up (by simpa using hn) r2
  exact hr _ H2 d1 d2 v1 v2 d _ hid_le e r1' r2' fun v H' o => q3.out S2 o
theorem me_binG {op : Operator} {f : D → D → Option D} (ho : OpG X (binaryOp op) f) (ha : ME X P O W n1 b1 a ma) (hb : ME X P O W n2 b2 c mb) (hm : (n1 == 0 || (b2 && n1 == 1)) = true := by rfl) (hn : (n2 == 0 || n2 == 1) = true := by rfl) :
    ME X P O W 0 (b1 && b2) (.BinOp a op c pos) (m2 f ma mb) := by
  obtain ⟨r, h1, h2⟩ := ho
  exact me_2G h2 (fun ta tb => pe_op h1) ha hb hm hn

/-! ### and, or, not, if -/
theorem me_one {op} (h : ME X P O W n b a ma) : ME X P O W n b (.BoolOp op [a] pos) ma := by
  obtain ⟨t, h1, h2⟩ := h.run
  exact ⟨t, pe_one h1, h2⟩
theorem me_and (ha : ME X P O W n1 b1 a ma) (hb : ME X P O W n2 b2 (.BoolOp .And (c :: rest) pos) mb) : ME X P O W n2 (b1 && b2) (.BoolOp .And (a :: c :: rest) pos) (mAnd ma mb) := by
  obtain ⟨ta, pa, ha⟩ := ha.run
  obtain ⟨tb, pb, hb⟩ := hb.run
  refine ⟨_, pe_and pa pb, fun β F G env σ H Q S p => ?_⟩
  refine ha β F G env σ H _ S (p.bind fun d1 env1 H1 S1 x1 p1 q v1 r1 => ?_)
  cases d1 with
  | bl k =>
    have hv : v1 = .bl k := r1.rp hid_le
    subst hv
    refine ⟨k, rfl, ?_⟩
    cases k with
    | true => exact hb β F G env1 σ H1 _ S1 q
    | false => exact q.here S1 _ (Bor.up _ rfl)
  | _ => exact q.elim
theorem me_or (ha : ME X P O W n1 b1 a ma) (hb : ME X P O W n2 b2 (.BoolOp .Or (c :: rest) pos) mb) : ME X P O W n2 (b1 && b2) (.BoolOp .Or (a :: c :: rest) pos) (mOr ma mb) := by
  obtain ⟨ta, pa, ha⟩ := ha.run
  obtain ⟨tb, pb, hb⟩ := hb.run
  refine ⟨_, pe_or pa pb, fun β F G env σ H Q S p => ?_⟩
  refine ha β F G env σ H _ S (p.bind fun d1 env1 H1 S1 x1 p1 q v1 r1 => ?_)
  cases d1 with
  | bl k =>
    have hv : v1 = .bl k := r1.rp hid_le
    subst hv
    refine ⟨k, rfl, ?_⟩
    cases k with
    | true => exact q.here S1 _ (Bor.up _ rfl)
    | false => exact hb β F G env1 σ H1 _ S1 q
  | _ => exact q.elim
theorem me_not (ha : ME X P O W n b a ma) : ME X P O W 0 b (.UnaryOp .Not a pos) (mNot ma) := by
  obtain ⟨ta, pa, ha⟩ := ha.run
  refine ⟨_, pe_not pa, fun β F G env σ H Q S p => ?_⟩
  refine ha β F G env σ H _ S (p.bindL fun d1 env1 H1 S1 x1 p1 q v1 r1 => ?_)
  cases d1 with
  | bl k =>
    have hv : v1 = .bl k := r1.rp hid_le
    subst hv
    exact ⟨k, rfl, q.here S1 _ rfl⟩
  | _ => exact q.elim
theorem me_if (hc : MT X P O W b1 c mc) (ha : ME X P O W n b2 a ma) (hb : ME X P O W n b3 e mb) : ME X P O W n (b1 && (b2 && b3)) (.IfExp c a e pos) (mIf mc ma mb) := by
  obtain ⟨tc, pc, hc⟩ := hc.run
  obtain ⟨ta, pa, ha⟩ := ha.run
  obtain ⟨tb, pb, hb⟩ := hb.run
  refine ⟨_, pe_ifExp pc pa pb, fun β F G env σ H Q S p => ?_⟩
  refine hc β F G env σ H _ S (p.bind fun d1 env1 H1 S1 x1 p1 q => ?_)
  cases d1 with
  | bl k =>
    refine ⟨k, rfl, ?_⟩
    cases k with
    | true => exact ha β F G env1 σ H1 _ S1 (q.weak fun h => (Bool.and_eq_true _ _ ▸ h).1)
    | false => exact hb β F G env1 σ H1 _ S1 (q.weak fun h => (Bool.and_eq_true _ _ ▸ h).2)
  | _ => exact q.elim

/-! ### tests -/
def mB (m : M) : M := fun e => (m e).bind fun d e1 => match d with | .bl k => .ok (.bl k) e1 | _ => .bad
theorem mt_of {t : TE} {T : TT} {m : M} (h2 : ∀ β F G env σ H Q, Stt X.K P O β F G env σ H → Pst X P O W β F G σ H b env (fun d H' => ∀ v, Bor X.K (hid H' (msk F G)) H' n d v → Q v H') (m env) → t σ H Q)
    (hT : ∀ σ H Q, t σ H (fun x H' => ∃ k, x = .bl k ∧ Q k H') → T σ H Q) : ∀ β F G env σ H Q, Stt X.K P O β F G env σ H → Pst X P O W β F G σ H b env (fun d H' => ∃ c, d = .bl c ∧ Q c H') (mB m env) → T σ H Q := fun β F G env σ H Q S p => by
  refine hT _ _ _ (h2 β F G env σ H _ S (p.bindL fun d1 env1 H1 S1 x1 p1 q v1 r1 => ?_))
  cases d1 with
  | bl k =>
    have hv : v1 = .bl k := r1.rp hid_le
    subst hv
    obtain ⟨c, e, q'⟩ := q.here S1
    cases e
    exact ⟨k, rfl, q'⟩
  | _ => exact q.elim
theorem mt_val (h : ME X P O W n b e m) (he : ∀ whole, isTrue e X.env whole = (do let v ← whole; standAt e.pos; holding [v] (truthy v)) := by intro _; rfl) : MT X P O W b e (mB m) := by
  obtain ⟨t, h1, h2⟩ := h.run
  exact ⟨_, pt_val h1 he, mt_of h2 fun _ _ _ h => h⟩
theorem mt_cmp {op : CmpOp} {f : D → D → Option D} (ho : OpS X (compareOp op) f) (ha : ME X P O W n1 b1 a ma) (hb : ME X P O W n2 b2 c mb) (hk : behindInMarks op c = false := by first | exact nomark _ | rfl) (hm : (n1 == 0 || b2) = true := by rfl) : MT X P O W (b1 && b2) (.Compare a [op] [c] pos) (mB (m2 f ma mb)) := by
  obtain ⟨r, h1, h2⟩ := ho
  obtain ⟨ta, pa, ha⟩ := ha.run
  obtain ⟨tb, pb, hb⟩ := hb.run
  refine ⟨_, pt_cmpR h1 pa pb hk, mt_of (n := 0) (fun β F G env σ H Q S p => ?_) fun _ _ _ h => h⟩
  refine ha β F G env σ H _ S (p.bind fun d1 env1 H1 S1 x1 p1 q v1 r1 => ?_)
  refine hb β F G env1 σ H1 _ S1 (q.bindL fun d2 env2 H2 S2 x2 p2 q2 v2 r2 => ?_)
  obtain ⟨d, e, q3⟩ := q2.lift
  have r1' : Bor X.K (hid H2 (msk F G)) H2 n1 d1 v1 := r1.mono x2.ex _ (by
    rcases Bool.or_eq_true _ _ ▸ hm with h | h
    · exact .inl (by simpa using h)
    · exact .inr (p2 h).2)
  exact h2 H2 d1 d2 v1 v2 d _ e (r1'.rp hid_le) (r2.rp hid_le) fun v hv => q3.here S2 v hv.rp
theorem mt_not (ha : MT X P O W b a ma) : MT X P O W b (.UnaryOp .Not a pos) (mNot ma) := by
  obtain ⟨ta, pa, ha⟩ := ha.run
  refine ⟨_, pt_not pa, fun β F G env σ H Q S p => ?_⟩
  refine ha β F G env σ H _ S (p.bindL fun d1 env1 H1 S1 x1 p1 q => ?_)
  cases d1 with
  | bl k =>
    obtain ⟨c, e, q'⟩ := q.here S1
    cases e
    exact ⟨k, rfl, q'⟩
  | _ => exact q.elim
theorem mw_and1 (ha : MT X P O W b a ma) : MW X P O W b (.BoolOp .And [a] pos) ma := by
  obtain ⟨ta, pa, ha⟩ := ha.run
  exact ⟨_, pw_and1 pa, ha⟩
theorem mw_or1 (ha : MT X P O W b a ma) : MW X P O W b (.BoolOp .Or [a] pos) ma := by
  obtain ⟨ta, pa, ha⟩ := ha.run
  exact ⟨_, pw_or1 pa, ha⟩
theorem mw_and (ha : MT X P O W b1 a ma) (hb : MW X P O W b2 (.BoolOp .And (c :: rest) pos) mb) : MW X P O W (b1 && b2) (.BoolOp .And (a :: c :: rest) pos) (mAnd ma mb) := by
  obtain ⟨ta, pa, ha⟩ := ha.run
  obtain ⟨tb, pb, hb⟩ := hb.run
  refine ⟨_, pw_and pa pb, fun β F G env σ H Q S p => ?_⟩
  refine ha β F G env σ H _ S (p.bind fun d1 env1 H1 S1 x1 p1 q => ?_)
  cases d1 with
  | bl k =>
    refine ⟨k, rfl, ?_⟩
    cases k with
    | true => exact hb β F G env1 σ H1 _ S1 q
    | false =>
      obtain ⟨c, e, q'⟩ := q.here S1
      cases e
      exact q'
  | _ => exact q.elim
theorem mw_or (ha : MT X P O W b1 a ma) (hb : MW X P O W b2 (.BoolOp .Or (c :: rest) pos) mb) : MW X P O W (b1 && b2) (.BoolOp .Or (a :: c :: rest) pos) (mOr ma mb) := by
  obtain ⟨ta, pa, ha⟩ := ha.run
  obtain ⟨tb, pb, hb⟩ := hb.run
  refine ⟨_, pw_or pa pb, fun β F G env σ H Q S p => ?_⟩
  refine ha β F G env σ H _ S (p.bind fun d1 env1 H1 S1 x1 p1 q => ?_)
  cases d1 with
  | bl k =>
    refine ⟨k, rfl, ?_⟩
    cases k with
    | true =>
      obtain ⟨c, e, q'⟩ := q.here S1
      cases e
      exact q'
    | false => exact hb β F G env1 σ H1 _ S1 q
  | _ => exact q.elim
/-! ### a < b < c -/
def m3 (f g : D → D → Option D) (a b c : M) : M := fun e => (a e).bind fun x e1 => (b e1).bind fun y e2 => (liftO (f x y) e2).bind fun z e3 =>
  match z with | .bl true => (c e3).bind fun w e4 => liftO (g y w) e4 | .bl false => .ok (.bl false) e3 | _ => .bad
theorem me_chain {op op' : CmpOp} {f g : D → D → Option D} (ho : OpS X (compareOp op) f) (ho' : OpS X (compareOp op') g) (ha : ME X P O W 0 b1 a ma) (hb : ME X P O W 0 b2 c mb) (hc : ME X P O W 0 b3 e mc)
    (hm : lastMarks [op, op'] [c, e] = false := by with_unfolding_all rfl) : ME X P O W 0 (b1 && (b2 && b3)) (.Compare a [op, op'] [c, e] pos) (m3 f g ma mb mc) := by
  obtain ⟨r, g1, g2⟩ := ho
  obtain ⟨r', g3, g4⟩ := ho'
  obtain ⟨ta, pa, ha⟩ := ha.run
  obtain ⟨tb, pb, hb⟩ := hb.run
  obtain ⟨tc, pc, hc⟩ := hc.run
  refine ⟨_, pe_chain g1 g3 pa pb pc hm, fun β F G env σ H Q S p => ?_⟩
  refine ha β F G env σ H _ S (p.bind fun d1 env1 H1 S1 x1 p1 q v1 r1 => ?_)
  refine hb β F G env1 σ H1 _ S1 (q.bind fun d2 env2 H2 S2 x2 p2 q2 v2 r2 => ?_)
  cases hz : f d1 d2 with
  | none => rw [hz] at q2; exact q2.elim
  | some z =>
    rw [hz] at q2
    refine g2 H2 d1 d2 v1 v2 z _ hz (Bor.rp hid_le 0 (Bor.mono (H := H1) x2.ex 0 (.inl rfl) r1)) (Bor.rp hid_le 0 r2) fun v hv => ?_
    cases z with
    | bl k =>
      refine ⟨k, hv, ?_⟩
      cases k with
      | true =>
        refine hc β F G env2 σ H2 _ S2 (Pst.bindL (k := fun w e4 => liftO (g d2 w) e4) q2 fun d3 env3 H3 S3 x3 p3 q3 v3 r3 => ?_)
        obtain ⟨d, e, q4⟩ := q3.lift
        exact g4 H3 d2 d3 v2 v3 d _ e (Bor.rp hid_le 0 (Bor.mono (H := H2) x3.ex 0 (.inl rfl) r2)) (Bor.rp hid_le 0 r3) fun v hv => q4.here S3 v hv.rp
      | false => exact Pst.here (a := D.bl false) q2 S2 _ rfl
    | _ => exact q2.elim
theorem mt_chain {op op' : CmpOp} {f g : D → D → Option D} (ho : OpS X (compareOp op) f) (ho' : OpS X (compareOp op') g) (ha : ME X P O W 0 b1 a ma) (hb : ME X P O W 0 b2 c mb) (hc : ME X P O W 0 b3 e mc)
    (hm : lastMarks [op, op'] [c, e] = false := by with_unfolding_all rfl) : MT X P O W (b1 && (b2 && b3)) (.Compare a [op, op'] [c, e] pos) (mB (m3 f g ma mb mc)) := by
  obtain ⟨r, g1, g2⟩ := ho
  obtain ⟨r', g3, g4⟩ := ho'
  obtain ⟨ta, pa, ha⟩ := ha.run
  obtain ⟨tb, pb, hb⟩ := hb.run
  obtain ⟨tc, pc, hc⟩ := hc.run
  refine ⟨_, pt_chain g1 g3 pa pb pc hm, mt_of (n := 0) (fun β F G env σ H Q S p => ?_) fun _ _ _ h => h⟩
  refine ha β F G env σ H _ S (p.bind fun d1 env1 H1 S1 x1 p1 q v1 r1 => ?_)
  refine hb β F G env1 σ H1 _ S1 (q.bind fun d2 env2 H2 S2 x2 p2 q2 v2 r2 => ?_)
  cases hz : f d1 d2 with
  | none => rw [hz] at q2; exact q2.elim
  | some z =>
    rw [hz] at q2
    refine g2 H2 d1 d2 v1 v2 z _ hz (Bor.rp hid_le 0 (Bor.mono (H := H1) x2.ex 0 (.inl rfl) r1)) (Bor.rp hid_le 0 r2) fun v hv => ?_
    cases z with
    | bl k =>
      refine ⟨k, hv, ?_⟩
      cases k with
      | true =>
        refine hc β F G env2 σ H2 _ S2 (Pst.bindL (k := fun w e4 => liftO (g d2 w) e4) q2 fun d3 env3 H3 S3 x3 p3 q3 v3 r3 => ?_)
        obtain ⟨d, e, q4⟩ := q3.lift
        exact g4 H3 d2 d3 v2 v3 d _ e (Bor.rp hid_le 0 (Bor.mono (H := H2) x3.ex 0 (.inl rfl) r2)) (Bor.rp hid_le 0 r3) fun v hv => q4.here S3 v hv.rp
      | false => exact Pst.here (a := D.bl false) q2 S2 _ rfl
    | _ => exact q2.elim

/-! ### arguments, displays -/
theorem ma_nil : MA X P O W true [] mNil := ⟨_, pa_nil, fun β F G env σ H Q S p => p.here S [] rfl⟩
theorem ma_cons (ha : ME X P O W 0 b1 a ma) (hr : MA X P O W b2 es ms) (hs : starEach (a :: es) X.env = (false, eval a X.env) :: starEach es X.env := by rfl) : MA X P O W (b1 && b2) (a :: es) (mCons ma ms) := by
  obtain ⟨ta, pa, ha⟩ := ha.run
  obtain ⟨tr, pr, hr⟩ := hr.run
  refine ⟨_, pa_cons pa pr hs, fun β F G env σ H Q S p => ?_⟩
  refine ha β F G env σ H _ S (p.bind fun d1 env1 H1 S1 x1 p1 q v1 r1 => ?_)
  refine hr β F G env1 σ H1 _ S1 (q.bindL fun ds env2 H2 S2 x2 p2 q2 vs r2 => ?_)
  exact q2.here S2 (v1 :: vs) ⟨v1, vs, rfl, Rp.ex x2.ex d1 r1, r2⟩
theorem mab_nil : MAB X P O W n true [] mNil := ⟨_, pa_nil, fun β F G env σ H Q S p => p.here S [] trivial⟩
theorem mab_cons (ha : ME X P O W n b1 a ma) (hr : MAB X P O W n b2 es ms) (hm : (n == 0 || b2) = true := by rfl) (hs : starEach (a :: es) X.env = (false, eval a X.env) :: starEach es X.env := by rfl) : MAB X P O W n (b1 && b2) (a :: es) (mCons ma ms) := by
  obtain ⟨ta, pa, ha⟩ := ha.run
  obtain ⟨tr, pr, hr⟩ := hr.run
  refine ⟨_, pa_cons pa pr hs, fun β F G env σ H Q S p => ?_⟩
  refine ha β F G env σ H _ S (p.bind fun d1 env1 H1 S1 x1 p1 q v1 r1 => ?_)
  refine hr β F G env1 σ H1 _ S1 (q.bindL fun ds env2 H2 S2 x2 p2 q2 vs r2 => ?_)
  refine q2.here S2 (v1 :: vs) ⟨r1.mono x2.ex _ ?_, r2⟩
  rcases Bool.or_eq_true _ _ ▸ hm with h | h
  · exact .inl (by simpa using h)
  · exact .inr (p2 h).2
theorem MAB.up (h : MAB X P O W 0 b es ms) : MAB X P O W n b es ms := by
  obtain ⟨t, p, h⟩ := h.run
  exact ⟨t, p, fun β F G env σ H Q S q => h β F G env σ H Q S (q.imp fun ds H' g vs r => g vs (r.imp fun _ _ h => Bor.up n h))⟩
def mkTup (ds : List D) : Option D := if ds.length ≤ lim then some (.tup ds) else none
def mkLst (ds : List D) : Option D := if ds.length ≤ lim then some (.lst ds) else none
theorem me_tup {x1} (h : MA X P O W b es ms) : ME X P O W 0 b (.Tuple es x1 pos) (mf mkTup ms) := by
  obtain ⟨ta, pa, ha⟩ := h.run
  refine ⟨_, pe_tup pa, fun β F G env σ H Q S p => ?_⟩
  refine ha β F G env σ H _ S (p.bindL fun ds env1 H1 S1 x1 p1 q vs r1 => ?_)
  obtain ⟨d, e, q3⟩ := q.lift
  unfold mkTup at e
  split at e
  · rename_i hl
    cases e
    exact ⟨by rw [r1.len]; exact lim_le hl, fun p hp => q3.out S1 (.inr ⟨p, hp, rfl, .inr ⟨_, _, rfl, rfl, r1⟩⟩)⟩
  · cases e
theorem me_lst (h : MA X P O W b es ms) : ME X P O W 0 b (.List es pos) (mf mkLst ms) := by
  obtain ⟨ta, pa, ha⟩ := h.run
  refine ⟨_, pe_lst pa, fun β F G env σ H Q S p => ?_⟩
  refine ha β F G env σ H _ S (p.bindL fun ds env1 H1 S1 x1 p1 q vs r1 => ?_)
  obtain ⟨d, e, q3⟩ := q.lift
  unfold mkLst at e
  split at e
  · rename_i hl
    cases e
    exact ⟨by rw [r1.len]; exact lim_le hl, fun p hp => q3.out S1 (.inr ⟨p, hp, rfl, .inl ⟨_, _, rfl, rfl, r1⟩⟩)⟩
  · cases e

/-! ### subscripts, slices -/
def D.ix : D → D → Option D
  | .lst l, .int i => atI l i
  | .tup l, .int i => atI l i
  | .fro l, .int i => atI l i
  | .str z, .int i => if z.length ≤ lim then (atI z.cps.toList i).map fun c => .str ⟨#[c]⟩ else none
  | _, _ => none
theorem atI2 {Pr : D → V → Prop} {l : List D} {xs : List V} {i : Int} {d : D} (h : All2 Pr l xs) (e : atI l i = some d) : ∃ x, atI xs i = some x ∧ Pr d x := by
  unfold atI at e ⊢
  rw [h.len]
  cases q : ixN l.length i with
  | none => rw [q] at e; cases e
  | some j =>
    rw [q] at e
    exact h.get e
theorem me_ix (ha : ME X P O W n1 b1 a ma) (hb : ME X P O W n2 b2 c mb) (hs : PlainIx c := by exact fun _ _ => rfl) (hm : (n1 == 0 || b2) = true := by rfl) (hn : n1.pred = n := by rfl) : ME X P O W n (b1 && b2) (.Subscript a c pos) (m2 D.ix ma mb) := by
  subst hn
  obtain ⟨ta, pa, ha⟩ := ha.run
  obtain ⟨tb, pb, hb⟩ := hb.run
  refine ⟨_, pe_ix ix_seq pa pb hs, fun β F G env σ H Q S p => ?_⟩
  refine ha β F G env σ H _ S (p.bind fun d1 env1 H1 S1 x1 p1 q v1 r1 => ?_)
  refine hb β F G env1 σ H1 _ S1 (q.bindL fun d2 env2 H2 S2 x2 p2 q2 v2 r2 => ?_)
  obtain ⟨d, e, q3⟩ := q2.lift
  have r1' : Bor X.K (hid H2 (msk F G)) H2 n1 d1 v1 := r1.mono x2.ex _ (by
    rcases Bool.or_eq_true _ _ ▸ hm with h | h
    · exact .inl (by simpa using h)
    · exact .inr (p2 h).2)
  cases d2 with
  | int i =>
    have hv2 : v2 = .int i := r2.rp hid_le
    subst hv2
    cases d1 with
    | lst l =>
      obtain ⟨a, xs, rfl, h1, h2⟩ := r1'.list hid_le
      obtain ⟨x, e1, rx⟩ := atI2 h2 e
      exact .inl ⟨a, xs, i, x, rfl, rfl, SqL.of h1, e1, q3.here S2 _ rx⟩
    | tup l =>
      obtain ⟨a, xs, rfl, h1, h2⟩ := r1'.tuple hid_le
      obtain ⟨x, e1, rx⟩ := atI2 (All2.of_rps h2) e
      exact .inr (.inl ⟨a, xs, i, x, rfl, rfl, h1.t, e1, q3.here S2 _ (Bor.up _ rx)⟩)
    | fro l =>
      have h0 : Rp X.K (hid H2 (msk F G)) (.fro l) v1 := by
        cases n1 with
        | zero => exact r1'
        | succ n => rcases r1' with h | ⟨_, _, _, ⟨_, z, _⟩ | ⟨_, _, z, _⟩⟩ <;> first | exact h | cases z
      obtain ⟨a, xs, rfl, h1, h2⟩ := h0
      obtain ⟨x, e1, rx⟩ := atI2 (All2.of_rps h2) e
      exact .inl ⟨a, xs, i, x, rfl, rfl, ex_l hid_le h1, e1, q3.here S2 _ (Bor.up _ rx)⟩
    | str z =>
      have hv1 : v1 = .str z := r1'.rp hid_le
      subst hv1
      dsimp only [D.ix] at e
      split at e
      · rename_i hl
        cases hc : atI z.cps.toList i with
        | none => rw [hc] at e; cases e
        | some ch =>
          rw [hc] at e; cases e
          exact .inr (.inr ⟨z, i, ch, rfl, rfl, lim_le hl, hc, q3.here S2 _ (Bor.up _ rfl)⟩)
      · cases e
    | _ => cases e
  | _ => cases d1 <;> cases e
end
end M3

/-! MZ -/
set_option Elab.async false
set_option linter.all false
set_option maxRecDepth 100000
set_option maxHeartbeats 4000000
namespace M3
open PySem PySem.Spec PyProof.Rows L2

/-! ### built-ins by values -/
def D.ints : List D → Option (List Int)
  | [] => some []
  | .int i :: l => match D.ints l with | some r => some (i :: r) | none => none
  | _ :: _ => none
theorem D.ints_rps {K : Fg} {H : Hp} : ∀ {l : List D} {ns : List Int} {xs : List V}, D.ints l = some ns → Rps K H l xs → xs = ns.map V.int
  | [], _, _, e, h => by cases e; exact h
  | d :: l, ns, xs, e, ⟨x, r, h1, h2, h3⟩ => by
    cases d with
    | int i =>
      dsimp only [D.ints] at e
      cases q : D.ints l with
      | none => rw [q] at e; cases e
      | some r' =>
        rw [q] at e; cases e
        obtain rfl := (h2 : x = _)
        rw [h1, D.ints_rps q h3]; rfl
    | _ => cases e
/-- the types that isinstance is asked for here -/
inductive Ty where
  | int | bool | list | tuple | str | dict
  deriving DecidableEq
def Ty.name : Ty → String
  | .int => "int" | .bool => "bool" | .list => "list" | .tuple => "tuple" | .str => "str" | .dict => "dict"
def D.kind : D → Option String
  | .non => some "NoneType"
  | .bl _ => some "bool"
  | .int _ => some "int"
  | .str _ => some "str"
  | .lst _ => some "list"
  | .tup _ => some "tuple"
  | .dct _ _ => some "dict"
  | .fro _ => some "list"
  | .val _ => none
def D.isTy : Ty → D → Bool
  | .int, .int _ => true
  | .int, .bl _ => true
  | .bool, .bl _ => true
  | .list, .lst _ => true
  | .list, .fro _ => true
  | .tuple, .tup _ => true
  | .str, .str _ => true
  | .dict, .dct _ _ => true
  | _, _ => false
theorem kit_all : ∀ (T : Ty) (d : D) (k : String), d.kind = some k → kitB k T.name = some (D.isTy T d) := by
  have h : ∀ T : Ty, kitB "NoneType" T.name = some false ∧ kitB "bool" T.name = some (decide (T = .int) || decide (T = .bool)) ∧ kitB "int" T.name = some (decide (T = .int)) ∧ kitB "str" T.name = some (decide (T = .str)) ∧
      kitB "list" T.name = some (decide (T = .list)) ∧ kitB "tuple" T.name = some (decide (T = .tuple)) ∧ kitB "dict" T.name = some (decide (T = .dict)) := by
    intro T
    cases T <;> decide +kernel
  intro T d k e
  obtain ⟨h1, h2, h3, h4, h5, h6, h7⟩ := h T
  cases d <;> cases e <;> first | rw [h1] | rw [h2] | rw [h3] | rw [h4] | rw [h5] | rw [h6] | rw [h7]
  all_goals (cases T <;> rfl)
theorem tyX_of {K : Fg} {H : Hp} : ∀ {d : D} {v : V} {k : String}, d.kind = some k → Rp K H d v → TyX K H v (.type k)
  | .non, _, _, e, h => by cases e; obtain rfl := (h : _ = _); exact .base .non
  | .bl _, _, _, e, h => by cases e; obtain rfl := (h : _ = _); exact .base (.bl _)
  | .int _, _, _, e, h => by cases e; obtain rfl := (h : _ = _); exact .base (.int _)
  | .str _, _, _, e, h => by cases e; obtain rfl := (h : _ = _); exact .base (.str _)
  | .lst _, _, _, e, ⟨_, _, h, h2, _⟩ => by cases e; subst h; exact .base (.lst h2)
  | .tup _, _, _, e, ⟨_, _, h, h2, _⟩ => by
    cases e; subst h
    rcases h2 with h2 | ⟨o, _, _, h2, h3, _⟩
    · exact .base (.tup h2)
    · exact .kTuple h2 h3
  | .dct _ _, _, _, e, ⟨_, _, h, h2, _⟩ => by
    cases e; subst h
    exact .base (.dK h2)
  | .fro _, _, _, e, ⟨_, _, h, h2, _⟩ => by
    cases e; subst h
    rcases h2 with (h2 | ⟨o, h2⟩) | ⟨o, _, _, h2, h3, _⟩
    · exact .base (.lst h2)
    · exact .base (.frz h2)
    · exact .kList h2 h3
  | .val _, _, _, e, _ => by cases e
def fIsi : List D → Option D
  | [d, .val (.ty "int")] => d.kind.map fun _ => .bl (d.isTy .int)
  | [d, .val (.ty "bool")] => d.kind.map fun _ => .bl (d.isTy .bool)
  | [d, .val (.ty "list")] => d.kind.map fun _ => .bl (d.isTy .list)
  | [d, .val (.ty "tuple")] => d.kind.map fun _ => .bl (d.isTy .tuple)
  | [d, .val (.ty "str")] => d.kind.map fun _ => .bl (d.isTy .str)
  | [d, .val (.ty "dict")] => d.kind.map fun _ => .bl (d.isTy .dict)
  | [d, .tup [.val (.ty "list"), .val (.ty "tuple")]] => d.kind.map fun _ => .bl (d.isTy .list || d.isTy .tuple)
  | _ => none
def fLen : List D → Option D
  | [.lst l] => some (.int l.length)
  | [.tup l] => some (.int l.length)
  | [.fro l] => some (.int l.length)
  | [.dct ks _] => some (.int ks.length)
  | [.str x] => if x.length ≤ lim then some (.int x.length) else none
  | _ => none
def fAbs : List D → Option D
  | [.int i] => some (.int (if i < 0 then -i else i))
  | _ => none
def fMax2 : List D → Option D
  | [.int i, .int j] => some (.int (if j > i then j else i))
  | _ => none
def fMin2 : List D → Option D
  | [.int i, .int j] => some (.int (if j < i then j else i))
  | _ => none
def fInt : List D → Option D
  | [.int i] => some (.int i)
  | [.bl k] => some (.int (if k then 1 else 0))
  | _ => none
def fSum : List D → Option D
  | [.lst l] => (D.ints l).map fun ns => .int ns.sum
  | _ => none
def fSumF : List D → Option D
  | [.fro l] => (D.ints l).map fun ns => .int ns.sum
  | [.lst l] => (D.ints l).map fun ns => .int ns.sum
  | _ => none
def maxOf : Int → List Int → Int
  | m, [] => m
  | m, x :: r => maxOf (if m < x then x else m) r
def minOf : Int → List Int → Int
  | m, [] => m
  | m, x :: r => minOf (if x < m then x else m) r
def fMaxL : List D → Option D
  | [.lst l] => match D.ints l with | some (x :: r) => some (.int (maxOf x r)) | _ => none
  | _ => none
def fMinL : List D → Option D
  | [.lst l] => match D.ints l with | some (x :: r) => some (.int (minOf x r)) | _ => none
  | _ => none
def fGcd : List D → Option D
  | [.int i, .int j] => some (.int ((Nat.gcd i.natAbs j.natAbs : Nat) : Int))
  | _ => none
def fStr : List D → Option D
  | [.int i] => if i.natAbs < 2 ^ 1000 then some (.str (toString i)) else none
  | _ => none
/-- insertion into a rising list -/
def insI (x : Int) : List Int → List Int
  | [] => [x]
  | y :: r => if x ≤ y then x :: y :: r else y :: insI x r
def sortI : List Int → List Int
  | [] => []
  | x :: r => insI x (sortI r)
def fSorted : List D → Option D
  | [.lst l] => (D.ints l).map fun ns => .lst ((sortI ns).map .int)
  | _ => none
def fList : List D → Option D
  | [.lst l] => some (.lst l)
  | [.tup l] => some (.lst l)
  | _ => none
def fTuple : List D → Option D
  | [.lst l] => some (.tup l)
  | [.tup l] => some (.tup l)
  | _ => none
theorem maxOf_mem : ∀ (r : List Int) (m : Int), maxOf m r ∈ m :: r
  | [], m => List.mem_singleton.mpr rfl
  | x :: r, m => by
    have h := maxOf_mem r (if m < x then x else m)
    unfold maxOf
    rcases List.mem_cons.mp h with h | h
    · rw [h]; split <;> simp
    · simp [h]
theorem maxOf_le : ∀ (r : List Int) (m : Int), ∀ y ∈ m :: r, y ≤ maxOf m r
  | [], m, y, h => by rw [List.mem_singleton.mp h]; exact Int.le_refl _
  | x :: r, m, y, h => by
    have q := maxOf_le r (if m < x then x else m)
    unfold maxOf
    have q0 := q _ List.mem_cons_self
    rcases List.mem_cons.mp h with rfl | h
    · by_cases hx : y < x
      · rw [if_pos hx] at q0 ⊢; omega
      · rw [if_neg hx] at q0 ⊢; omega
    · rcases List.mem_cons.mp h with rfl | h
      · by_cases hx : m < y
        · rw [if_pos hx] at q0 ⊢; omega
        · rw [if_neg hx] at q0 ⊢; omega
      · exact q y (List.mem_cons_of_mem _ h)
theorem minOf_mem : ∀ (r : List Int) (m : Int), minOf m r ∈ m :: r
  | [], m => List.mem_singleton.mpr rfl
  | x :: r, m => by
    have h := minOf_mem r (if x < m then x else m)
    unfold minOf
    rcases List.mem_cons.mp h with h | h
    · rw [h]; split <;> simp
    · simp [h]
theorem minOf_le : ∀ (r : List Int) (m : Int), ∀ y ∈ m :: r, minOf m r ≤ y
  | [], m, y, h => by rw [List.mem_singleton.mp h]; exact Int.le_refl _
  | x :: r, m, y, h => by
    have q := minOf_le r (if x < m then x else m)
    unfold minOf
    have q0 := q _ List.mem_cons_self
    rcases List.mem_cons.mp h with rfl | h
    · by_cases hx : x < y
      · rw [if_pos hx] at q0 ⊢; omega
      · rw [if_neg hx] at q0 ⊢; omega
    · rcases List.mem_cons.mp h with rfl | h
      · by_cases hx : y < m
        · rw [if_pos hx] at q0 ⊢; omega
        · rw [if_neg hx] at q0 ⊢; omega
      · exact q y (List.mem_cons_of_mem _ h)
theorem insI_perm (x : Int) : ∀ l : List Int, (insI x l).Perm (x :: l)
  | [] => .refl _
  | y :: r => by
    unfold insI
    split
    · exact .refl _
    · exact ((insI_perm x r).cons y).trans (.swap x y r)
theorem sortI_perm : ∀ l : List Int, (sortI l).Perm l
  | [] => .refl _
  | x :: r => (insI_perm x _).trans ((sortI_perm r).cons x)
theorem insI_sorted (x : Int) : ∀ {l : List Int}, l.Pairwise (· ≤ ·) → (insI x l).Pairwise (· ≤ ·)
  | [], _ => List.pairwise_singleton _ _
  | y :: r, h => by
    unfold insI
    obtain ⟨h1, h2⟩ := List.pairwise_cons.mp h
    split
    · rename_i hx
      exact List.pairwise_cons.mpr ⟨fun z hz => by
        rcases List.mem_cons.mp hz with rfl | hz
        · exact hx
        · exact Int.le_trans hx (h1 z hz), h⟩
    · rename_i hx
      refine List.pairwise_cons.mpr ⟨fun z hz => ?_, insI_sorted x h2⟩
      rcases List.mem_cons.mp ((insI_perm x r).mem_iff.mp hz) with rfl | hz
      · omega
      · exact h1 z hz
theorem sortI_sorted : ∀ l : List Int, (sortI l).Pairwise (· ≤ ·)
  | [] => .nil
  | x :: r => insI_sorted x (sortI_sorted r)
/-- two rising arrangements are one -/
theorem sorted_uniq : ∀ {l m : List Int}, l.Perm m → l.Pairwise (· ≤ ·) → m.Pairwise (· ≤ ·) → l = m
  | [], m, p, _, _ => p.nil_eq
  | x :: l, [], p, _, _ => absurd p.length_eq (by simp)
  | x :: l, y :: m, p, h1, h2 => by
    obtain ⟨a1, a2⟩ := List.pairwise_cons.mp h1
    obtain ⟨c1, c2⟩ := List.pairwise_cons.mp h2
    have e : x = y := by
      have m1 : x ∈ y :: m := p.mem_iff.mp List.mem_cons_self
      have m2 : y ∈ x :: l := p.mem_iff.mpr List.mem_cons_self
      have g1 : x ≤ y := by
        rcases List.mem_cons.mp m2 with h | h
        · omega
        · exact a1 _ h
      have g2 : y ≤ x := by
        rcases List.mem_cons.mp m1 with h | h
        · omega
        · exact c1 _ h
      omega
    subst e
    rw [sorted_uniq p.cons_inv a2 c2]

section
variable {X : Cx}
theorem Rps.two {K : Fg} {H : Hp} {a b : D} {vs : List V} (h : Rps K H [a, b] vs) : ∃ x y, vs = [x, y] ∧ Rp K H a x ∧ Rp K H b y := by
  obtain ⟨x, r, rfl, h1, y, r', rfl, h2, h3⟩ := h
  rw [show r' = [] from h3]
  exact ⟨x, y, rfl, h1, h2⟩
theorem Rps.sgl {K : Fg} {H : Hp} {a : D} {vs : List V} (h : Rps K H [a] vs) : ∃ x, vs = [x] ∧ Rp K H a x := by
  obtain ⟨x, r, rfl, h1, h2⟩ := h
  rw [show r = [] from h2]
  exact ⟨x, rfl, h1⟩
theorem cLen : CallS X (.builtin "len") fLen := by
  refine ⟨_, CallR.or call_len (CallR.or (call_len_seq) L2.call_lenD), fun H ds vs d Q hf hr q => ?_⟩
  match ds, hf with
  | [.lst l], hf =>
    cases hf
    obtain ⟨x, rfl, a, xs, rfl, h1, h2⟩ := hr.sgl
    exact .inr (.inl ⟨a, xs, rfl, .inl (SqL.of h1), by rw [h2.len]; exact q _ rfl⟩)
  | [.tup l], hf =>
    cases hf
    obtain ⟨x, rfl, a, xs, rfl, h1, h2⟩ := hr.sgl
    exact .inr (.inl ⟨a, xs, rfl, .inr h1.t, by rw [h2.len]; exact q _ rfl⟩)
  | [.fro l], hf =>
    cases hf
    obtain ⟨x, rfl, a, xs, rfl, h1, h2⟩ := hr.sgl
    exact .inr (.inl ⟨a, xs, rfl, .inl h1, by rw [h2.len]; exact q _ rfl⟩)
  | [.dct ks l], hf =>
    cases hf
    obtain ⟨x, rfl, a, xs, rfl, h1, hk, h2⟩ := hr.sgl
    have e : (ks.zip xs).length = ks.length := by rw [List.length_zip, h2.len, hk]; omega
    exact .inr (.inr ⟨a, _, rfl, h1, by rw [e]; exact q _ rfl⟩)
  | [.str x], hf =>
    obtain ⟨v, rfl, hv⟩ := hr.sgl
    obtain rfl := (hv : v = _)
    dsimp only [fLen] at hf
    split at hf
    · cases hf
      exact .inl ⟨_, _, rfl, ⟨lim_le (by assumption), rfl⟩, q _ rfl⟩
    · cases hf
theorem cAbs : CallS X (.builtin "abs") fAbs := by
  refine ⟨_, call_abs, fun H ds vs d Q hf hr q => ?_⟩
  match ds, hf with
  | [.int i], hf =>
    cases hf
    obtain ⟨v, rfl, hv⟩ := hr.sgl
    obtain rfl := (hv : v = _)
    exact ⟨i, rfl, q _ rfl⟩
theorem cMax2 (hc : X.calm = true) : CallS X (.builtin "max") fMax2 := by
  refine ⟨_, call_max2 hc, fun H ds vs d Q hf hr q => ?_⟩
  match ds, hf with
  | [.int i, .int j], hf =>
    cases hf
    obtain ⟨v, w, rfl, hv, hw⟩ := hr.two
    obtain rfl := (hv : v = _); obtain rfl := (hw : w = _)
    exact ⟨i, j, rfl, q _ rfl⟩
theorem cMin2 (hc : X.calm = true) : CallS X (.builtin "min") fMin2 := by
  refine ⟨_, call_min2 hc, fun H ds vs d Q hf hr q => ?_⟩
  match ds, hf with
  | [.int i, .int j], hf =>
    cases hf
    obtain ⟨v, w, rfl, hv, hw⟩ := hr.two
    obtain rfl := (hv : v = _); obtain rfl := (hw : w = _)
    exact ⟨i, j, rfl, q _ rfl⟩
theorem cInt : CallS X (.type "int") fInt := by
  refine ⟨_, call_int1, fun H ds vs d Q hf hr q => ?_⟩
  match ds, hf with
  | [.int i], hf =>
    cases hf
    obtain ⟨v, rfl, hv⟩ := hr.sgl
    obtain rfl := (hv : v = _)
    exact .inl ⟨i, rfl, q _ rfl⟩
  | [.bl k], hf =>
    cases hf
    obtain ⟨v, rfl, hv⟩ := hr.sgl
    obtain rfl := (hv : v = _)
    exact .inr ⟨k, rfl, q _ rfl⟩
theorem cSum (hc : X.calm = true) : CallS X (.builtin "sum") fSumF := by
  refine ⟨_, cr_sum hc, fun H ds vs d Q hf hr q => ?_⟩
  match ds, hf with
  | [.lst l], hf =>
    obtain ⟨x, rfl, a, xs, rfl, h1, h2⟩ := hr.sgl
    dsimp only [fSumF] at hf
    cases e : D.ints l with
    | none => rw [e] at hf; cases hf
    | some ns =>
      rw [e] at hf; cases hf
      rw [D.ints_rps e h2] at h1
      exact ⟨a, ns, rfl, SqL.of h1, q _ rfl⟩
  | [.fro l], hf =>
    obtain ⟨x, rfl, a, xs, rfl, h1, h2⟩ := hr.sgl
    dsimp only [fSumF] at hf
    cases e : D.ints l with
    | none => rw [e] at hf; cases hf
    | some ns =>
      rw [e] at hf; cases hf
      rw [D.ints_rps e h2] at h1
      exact ⟨a, ns, rfl, h1, q _ rfl⟩
theorem cMaxL (hc : X.calm = true) : CallS X (.builtin "max") fMaxL := by
  refine ⟨_, cr_max hc, fun H ds vs d Q hf hr q => ?_⟩
  match ds, hf with
  | [.lst l], hf =>
    obtain ⟨x, rfl, a, xs, rfl, h1, h2⟩ := hr.sgl
    dsimp only [fMaxL] at hf
    cases e : D.ints l with
    | none => rw [e] at hf; cases hf
    | some ns =>
      cases ns with
      | nil => rw [e] at hf; cases hf
      | cons n r =>
        rw [e] at hf; cases hf
        rw [D.ints_rps e h2] at h1
        refine ⟨a, n :: r, rfl, SqL.of h1, by simp, fun m hm hle => ?_⟩
        have e1 := maxOf_le r n m hm
        have e2 := hle _ (maxOf_mem r n)
        rw [show m = maxOf n r by omega]
        exact q _ rfl
theorem cMinL (hc : X.calm = true) : CallS X (.builtin "min") fMinL := by
  refine ⟨_, cr_min hc, fun H ds vs d Q hf hr q => ?_⟩
  match ds, hf with
  | [.lst l], hf =>
    obtain ⟨x, rfl, a, xs, rfl, h1, h2⟩ := hr.sgl
    dsimp only [fMinL] at hf
    cases e : D.ints l with
    | none => rw [e] at hf; cases hf
    | some ns =>
      cases ns with
      | nil => rw [e] at hf; cases hf
      | cons n r =>
        rw [e] at hf; cases hf
        rw [D.ints_rps e h2] at h1
        refine ⟨a, n :: r, rfl, SqL.of h1, by simp, fun m hm hle => ?_⟩
        have e1 := minOf_le r n m hm
        have e2 := hle _ (minOf_mem r n)
        rw [show m = minOf n r by omega]
        exact q _ rfl
theorem cGcd : CallS X (.builtin "math.gcd") fGcd := by
  refine ⟨_, cr_gcd, fun H ds vs d Q hf hr q => ?_⟩
  match ds, hf with
  | [.int i, .int j], hf =>
    cases hf
    obtain ⟨v, w, rfl, hv, hw⟩ := hr.two
    obtain rfl := (hv : v = _); obtain rfl := (hw : w = _)
    exact ⟨i, j, rfl, q _ rfl⟩
theorem cStr : CallS X (.type "str") fStr := by
  refine ⟨_, call_str_int, fun H ds vs d Q hf hr q => ?_⟩
  match ds, hf with
  | [.int i], hf =>
    obtain ⟨v, rfl, hv⟩ := hr.sgl
    obtain rfl := (hv : v = _)
    dsimp only [fStr] at hf
    split at hf
    · rename_i hl
      cases hf
      exact ⟨i, rfl, Nat.lt_trans (log2_of hl (by decide)) (by decide), q _ rfl⟩
    · cases hf
theorem cIsi : CallS X (.builtin "isinstance") fIsi := by
  refine ⟨_, CallR.or call_isi (CallR.or call_isiT call_isiK), fun H ds vs d Q hf hr q => ?_⟩
  have one : ∀ (T : Ty) (a : D) (x : V), a.kind.map (fun _ => D.bl (a.isTy T)) = some d → Rp X.K H a x → rIsi X.K [x, .ty T.name] H Q := fun T a x e r => by
    cases hk : a.kind with
    | none => rw [hk] at e; cases e
    | some k =>
      rw [hk] at e; cases e
      exact ⟨x, _, _, _, _, rfl, .ty _, tyX_of hk r, kit_ty (kit_all T a k hk), q _ rfl⟩
  unfold fIsi at hf
  split at hf
  · obtain ⟨v, w, rfl, hv, hw⟩ := hr.two
    obtain rfl := (hw : w = _)
    exact .inl (one .int _ _ hf hv)
  · obtain ⟨v, w, rfl, hv, hw⟩ := hr.two
    obtain rfl := (hw : w = _)
    exact .inl (one .bool _ _ hf hv)
  · obtain ⟨v, w, rfl, hv, hw⟩ := hr.two
    obtain rfl := (hw : w = _)
    exact .inl (one .list _ _ hf hv)
  · obtain ⟨v, w, rfl, hv, hw⟩ := hr.two
    obtain rfl := (hw : w = _)
    exact .inl (one .tuple _ _ hf hv)
  · obtain ⟨v, w, rfl, hv, hw⟩ := hr.two
    obtain rfl := (hw : w = _)
    exact .inl (one .str _ _ hf hv)
  · obtain ⟨v, w, rfl, hv, hw⟩ := hr.two
    obtain rfl := (hw : w = _)
    exact .inl (one .dict _ _ hf hv)
  · obtain ⟨v, w, rfl, hv, hw⟩ := hr.two
    rename_i a
    obtain ⟨p, xs, rfl, h1, x1, r1, rfl, e1, x2, r2, rfl, e2, e3⟩ := hw
    obtain rfl := (e1 : x1 = _); obtain rfl := (e2 : x2 = _); obtain rfl := (e3 : r2 = _)
    cases hk : a.kind with
    | none => rw [hk] at hf; cases hf
    | some k =>
      rw [hk] at hf; cases hf
      have hK : PySem.W.kitAny X.K (.type k) [.type "list", .type "tuple"] = some (a.isTy .list || a.isTy .tuple) := by
        refine kitAny_cons (b := a.isTy .list) (kit_ty (kit_all .list a k hk)) (fun z => ?_) fun z => by rw [z]; rfl
        rw [z, Bool.false_or]
        refine kitAny_cons (b := a.isTy .tuple) (kit_ty (kit_all .tuple a k hk)) (fun z => ?_) fun z => z
        rw [z]; exact kitAny_nil
      rcases h1 with h1 | ⟨o, its, n, g1, g2, g3, _, g5⟩
      · exact .inr (.inl ⟨v, p, _, _, _, _, rfl, h1, .cons (.ty _) (.cons (.ty _) .nil), tyX_of hk hv, hK, q _ rfl⟩)
      · have e : its.toList = [.type "list", .type "tuple"] := by
          generalize its.toList = us at g5
          cases g5 with
          | cons r1 r2 =>
            cases r2 with
            | cons r3 r4 =>
              cases r4
              rw [show _ = _ from r1, show _ = _ from r3]
        obtain ⟨oc, od, dt, sl⟩ := o
        simp only at g2 g3
        subst g2 g3
        exact .inr (.inr ⟨v, p, od, its.toList, n, sl, _, _, rfl, g1, tyX_of hk hv, by rw [e]; exact hK, q _ rfl⟩)
  · cases hf
end
end M3

/-! MO -/
set_option Elab.async false
set_option linter.all false
set_option maxRecDepth 100000
set_option maxHeartbeats 4000000
namespace M3
open PySem PySem.Spec PyProof.Rows L2

section
variable {X : Cx} {P O : List Nat} {W : WX} {n k n1 n2 n3 : Nat} {b b1 b2 b3 : Bool} {e a c : Expr} {m ma mb mc : M} {pos p : Pos} {es : List Expr} {ms mt : Mi (List D)} {rest : List Expr} {x : Str} {id T : String}
theorem All2.rps' {K : Fg} {Hm H : Hp} (h : Ex Hm H) : ∀ {l : List D} {xs : List V}, All2 (Bor K Hm H n) l xs → Rps K H l xs
  | [], [], _ => rfl
  | d :: l, x :: xs, ⟨h1, h2⟩ => ⟨_, _, rfl, h1.rp h, All2.rps' h h2⟩
  | [], _ :: _, h => h.elim
  | _ :: _, [], h => h.elim
theorem me_cS {e : Expr} {r : List V → Hp → VK → Prop} {f : List D → Option D} (hr : ∀ H ds vs d Q, f ds = some d → Rps X.K H ds vs → (∀ v, Flat d v → Q v H) → r vs H Q) (hp : ∀ t, PA X es t → PE X e (tCB r t)) (ha : MAB X P O W n b es ms) : ME X P O W 0 b e (mf f ms) := by
  obtain ⟨ta, pa, ha⟩ := ha.run
  refine ⟨_, hp _ pa, fun β F G env σ H Q S p => ?_⟩
  refine ha β F G env σ H _ S (p.bindL fun ds env1 H1 S1 x1 p1 q vs r1 => ?_)
  obtain ⟨d, e, q3⟩ := q.lift
  exact hr H1 ds vs d _ e (All2.rps' hid_le r1) fun v hv => q3.here S1 v hv.rp
theorem me_cB {f : List D → Option D} (h : CallS X (.builtin id) f) (ha : MAB X P O W n b (e :: es) ms) (hm : X.mg x = none) (hg : Gl X x := by rfl) (hv : bootBuiltins x = some (.builtin id) := by decide +kernel) (hn : x ≠ "__name__" := by decide) (hdb : (x == ("__debug__" : Str)) = false := by decide)
    (he : starEach (e :: es) X.env = (false, eval e X.env) :: starEach es X.env := by rfl) (hpl : (backTo pos (starEach es X.env)).any (·.1) = false := by rfl) : ME X P O W 0 b (.Call (.Name x p) (e :: es) [] pos) (mf f ms) := by
  obtain ⟨r, h1, h2⟩ := h
  exact me_cS h2 (fun t pa => pe_callB h1 hg hm hv pa hn hdb he hpl) ha
theorem me_cT {f : List D → Option D} (h : CallS X (.type T) f) (ha : MAB X P O W n b (e :: es) ms) (hm : X.mg x = none) (hg : Gl X x := by rfl) (hv : bootBuiltins x = some (.type T) := by decide +kernel) (hn : x ≠ "__name__" := by decide) (hdb : (x == ("__debug__" : Str)) = false := by decide)
    (he : starEach (e :: es) X.env = (false, eval e X.env) :: starEach es X.env := by rfl) (hpl : (backTo pos (starEach es X.env)).any (·.1) = false := by rfl) : ME X P O W 0 b (.Call (.Name x p) (e :: es) [] pos) (mf f ms) := by
  obtain ⟨r, h1, h2⟩ := h
  exact me_cS h2 (fun t pa => pe_callTy h1 hg hm hv pa hn hdb he hpl) ha
/-- a built-in of a module, imported by name -/
theorem me_cF {f : List D → Option D} (h : CallS X (.builtin id) f) (ha : MAB X P O W n b (e :: es) ms) (hm : X.mg x = some (.builtin id)) (hg : Gl X x := by rfl) (hdb : (x == ("__debug__" : Str)) = false := by decide)
    (he : starEach (e :: es) X.env = (false, eval e X.env) :: starEach es X.env := by rfl) (hpl : (backTo pos (starEach es X.env)).any (·.1) = false := by rfl) : ME X P O W 0 b (.Call (.Name x p) (e :: es) [] pos) (mf f ms) := by
  obtain ⟨r, h1, h2⟩ := h
  exact me_cS h2 (fun t pa => pe_callBfun h1 hg hm pa hdb he hpl) ha
/-- a built-in type's name as a value -/
theorem me_ty (hm : X.mg x = none) (hg : Gl X x := by rfl) (hv : bootBuiltins x = some (.type T) := by decide +kernel) (hn : x ≠ "__name__" := by decide) (hdb : (x == ("__debug__" : Str)) = false := by decide) : ME X P O W 0 true (.Name x pos) (mC (.val (.ty T))) :=
  me_c (t := tC .non) (pe_bltn (v := .ty T) hg hm hv rfl hn hdb) rfl
def fBits (d : D) : Option D := match d with | .int i => some (.int (Builtin.Int.intBits i : Nat)) | _ => none
theorem me_bits {apos : Pos} (ha : ME X P O W n b a ma) (hbase : attributeBase a "bit_length" X.env (eval a X.env) = eval a X.env := by rfl) (hline : (apos.endLine == pos.line) = true := by rfl) : ME X P O W 0 b (.Call (.Attribute a "bit_length" apos) [] [] pos) (m1 fBits ma) := by
  obtain ⟨ta, pa, ha⟩ := ha.run
  refine ⟨_, pe_bits pa hbase hline, fun β F G env σ H Q S p => ?_⟩
  refine ha β F G env σ H _ S (p.bindL fun d1 env1 H1 S1 x1 p1 q v1 r1 => ?_)
  obtain ⟨d, e, q3⟩ := q.lift
  cases d1 with
  | int i =>
    cases e
    exact ⟨i, r1.rp hid_le, q3.here S1 _ rfl⟩
  | _ => cases e

/-! ### things made new -/
theorem Stt.own1 {K : Fg} {β : Bc} {F : List (List Addr)} {G : List Addr} {env : Sl} {σ : L2.St} {H : Hp} (S : Stt K P O β F G env σ H) {p : Addr} (hp : H p = none) {l : List D} {xs : List V} (r : Rps K (hid H (msk F G)) l xs) :
    Stt K P O β F ([p] ++ G) env σ (upd H p (.lst xs)) ∧ Fo F G [p] H (upd H p (.lst xs)) ∧ Own K (hid (upd H p (.lst xs)) (msk F ([p] ++ G))) (upd H p (.lst xs)) 1 (.lst l) (.ref p) [p] := by
  have e : hid (upd H p (.lst xs)) (msk F ([p] ++ G)) = hid H (msk F G) := hid_newG S hp
  refine ⟨S.newG hp, ⟨by rw [e]; exact Ex.rfl' _, fun a m => upd_ne fun z => S.fresh hp (List.mem_append_right _ (z ▸ m))⟩, p, xs, l.map (fun _ => []), rfl, ?_, .inl ⟨l, rfl, upd_same, ?_⟩⟩
  · have : ∀ l : List D, (l.map fun _ => ([] : List Addr)).flatten = [] := fun l => by induction l <;> simp_all
    rw [this]
  · rw [e]
    clear e
    induction l generalizing xs with
    | nil => rw [show xs = [] from r]; exact trivial
    | cons d l ih =>
      obtain ⟨x, r', rfl, h1, h2⟩ := r
      exact ⟨⟨rfl, h1⟩, ih h2⟩
/-- of an outcome that must be a new list -/
def asL (m : M) : M := fun e => (m e).bind fun d e1 => match d with | .lst l => .ok (.lst l) e1 | _ => .bad
/-- what is made new may be shared at once -/
theorem MO.me (h : MO X P O W n b e m) : ME X P O W 0 b e m := by
  obtain ⟨t, h1, h2⟩ := h.run
  refine ⟨t, h1, fun β F G env σ H Q S p => h2 β F G env σ H Q S ?_⟩
  cases q : m env with
  | ok d e =>
    rw [q] at p
    intro v H' fp S' x' p' o
    have hs : G.Sublist (fp ++ G) := List.sublist_append_right _ _
    have e2 : Ex (hid H' (msk F (fp ++ G))) (hid H' (msk F G)) := hid_dropG fun a m => hs.subset m
    exact p H' (S'.dropG hs fun a m => (S.rr a m).1) ⟨x'.ex.trn e2, x'.gs⟩ p' v (Bor.up _ (own_land S'.nd o))
  | exc c x e => rw [q] at p; exact p
  | bad => rw [q] at p; exact p
theorem MO.weak (h : MO X P O W n b e m) (hb : b1 = true → b = true := by intro h; exact h) : MO X P O W n b1 e m := by
  obtain ⟨t, h1, h2⟩ := h.run
  refine ⟨t, h1, fun β F G env σ H Q S p => h2 β F G env σ H Q S ?_⟩
  cases q : m env with
  | ok d e => rw [q] at p; exact fun v H' fp S' x' p' o => p v H' fp S' x' (fun z => p' (hb z)) o
  | exc c x e => rw [q] at p; exact p
  | bad => rw [q] at p; exact p
/-- reading an owned outcome off a shared one's proof: PstO from what follows -/
theorem mo_lst (h : MA X P O W b es ms) : MO X P O W 1 b (.List es pos) (mf mkLst ms) := by
  obtain ⟨ta, pa, ha⟩ := h.run
  refine ⟨_, pe_lst pa, fun β F G env σ H Q S p => ?_⟩
  refine ha β F G env σ H _ S ?_
  unfold mf at p
  cases q : ms env with
  | ok ds e =>
    rw [q] at p
    intro H1 S1 x1 p1 vs r1
    have p' : PstO X P O W β F G σ H 1 b env Q (liftO (mkLst ds) e) := p
    unfold mkLst at p'
    split at p'
    · rename_i hl
      refine ⟨by rw [r1.len]; exact lim_le hl, fun a ha => ?_⟩
      obtain ⟨s1, s2, s3⟩ := S1.own1 ha r1
      exact p' _ _ [a] s1 (x1.tro s2) (fun z => ⟨(p1 z).1, (p1 z).2.trn (Ex.new ha)⟩) s3
    · exact p'.elim
  | exc c x e => rw [q] at p; exact p
  | bad => rw [q] at p; exact p

/-- what follows a new list -/
def NewL (K : Fg) (Hs H : Hp) (l : List D) (Q : VK) : Prop := ∀ p xs, H p = none → Rps K Hs l xs → Q (.ref p) (upd H p (.lst xs))
theorem NewL.of {β : Bc} {F : List (List Addr)} {G : List Addr} {env e : Sl} {σ : L2.St} {H H1 : Hp} {Q : VK} {l : List D} {m : M} (S1 : Stt X.K P O β F G e σ H1) (x1 : Fw F G H H1) (p1 : b = true → e = env ∧ Ex H H1)
    (p : PstO X P O W β F G σ H 1 b env Q (.ok (.lst l) e)) : NewL X.K (hid H1 (msk F G)) H1 l Q := fun a xs ha r => by
  obtain ⟨s1, s2, s3⟩ := S1.own1 ha r
  exact p _ _ [a] s1 (x1.tro s2) (fun z => ⟨(p1 z).1, (p1 z).2.trn (Ex.new ha)⟩) s3
theorem bor_up1 {K : Fg} {Hs H : Hp} {d : D} {v : V} (h : n = 0 ∨ n = 1) (r : Bor K Hs H n d v) : Bor K Hs H 1 d v := by
  rcases h with rfl | rfl
  · exact Bor.up 1 r
  · exact r
theorem mo_2 {op : Expr} {f : D → D → Option D} {r : R2} (hr : ∀ Hs H d1 d2 v1 v2 l Q, Ex Hs H → f d1 d2 = some (.lst l) → Bor X.K Hs H 1 d1 v1 → Bor X.K Hs H 1 d2 v2 → NewL X.K Hs H l Q → r v1 v2 H Q)
    (hp : ∀ ta tb, PE X a ta → PE X c tb → PE X op (tOp r ta tb)) (ha : ME X P O W n1 b1 a ma) (hb : ME X P O W n2 b2 c mb) (hm : (n1 == 0 || (b2 && n1 == 1)) = true) (hn : (n2 == 0 || n2 == 1) = true) : MO X P O W 1 (b1 && b2) op (asL (m2 f ma mb)) := by
  obtain ⟨ta, pa, ha⟩ := ha.run
  obtain ⟨tb, pb, hb⟩ := hb.run
  refine ⟨_, hp _ _ pa pb, fun β F G env σ H Q S p => ?_⟩
  refine ha β F G env σ H _ S ?_
  unfold asL m2 at p
  cases e1 : ma env with
  | bad => rw [e1] at p; exact p
  | exc c x e => rw [e1] at p; exact p
  | ok d1 env1 =>
    rw [e1] at p
    intro H1 S1 x1 p1 v1 r1
    refine hb β F G env1 σ H1 _ S1 ?_
    have p : PstO X P O W β F G σ H 1 (b1 && b2) env Q (((mb env1).bind fun y e2 => liftO (f d1 y) e2).bind fun d e1 => match d with | .lst l => .ok (.lst l) e1 | _ => .bad) := p
    cases e2 : mb env1 with
    | bad => rw [e2] at p; exact p
    | exc c x e => rw [e2] at p; exact fun dx v H' S' x' => p dx v H' S' (x1.ex.trn x')
    | ok d2 env2 =>
      rw [e2] at p
      intro H2 S2 x2 p2 v2 r2
      have p : PstO X P O W β F G σ H 1 (b1 && b2) env Q ((liftO (f d1 d2) env2).bind fun d e1 => match d with | .lst l => .ok (.lst l) e1 | _ => .bad) := p
      cases e3 : f d1 d2 with
      | none => rw [e3] at p; exact p.elim
      | some d =>
        rw [e3] at p
        cases d with
        | lst l =>
          have r1' : Bor X.K (hid H2 (msk F G)) H2 1 d1 v1 := by
            rcases Bool.or_eq_true _ _ ▸ hm with h | h
            · have z : n1 = 0 := by simpa using h
              subst z
              exact bor_up1 (.inl rfl) (Bor.mono (H := H1) x2.ex 0 (.inl rfl) r1)
            · rw [Bool.and_eq_true] at h
              have z : n1 = 1 := by simpa using h.2
              subst z
              exact r1.mono x2.ex _ (.inr (p2 h.1).2)
          have r2' : Bor X.K (hid H2 (msk F G)) H2 1 d2 v2 := bor_up1 (by simpa using hn) r2
          refine hr _ H2 d1 d2 v1 v2 l _ hid_le e3 r1' r2' (NewL.of (m := ma) S2 (x1.trn x2) (fun z => ?_) p)
          rw [Bool.and_eq_true] at z
          exact ⟨(p2 z.2).1.trans (p1 z.1).1, (p1 z.1).2.trn (p2 z.2).2⟩
        | _ => exact p.elim
theorem nAdd : ∀ Hs H d1 d2 v1 v2 l Q, Ex Hs H → D.add d1 d2 = some (.lst l) → Bor X.K Hs H 1 d1 v1 → Bor X.K Hs H 1 d2 v2 → NewL X.K Hs H l Q → rCat v1 v2 H Q := by
  intro Hs H d1 d2 v1 v2 l Q e hf r1 r2 q
  cases d1 <;> cases d2 <;> dsimp only [D.add] at hf <;> first | cases hf | (split at hf <;> cases hf)
  obtain ⟨a, xs, rfl, h1, h2⟩ := r1.list e
  obtain ⟨b, ys, rfl, h3, h4⟩ := r2.list e
  refine ⟨a, b, xs, ys, rfl, rfl, h1, h3, ?_, fun p hp => q p _ hp ((All2.rps h2).app (All2.rps h4))⟩
  rw [h2.len, h4.len]; exact lim_le (by assumption)
theorem nMul : ∀ Hs H d1 d2 v1 v2 l Q, Ex Hs H → D.mul d1 d2 = some (.lst l) → Bor X.K Hs H 1 d1 v1 → Bor X.K Hs H 1 d2 v2 → NewL X.K Hs H l Q → rRep v1 v2 H Q := by
  intro Hs H d1 d2 v1 v2 l Q e hf r1 r2 q
  cases d1 with
  | int i =>
    cases d2 with
    | int j =>
      dsimp only [D.mul] at hf
      split at hf
      · have z := Option.some.inj hf
        cases z
      · cases hf
    | _ => cases hf
  | lst l' =>
    cases d2 with
    | int k =>
      dsimp only [D.mul] at hf
      split at hf
      · rename_i hl
        have z := Option.some.inj hf
        cases z
        obtain ⟨a, xs, rfl, h1, h2⟩ := r1.list e
        obtain rfl := (r2.rp e : v2 = _)
        refine ⟨a, k, xs, rfl, rfl, h1, by omega, by omega, ?_, fun p hp => q p _ hp ?_⟩
        · rw [h2.len]; exact lim_le hl.1
        · have h3 : Rps X.K Hs l' xs := All2.rps h2
          generalize k.toNat = n
          induction n with
          | zero => rfl
          | succ n ih =>
            rw [List.replicate_succ, List.replicate_succ, List.flatten_cons, List.flatten_cons]
            exact h3.app ih
      · cases hf
    | _ => cases hf
  | _ => cases d2 <;> cases hf
theorem mo_add (ha : ME X P O W n1 b1 a ma) (hb : ME X P O W n2 b2 c mb) (hm : (n1 == 0 || (b2 && n1 == 1)) = true := by rfl) (hn : (n2 == 0 || n2 == 1) = true := by rfl) : MO X P O W 1 (b1 && b2) (.BinOp a .Add c pos) (asL (m2 D.add ma mb)) :=
  mo_2 nAdd (fun _ _ => pe_op op_cat) ha hb hm hn
theorem mo_mul (ha : ME X P O W n1 b1 a ma) (hb : ME X P O W n2 b2 c mb) (hm : (n1 == 0 || (b2 && n1 == 1)) = true := by rfl) (hn : (n2 == 0 || n2 == 1) = true := by rfl) : MO X P O W 1 (b1 && b2) (.BinOp a .Mult c pos) (asL (m2 D.mul ma mb)) :=
  mo_2 nMul (fun _ _ => pe_op op_rep) ha hb hm hn

/-! ### list(..), tuple(..), sorted(..) -/
theorem All2.sgl {Pr : D → V → Prop} {a : D} {vs : List V} (h : All2 Pr [a] vs) : ∃ x, vs = [x] ∧ Pr a x := by
  cases vs with
  | nil => exact h.elim
  | cons x r =>
    cases r with
    | nil => exact ⟨x, rfl, h.1⟩
    | cons y r => exact h.2.elim
theorem mo_c {e : Expr} {r : List V → Hp → VK → Prop} {f : List D → Option D} (hr : ∀ Hs H ds vs l Q, Ex Hs H → f ds = some (.lst l) → All2 (Bor X.K Hs H 1) ds vs → NewL X.K Hs H l Q → r vs H Q) (hp : ∀ t, PA X es t → PE X e (tCB r t)) (ha : MAB X P O W 1 b es ms) : MO X P O W 1 b e (asL (mf f ms)) := by
  obtain ⟨ta, pa, ha⟩ := ha.run
  refine ⟨_, hp _ pa, fun β F G env σ H Q S p => ?_⟩
  refine ha β F G env σ H _ S ?_
  unfold asL mf at p
  cases e1 : ms env with
  | bad => rw [e1] at p; exact p
  | exc c x e => rw [e1] at p; exact p
  | ok ds env1 =>
    rw [e1] at p
    intro H1 S1 x1 p1 vs r1
    have p : PstO X P O W β F G σ H 1 b env Q ((liftO (f ds) env1).bind fun d e1 => match d with | .lst l => .ok (.lst l) e1 | _ => .bad) := p
    cases e3 : f ds with
    | none => rw [e3] at p; exact p.elim
    | some d =>
      rw [e3] at p
      cases d with
      | lst l => exact hr _ H1 ds vs l _ hid_le e3 r1 (NewL.of (m := mC .non) S1 x1 p1 p)
      | _ => exact p.elim
theorem mo_list (ha : MAB X P O W 1 b (e :: es) ms) (hm : X.mg "list" = none) (hg : Gl X "list" := by rfl) (hv : bootBuiltins "list" = some (.type "list") := by decide +kernel) (hn : ("list" : Str) ≠ "__name__" := by decide) (hdb : (("list" : Str) == ("__debug__" : Str)) = false := by decide)
    (he : starEach (e :: es) X.env = (false, eval e X.env) :: starEach es X.env := by rfl) (hpl : (backTo pos (starEach es X.env)).any (·.1) = false := by rfl) : MO X P O W 1 b (.Call (.Name "list" p) (e :: es) [] pos) (asL (mf fList ms)) := by
  refine mo_c (fun Hs H ds vs l Q e hf r q => ?_) (fun t pa => pe_callTy call_list_of hg hm hv pa hn hdb he hpl) ha
  unfold fList at hf
  split at hf
  · obtain ⟨v, rfl, rv⟩ := All2.sgl r
    cases hf
    obtain ⟨a, xs, rfl, h1, h2⟩ := Bor.list e rv
    exact ⟨a, xs, rfl, .inl (SqL.of h1), fun p hp => q p _ hp (All2.rps h2)⟩
  · obtain ⟨v, rfl, rv⟩ := All2.sgl r
    cases hf
    obtain ⟨a, xs, rfl, h1, h2⟩ := Bor.tuple e rv
    exact ⟨a, xs, rfl, .inr h1.t, fun p hp => q p _ hp h2⟩
  · cases hf
theorem ints_map {K : Fg} {H : Hp} : ∀ ns : List Int, Rps K H (ns.map D.int) (ns.map V.int)
  | [] => rfl
  | _ :: ns => ⟨_, _, rfl, rfl, ints_map ns⟩
theorem mo_sorted (ha : MAB X P O W 1 b (e :: es) ms) (hm : X.mg "sorted" = none) (hg : Gl X "sorted" := by rfl) (hv : bootBuiltins "sorted" = some (.builtin "sorted") := by decide +kernel) (hn : ("sorted" : Str) ≠ "__name__" := by decide) (hdb : (("sorted" : Str) == ("__debug__" : Str)) = false := by decide)
    (he : starEach (e :: es) X.env = (false, eval e X.env) :: starEach es X.env := by rfl) (hpl : (backTo pos (starEach es X.env)).any (·.1) = false := by rfl) : MO X P O W 1 b (.Call (.Name "sorted" p) (e :: es) [] pos) (asL (mf fSorted ms)) := by
  refine mo_c (fun Hs H ds vs l Q e hf r q => ?_) (fun t pa => pe_callB cr_sortedI hg hm hv pa hn hdb he hpl) ha
  unfold fSorted at hf
  split at hf
  · obtain ⟨v, rfl, rv⟩ := All2.sgl r
    rename_i l'
    obtain ⟨a, xs, rfl, h1, h2⟩ := Bor.list e rv
    cases hi : D.ints l' with
    | none => rw [hi] at hf; cases hf
    | some ns =>
      rw [hi] at hf; cases hf
      rw [D.ints_rps hi (All2.rps h2)] at h1
      refine ⟨a, ns, rfl, SqL.of h1, fun ns' p hp hs np => ?_⟩
      rw [sorted_uniq (hp.trans (sortI_perm ns).symm) hs (sortI_sorted ns)]
      exact q p _ np (ints_map _)
  · cases hf
theorem me_tuple (ha : MAB X P O W n b (e :: es) ms) (hn1 : (n == 0 || n == 1) = true := by rfl) (hm : X.mg "tuple" = none) (hg : Gl X "tuple" := by rfl) (hv : bootBuiltins "tuple" = some (.type "tuple") := by decide +kernel) (hn : ("tuple" : Str) ≠ "__name__" := by decide) (hdb : (("tuple" : Str) == ("__debug__" : Str)) = false := by decide)
    (he : starEach (e :: es) X.env = (false, eval e X.env) :: starEach es X.env := by rfl) (hpl : (backTo pos (starEach es X.env)).any (·.1) = false := by rfl) : ME X P O W 0 b (.Call (.Name "tuple" p) (e :: es) [] pos) (mf fTuple ms) := by
  obtain ⟨ta, pa, ha⟩ := ha.run
  refine ⟨_, pe_callTy call_tuple_of hg hm hv pa hn hdb he hpl, fun β F G env σ H Q S p => ?_⟩
  refine ha β F G env σ H _ S (p.bindL fun ds env1 H1 S1 x1 p1 q vs r1 => ?_)
  obtain ⟨d, e, q3⟩ := q.lift
  unfold fTuple at e
  split at e
  · obtain ⟨v, rfl, r⟩ := All2.sgl r1
    cases e
    obtain ⟨a, xs, rfl, h1, h2⟩ := (bor_up1 (by simpa using hn1) r).list hid_le
    exact ⟨a, xs, rfl, .inl ⟨SqL.of h1, fun p hp => q3.out S1 (.inr ⟨p, hp, rfl, .inr ⟨_, _, rfl, rfl, All2.rps h2⟩⟩)⟩⟩
  · obtain ⟨v, rfl, r⟩ := All2.sgl r1
    rename_i l'
    cases e
    have r0 : Rp X.K (hid H1 (msk F G)) (.tup l') v := by
      rcases bor_up1 (by simpa using hn1) r with h | ⟨_, _, _, ⟨_, z, _⟩ | ⟨_, _, z, _⟩⟩
      · exact h
      · cases z
      · cases z
    obtain ⟨a, xs, rfl, h1, h2⟩ := r0
    exact ⟨a, xs, rfl, .inr ⟨(ex_p hid_le h1).t, q3.here S1 _ ⟨a, xs, rfl, h1, h2⟩⟩⟩
  · cases e

/-! ### slices -/
structure MPt (X : Cx) (P O : List Nat) (W : WX) (b : Bool) (e : Option Expr) (m : Mi (Option Int)) : Prop where
  run : ∃ t, PO X e t ∧ ∀ β F G env σ H Q, Stt X.K P O β F G env σ H →
    Pst X P O W β F G σ H b env (fun d H' => Q d H') (m env) → t σ H Q
def mPn : Mi (Option Int) := fun e => .ok none e
def mPs (m : M) : Mi (Option Int) := fun e => (m e).bind fun d e1 => match d with | .int i => .ok (some i) e1 | _ => .bad
theorem mpt_none : MPt X P O W true none mPn := ⟨_, po_none, fun β F G env σ H Q S p => p.here S⟩
theorem mpt_some (ha : ME X P O W n b a ma) : MPt X P O W b (some a) (mPs ma) := by
  obtain ⟨ta, pa, ha⟩ := ha.run
  refine ⟨_, po_some pa, fun β F G env σ H Q S p => ?_⟩
  refine ha β F G env σ H _ S (p.bindL fun d1 env1 H1 S1 x1 p1 q v1 r1 => ?_)
  cases d1 with
  | int i => exact ⟨i, r1.rp hid_le, q.here S1⟩
  | _ => exact q.elim
def cutL {α : Type} (l : List α) (lo hi : Option Int) : List α := (l.drop (HT.sIx l.length 0 lo)).take (HT.sIx l.length l.length hi - HT.sIx l.length 0 lo)
theorem Rps.cut {K : Fg} {H : Hp} {l : List D} {xs : List V} (r : Rps K H l xs) (lo hi : Option Int) : Rps K H (cutL l lo hi) (cutV xs lo hi) := by
  unfold cutL cutV
  rw [r.len]
  exact (r.drop _).take _
def D.sl (d : D) (lo hi : Option Int) : Option D := match d with
  | .lst l => some (.lst (cutL l lo hi))
  | .tup l => some (.tup (cutL l lo hi))
  | .fro l => some (.lst (cutL l lo hi))
  | .str z => if z.length ≤ lim then some (.str (cutS z lo hi)) else none
  | _ => none
def mSl (ma : M) (ml mh : Mi (Option Int)) : M := fun e => (ma e).bind fun x e1 => (ml e1).bind fun lo e2 => (mh e2).bind fun hi e3 => liftO (D.sl x lo hi) e3
theorem SlR.or3 {r r' r'' : V → Option Int → Option Int → Hp → VK → Prop} (h : SlR X r) (h' : SlR X r') (h'' : SlR X r'') : SlR X (fun x lo hi H Q => r x lo hi H Q ∨ r' x lo hi H Q ∨ r'' x lo hi H Q) := h.or (h'.or h'')
theorem me_sl {lo hi : Option Expr} {p2 : Pos} {ml mh : Mi (Option Int)} (ha : ME X P O W n b1 a ma) (hl : MPt X P O W b2 lo ml) (hh : MPt X P O W b3 hi mh) (hm : (n == 0 || ((b2 && b3) && n == 1)) = true := by rfl) :
    ME X P O W 0 (b1 && (b2 && b3)) (.Subscript a (.Slice lo hi none p2) pos) (mSl ma ml mh) := by
  obtain ⟨ta, pa, ha⟩ := ha.run
  obtain ⟨tl, pl, hl⟩ := hl.run
  obtain ⟨th, ph, hh⟩ := hh.run
  refine ⟨_, pe_slice (SlR.or3 sl_list sl_tupA sl_str) pa pl ph, fun β F G env σ H Q S p => ?_⟩
  refine ha β F G env σ H _ S (p.bind fun d1 env1 H1 S1 x1 p1 q v1 r1 => ?_)
  refine hl β F G env1 σ H1 _ S1 (q.bind fun lo env2 H2 S2 x2 p2 q2 => ?_)
  refine hh β F G env2 σ H2 _ S2 (q2.bindL fun hi env3 H3 S3 x3 p3 q3 => ?_)
  obtain ⟨d, e, q4⟩ := q3.lift
  have r1' : Bor X.K (hid H3 (msk F G)) H3 1 d1 v1 := by
    rcases Bool.or_eq_true _ _ ▸ hm with h | h
    · have z : n = 0 := by simpa using h
      subst z
      exact bor_up1 (.inl rfl) (Bor.mono (H := H1) (x2.trn x3).ex 0 (.inl rfl) r1)
    · rw [Bool.and_eq_true, Bool.and_eq_true] at h
      have z : n = 1 := by simpa using h.2
      subst z
      exact r1.mono (x2.trn x3).ex _ (.inr ((p2 h.1.1).2.trn (p3 h.1.2).2))
  cases d1 with
  | lst l =>
    cases e
    obtain ⟨a, xs, rfl, h1, h2⟩ := r1'.list hid_le
    exact .inl ⟨a, xs, rfl, SqL.of h1, fun p hp => q4.out S3 (.inr ⟨p, hp, rfl, .inl ⟨_, _, rfl, rfl, (All2.rps h2).cut lo hi⟩⟩)⟩
  | fro l =>
    cases e
    have r0 : Rp X.K (hid H3 (msk F G)) (.fro l) v1 := by
      rcases r1' with h | ⟨_, _, _, ⟨_, z, _⟩ | ⟨_, _, z, _⟩⟩
      · exact h
      · cases z
      · cases z
    obtain ⟨a, xs, rfl, h1, h2⟩ := r0
    exact .inl ⟨a, xs, rfl, ex_l hid_le h1, fun p hp => q4.out S3 (.inr ⟨p, hp, rfl, .inl ⟨_, _, rfl, rfl, h2.cut lo hi⟩⟩)⟩
  | tup l =>
    cases e
    have r0 : Rp X.K (hid H3 (msk F G)) (.tup l) v1 := by
      rcases r1' with h | ⟨_, _, _, ⟨_, z, _⟩ | ⟨_, _, z, _⟩⟩
      · exact h
      · cases z
      · cases z
    obtain ⟨a, xs, rfl, h1, h2⟩ := r0
    refine .inr (.inl ⟨a, xs, rfl, (ex_p hid_le h1).t, fun z => ?_, fun _ p hp => q4.out S3 (.inr ⟨p, hp, rfl, .inr ⟨_, _, rfl, rfl, h2.cut lo hi⟩⟩)⟩)
    refine q4.here S3 _ ?_
    have e : cutL l lo hi = l := by
      unfold cutL
      rw [← h2.len, z.1, z.2]
      simp [h2.len]
    rw [e]
    exact ⟨a, xs, rfl, h1, h2⟩
  | str z =>
    obtain rfl := (r1'.rp hid_le : v1 = _)
    dsimp only [D.sl] at e
    split at e
    · cases e
      exact .inr (.inr ⟨z, rfl, lim_le (by assumption), q4.here S3 _ rfl⟩)
    · cases e
  | _ => cases e
end
end M3

/-! MS0 -/
set_option Elab.async false
set_option linter.all false
set_option maxRecDepth 100000
set_option maxHeartbeats 4000000
namespace M3
open PySem PySem.Spec PyProof.Rows L2

section
variable {K : Fg} {P O : List Nat} {β : Bc} {F : List (List Addr)} {G : List Addr} {env : Sl} {σ : L2.St} {H H' : Hp} {d : D} {v : V} {i n : Nat}
theorem getD_set_self {α : Type} {l : List α} {i : Nat} {a d : α} (h : i < l.length) : (l.set i a).getD i d = a := by
  rw [List.getD_eq_getElem?_getD, List.getElem?_set_self h]; rfl
theorem getD_set_ne {α : Type} {l : List α} {i j : Nat} {a d : α} (h : i ≠ j) : (l.set i a).getD j d = l.getD j d := by
  rw [List.getD_eq_getElem?_getD, List.getElem?_set_ne h, List.getD_eq_getElem?_getD]
theorem Stt.lt (S : Stt K P O β F G env σ H) (h : env[i]? = some (some d)) : i < env.length := (List.getElem?_eq_some_iff.mp h).1
/-- in a list of lists without repetition, two places have nothing in common -/
theorem flat_disj : ∀ {F : List (List Addr)} {i j : Nat} {a : Addr}, F.flatten.Nodup → a ∈ F.getD i [] → a ∈ F.getD j [] → i = j
  | [], i, j, a, _, h, _ => by simp at h
  | f :: F, 0, 0, a, _, _, _ => rfl
  | f :: F, 0, j + 1, a, h, h1, h2 => by
    rw [List.flatten_cons, List.nodup_append] at h
    exact absurd rfl (h.2.2 a (by simpa using h1) a (getD_mem_flat (i := j) (by simpa using h2)))
  | f :: F, i + 1, 0, a, h, h1, h2 => by
    rw [List.flatten_cons, List.nodup_append] at h
    exact absurd rfl (h.2.2 a (by simpa using h2) a (getD_mem_flat (i := i) (by simpa using h1)))
  | f :: F, i + 1, j + 1, a, h, h1, h2 => by
    rw [List.flatten_cons, List.nodup_append] at h
    rw [flat_disj h.2.1 (i := i) (j := j) (a := a) (by simpa using h1) (by simpa using h2)]
theorem msk_disj (S : Stt K P O β F G env σ H) {j : Nat} {a : Addr} (h1 : a ∈ F.getD i []) (h2 : a ∈ F.getD j []) : i = j := flat_disj (List.nodup_append.mp S.nd).1 h1 h2
/-- the owned data at a slot replaced, by a change of the objects that it owns: the footprint as it is -/
theorem Stt.put (S : Stt K P O β F G env σ H) (hi : i < env.length) (hc : ∀ a, a ∉ F.getD i [] → H' a = H a) (hp : ∀ a ∈ F.getD i [], ∃ o, H' a = some o)
    (hv : σ[i]? = some (some v)) (ho : Own K (hid H (msk F G)) H' (O.getD i 0) d v (F.getD i [])) : Stt K P O β F G (env.set i (some d)) σ H' := by
  have hm : ∀ a ∈ F.getD i [], a ∈ msk F G := fun a m => List.mem_append_left _ (getD_mem_flat m)
  have hs : hid H' (msk F G) = hid H (msk F G) := hid_chg fun a k => hc a fun z => k (hm a z)
  refine ⟨by rw [List.length_set]; exact S.len, by rw [List.length_set]; exact S.olen, by rw [List.length_set]; exact S.flen, S.nd, fun a m => ?_, by rw [hs]; exact S.base, fun j d' q => ?_, S.pin, S.z, fun a m => ⟨(S.rr a m).1, ?_⟩⟩
  · by_cases e : a ∈ F.getD i []
    · exact hp a e
    · rw [hc a e]; exact S.pres a m
  · by_cases e : i = j
    · subst e
      rw [List.getElem?_set_self hi] at q
      cases q
      exact ⟨v, hv, by rw [hs]; exact ho⟩
    · rw [List.getElem?_set_ne e] at q
      obtain ⟨w, h1, h2⟩ := S.slot j d' q
      refine ⟨w, h1, ?_⟩
      rw [hs]
      exact h2.frame (Ex.rfl' _) _ fun a m => hc a fun z => e (msk_disj S z m)
  · rw [hc a fun z => (List.nodup_append.mp S.nd).2.2 a (getD_mem_flat z) a (S.rr a m).1 rfl]
    exact (S.rr a m).2
theorem flat_nil_of {l : List D} {xs : List V} {fs : List (List Addr)} {Hm : Hp} (h : All3 (Own K Hm H 0) l xs fs) : fs.flatten = [] ∧ Rps K Hm l xs := by
  induction l generalizing xs fs with
  | nil => cases xs <;> cases fs <;> first | exact h.elim | exact ⟨rfl, rfl⟩
  | cons d l ih =>
    cases xs <;> cases fs <;> first | exact h.elim | skip
    obtain ⟨⟨e, r⟩, h2⟩ := h
    obtain ⟨e2, r2⟩ := ih h2
    subst e
    exact ⟨by simpa using e2, _, _, rfl, r, r2⟩
theorem all3_of {l : List D} {xs : List V} {Hm : Hp} (h : Rps K Hm l xs) : ∃ fs, All3 (Own K Hm H 0) l xs fs ∧ fs.flatten = [] := by
  induction l generalizing xs with
  | nil => rw [show xs = [] from h]; exact ⟨[], trivial, rfl⟩
  | cons d l ih =>
    obtain ⟨x, r, rfl, h1, h2⟩ := h
    obtain ⟨fs, q1, q2⟩ := ih h2
    exact ⟨[] :: fs, ⟨⟨rfl, h1⟩, q1⟩, by simpa using q2⟩
/-- an owned list of shared things -/
theorem Stt.set1 (S : Stt K P O β F G env σ H) {l : List D} (hO : O.getD i 0 = 1) (he : env[i]? = some (some (.lst l))) :
    ∃ p xs, σ[i]? = some (some (.ref p)) ∧ H p = some (.lst xs) ∧ p ∈ msk F G ∧ Rps K (hid H (msk F G)) l xs ∧ ∀ l' xs', Rps K (hid H (msk F G)) l' xs' → Stt K P O β F G (env.set i (some (.lst l'))) σ (upd H p (.lst xs')) := by
  obtain ⟨v, hv, h⟩ := S.slot i _ he
  rw [hO] at h
  obtain ⟨p, xs, fps, rfl, hf, h⟩ := h
  rcases h with ⟨l2, e, h1, h2⟩ | ⟨_, _, e, _⟩
  · cases e
    obtain ⟨e0, r⟩ := flat_nil_of h2
    have ef : F.getD i [] = [p] := by rw [hf, e0]
    refine ⟨p, xs, hv, h1, List.mem_append_left _ (getD_mem_flat (i := i) (by rw [ef]; exact List.mem_singleton.mpr rfl)), r, fun l' xs' r' => ?_⟩
    obtain ⟨fs, q1, q2⟩ := all3_of (H := upd H p (.lst xs')) r'
    refine S.put (S.lt he) (fun a z => upd_ne fun y => z ?_) (fun a m => ?_) hv ?_
    · rw [ef, y]; exact List.mem_singleton.mpr rfl
    · rw [ef, List.mem_singleton] at m
      subst m
      exact ⟨_, upd_same⟩
    · rw [hO, ef]
      exact ⟨p, xs', fs, rfl, by rw [q2], .inl ⟨l', rfl, upd_same, q1⟩⟩
  · cases e
/-- an owned dict of shared things -/
theorem Stt.setD (S : Stt K P O β F G env σ H) {ks : List Key} {l : List D} (hO : O.getD i 0 = 1) (he : env[i]? = some (some (.dct ks l))) :
    ∃ p xs, σ[i]? = some (some (.ref p)) ∧ H p = some (.dK (ks.zip xs)) ∧ p ∈ msk F G ∧ ks.length = l.length ∧ Rps K (hid H (msk F G)) l xs ∧ ∀ ks' l' xs', ks'.length = l'.length → Rps K (hid H (msk F G)) l' xs' → Stt K P O β F G (env.set i (some (.dct ks' l'))) σ (upd H p (.dK (ks'.zip xs'))) := by
  obtain ⟨v, hv, h⟩ := S.slot i _ he
  rw [hO] at h
  obtain ⟨p, xs, fps, rfl, hf, h⟩ := h
  rcases h with ⟨l2, e, h1, h2⟩ | ⟨ks2, l2, e, h1, hk, h2⟩
  · cases e
  · cases e
    obtain ⟨e0, r⟩ := flat_nil_of h2
    have ef : F.getD i [] = [p] := by rw [hf, e0]
    refine ⟨p, xs, hv, h1, List.mem_append_left _ (getD_mem_flat (i := i) (by rw [ef]; exact List.mem_singleton.mpr rfl)), hk, r, fun ks' l' xs' hk' r' => ?_⟩
    obtain ⟨fs, q1, q2⟩ := all3_of (H := upd H p (.dK (ks'.zip xs'))) r'
    refine S.put (S.lt he) (fun a z => upd_ne fun y => z ?_) (fun a m => ?_) hv ?_
    · rw [ef, y]; exact List.mem_singleton.mpr rfl
    · rw [ef, List.mem_singleton] at m
      subst m
      exact ⟨_, upd_same⟩
    · rw [hO, ef]
      exact ⟨p, xs', fs, rfl, by rw [q2], .inr ⟨ks', l', rfl, upd_same, hk', q1⟩⟩
theorem all3_frame {Hm : Hp} : ∀ {l : List D} {xs : List V} {fs : List (List Addr)} {k n : Nat}, (∀ a ∈ fs.flatten, a ∉ fs.getD k [] → H' a = H a) → fs.flatten.Nodup → All3 (Own K Hm H n) l xs fs →
    ∀ {d : D} {x : V}, Own K Hm H' n d x (fs.getD k []) → xs[k]? = some x → All3 (Own K Hm H' n) (l.set k d) xs fs
  | [], [], [], k, n, _, _, _, d, x, _, e => by simp at e
  | d0 :: l, x0 :: xs, f :: fs, 0, n, hc, hn, ⟨h1, h2⟩, d, x, ho, e => by
    simp at e; subst e
    rw [List.flatten_cons, List.nodup_append] at hn
    refine ⟨by simpa using ho, h2.imp fun d x f' m h => h.frame (Ex.rfl' _) _ fun a ma => hc a (by rw [List.flatten_cons]; exact List.mem_append_right _ (mem_flat_of m ma)) fun z => ?_⟩
    exact hn.2.2 a (by simpa using z) a (mem_flat_of m ma) rfl
  | d0 :: l, x0 :: xs, f :: fs, k + 1, n, hc, hn, ⟨h1, h2⟩, d, x, ho, e => by
    rw [List.flatten_cons, List.nodup_append] at hn
    refine ⟨h1.frame (Ex.rfl' _) _ fun a ma => hc a (by rw [List.flatten_cons]; exact List.mem_append_left _ ma) fun z => ?_, all3_frame (k := k) (fun a ma z => hc a (by rw [List.flatten_cons]; exact List.mem_append_right _ ma) (by simpa using z)) hn.2.1 h2 (by simpa using ho) (by simpa using e)⟩
    exact hn.2.2 a ma a (getD_mem_flat (i := k) (by simpa using z)) rfl
  | [], [], _ :: _, _, _, _, _, h, _, _, _, _ => h.elim
  | [], _ :: _, _, _, _, _, _, h, _, _, _, _ => h.elim
  | _ :: _, [], _, _, _, _, _, h, _, _, _, _ => h.elim
  | _ :: _, _ :: _, [], _, _, _, _, h, _, _, _, _ => h.elim
/-- an owned list of owned lists of shared things: one of these changed -/
theorem Stt.set2 (S : Stt K P O β F G env σ H) {l m : List D} {k : Nat} (hO : O.getD i 0 = 2) (he : env[i]? = some (some (.lst l))) (hk : l[k]? = some (.lst m)) :
    ∃ p xs q ys, σ[i]? = some (some (.ref p)) ∧ H p = some (.lst xs) ∧ xs.length = l.length ∧ xs[k]? = some (.ref q) ∧ H q = some (.lst ys) ∧ p ≠ q ∧ Rps K (hid H (msk F G)) m ys ∧
      ∀ m' ys', Rps K (hid H (msk F G)) m' ys' → Stt K P O β F G (env.set i (some (.lst (l.set k (.lst m'))))) σ (upd H q (.lst ys')) := by
  obtain ⟨v, hv, h⟩ := S.slot i _ he
  rw [hO] at h
  obtain ⟨p, xs, fps, rfl, hf, h⟩ := h
  rcases h with ⟨l2, e, h1, h2⟩ | ⟨_, _, e, _⟩
  · cases e
    obtain ⟨x, f, e1, e2, q, ys, fps2, rfl, hf2, h3⟩ := h2.get hk
    rcases h3 with ⟨l3, e3, h4, h5⟩ | ⟨_, _, e3, _⟩
    · cases e3
      obtain ⟨e0, r⟩ := flat_nil_of h5
      have ef2 : f = [q] := by rw [hf2, e0]
      have nd : (F.getD i []).Nodup := by
        have h6 : F.flatten.Nodup := (List.nodup_append.mp S.nd).1
        have h7 : (F.getD i []).Sublist F.flatten := by
          rw [List.getD_eq_getElem?_getD]
          cases z : F[i]? with
          | none => exact List.nil_sublist _
          | some g => exact List.sublist_flatten_of_mem (List.mem_of_getElem? z)
        exact h6.sublist h7
      rw [hf] at nd
      obtain ⟨np, nf⟩ := List.nodup_cons.mp nd
      have fk : fps.getD k [] = [q] := by rw [List.getD_eq_getElem?_getD, e2, ← ef2]; rfl
      have mq : q ∈ fps.flatten := getD_mem_flat (i := k) (by rw [fk]; exact List.mem_singleton.mpr rfl)
      have hpq : p ≠ q := fun z => np (by rw [z]; exact mq)
      refine ⟨p, xs, q, ys, hv, h1, h2.len.1, e1, h4, hpq, r, fun m' ys' r' => ?_⟩
      obtain ⟨fs, q1, q2⟩ := all3_of (H := upd H q (.lst ys')) r'
      refine S.put (S.lt he) (fun a z => upd_ne fun y => z ?_) (fun a ma => ?_) hv ?_
      · rw [hf, y]; exact List.mem_cons_of_mem _ mq
      · by_cases z : a = q
        · subst z; exact ⟨_, upd_same⟩
        · rw [upd_ne z]; exact S.pres a (List.mem_append_left _ (getD_mem_flat ma))
      · rw [hO, hf]
        refine ⟨p, xs, fps, rfl, rfl, .inl ⟨_, rfl, by rw [upd_ne hpq]; exact h1, ?_⟩⟩
        refine all3_frame (k := k) (fun a ma z => upd_ne fun y => z ?_) nf h2 (x := .ref q) ?_ e1
        · rw [fk, y]; exact List.mem_singleton.mpr rfl
        · rw [fk]
          exact ⟨q, ys', fs, rfl, by rw [q2], .inl ⟨m', rfl, upd_same, q1⟩⟩
    · cases e3
  · cases e
/-- a slot that holds something new: shared -/
theorem flat_set_mem {F : List (List Addr)} {f : List Addr} {a : Addr} (h : a ∈ (F.set i f).flatten) : a ∈ F.flatten ∨ a ∈ f := by
  obtain ⟨g, hg, ha⟩ := List.mem_flatten.mp h
  rcases List.mem_or_eq_of_mem_set hg with hg | rfl
  · exact .inl (mem_flat_of hg ha)
  · exact .inr ha
theorem flat_set_nil (F : List (List Addr)) (i : Nat) : (F.set i []).flatten.Sublist F.flatten := by
  induction F generalizing i with
  | nil => exact List.Sublist.refl _
  | cons f F ih =>
    cases i with
    | zero => exact List.sublist_append_right f F.flatten
    | succ i => exact List.Sublist.append (List.Sublist.refl f) (ih i)
theorem flat_set_perm {F : List (List Addr)} (hi : i < F.length) (f : List Addr) : (F.set i f).flatten.Perm (f ++ (F.set i []).flatten) := by
  induction F generalizing i with
  | nil => simp at hi
  | cons g F ih =>
    cases i with
    | zero => exact List.Perm.refl _
    | succ i =>
      show (g ++ (F.set i f).flatten).Perm (f ++ (g ++ (F.set i []).flatten))
      have h1 := (ih (by simpa using hi)).append_left g
      refine h1.trans ?_
      rw [← List.append_assoc, ← List.append_assoc]
      exact List.perm_append_comm.append_right _
/-- a slot holds from now on what is in flight (fp its footprint) -/
theorem Stt.store {fp : List Addr} (S : Stt K P O β F (fp ++ G) env σ H) (hR : ∀ a ∈ β.R, a ∈ G) (hi : i < env.length) (hP : i ∉ P) (ho : Own K (hid H (msk F (fp ++ G))) H n d v fp) : Stt K P (O.set i n) β (F.set i fp) G (env.set i (some d)) (σ.set i (some v)) H := by
  have hF : i < F.length := by rw [S.flen]; exact hi
  have hO : i < O.length := by rw [S.olen]; exact hi
  have hσ : i < σ.length := by rw [S.len]; exact hi
  have pm : (msk (F.set i fp) G).Perm (msk (F.set i []) (fp ++ G)) := by
    show ((F.set i fp).flatten ++ G).Perm ((F.set i []).flatten ++ (fp ++ G))
    rw [← List.append_assoc]
    exact ((flat_set_perm hF fp).trans List.perm_append_comm).append_right G
  have sb : (msk (F.set i []) (fp ++ G)).Sublist (msk F (fp ++ G)) := (flat_set_nil F i).append (List.Sublist.refl _)
  have mm : ∀ a ∈ msk (F.set i fp) G, a ∈ msk F (fp ++ G) := fun a m => sb.subset (pm.mem_iff.mp m)
  have e : Ex (hid H (msk F (fp ++ G))) (hid H (msk (F.set i fp) G)) := hid_sub mm
  refine ⟨by rw [List.length_set, List.length_set]; exact S.len, by rw [List.length_set, List.length_set]; exact S.olen, by rw [List.length_set, List.length_set]; exact S.flen,
    pm.nodup_iff.mpr (S.nd.sublist sb), fun a m => S.pres a (mm a m), S.base.trn e, fun j d' q => ?_, fun j hj => ?_, fun j hz => ?_, fun a m => ⟨hR a m, (S.rr a m).2⟩⟩
  · by_cases z : i = j
    · subst z
      rw [List.getElem?_set_self hi] at q
      cases q
      refine ⟨v, List.getElem?_set_self hσ, ?_⟩
      rw [getD_set_self hO, getD_set_self hF]
      exact ho.frame e _ fun _ _ => rfl
    · rw [List.getElem?_set_ne z] at q
      obtain ⟨w, h1, h2⟩ := S.slot j d' q
      refine ⟨w, by rw [List.getElem?_set_ne z]; exact h1, ?_⟩
      rw [getD_set_ne z, getD_set_ne z]
      exact h2.frame e _ fun _ _ => rfl
  · have z : i ≠ j := fun z => hP (z ▸ hj)
    rw [List.getElem?_set_ne z, getD_set_ne z]
    exact S.pin j hj
  · by_cases z : i = j
    · subst z
      rw [getD_set_self hO] at hz
      rw [getD_set_self hF]
      subst hz
      exact ho.1
    · rw [getD_set_ne z] at hz ⊢
      exact S.z j hz
theorem Stt.stor0 (S : Stt K P O β F G env σ H) (hi : i < env.length) (hP : i ∉ P) (r : Rp K (hid H (msk F G)) d v) : Stt K P (O.set i 0) β (F.set i []) G (env.set i (some d)) (σ.set i (some v)) H :=
  Stt.store (fp := []) S (fun a m => (S.rr a m).1) hi hP ⟨rfl, r⟩
/-- a slot's data shared from now on -/
theorem Stt.frz (S : Stt K P O β F G env σ H) (hi : i < env.length) (hP : i ∉ P) : Stt K P (O.set i 0) β (F.set i []) G env σ H := by
  have hF : i < F.length := by rw [S.flen]; exact hi
  have hO : i < O.length := by rw [S.olen]; exact hi
  have sb : (msk (F.set i []) G).Sublist (msk F G) := (flat_set_nil F i).append (List.Sublist.refl _)
  have e : Ex (hid H (msk F G)) (hid H (msk (F.set i []) G)) := hid_sub fun a m => sb.subset m
  refine ⟨S.len, by rw [List.length_set]; exact S.olen, by rw [List.length_set]; exact S.flen, S.nd.sublist sb, fun a m => S.pres a (sb.subset m), S.base.trn e, fun j d' q => ?_, fun j hj => ?_, fun j hz => ?_, S.rr⟩
  · by_cases z : i = j
    · subst z
      obtain ⟨w, h1, h2⟩ := S.slot i d' q
      refine ⟨w, h1, ?_⟩
      rw [getD_set_self hO, getD_set_self hF]
      refine ⟨rfl, h2.share e _ fun a m o ho => ?_⟩
      rw [hid_out fun y => ?_]
      · exact ho
      · rcases List.mem_append.mp y with y | y
        · obtain ⟨g, hg, ha⟩ := List.mem_flatten.mp y
          obtain ⟨k, hk⟩ := List.mem_iff_getElem?.mp hg
          by_cases zk : i = k
          · subst zk
            rw [List.getElem?_set_self hF] at hk
            cases hk; cases ha
          · rw [List.getElem?_set_ne zk] at hk
            exact zk (msk_disj S m (by rw [List.getD_eq_getElem?_getD, hk]; exact ha))
        · exact (List.nodup_append.mp S.nd).2.2 a (getD_mem_flat m) a y rfl
    · obtain ⟨w, h1, h2⟩ := S.slot j d' q
      refine ⟨w, h1, ?_⟩
      rw [getD_set_ne z, getD_set_ne z]
      exact h2.frame e _ fun _ _ => rfl
  · have z : i ≠ j := fun z => hP (z ▸ hj)
    rw [getD_set_ne z]
    exact S.pin j hj
  · by_cases z : i = j
    · subst z
      rw [getD_set_self hF]
    · rw [getD_set_ne z] at hz ⊢
      exact S.z j hz
/-- a slot forgotten, its footprint let go -/
theorem Stt.wipe1 (S : Stt K P O β F G env σ H) (hP : i ∉ P) : Stt K P O β F G (env.set i none) (σ.set i none) H := by
  refine ⟨by rw [List.length_set, List.length_set]; exact S.len, by rw [List.length_set]; exact S.olen, by rw [List.length_set]; exact S.flen, S.nd, S.pres, S.base, fun j d' q => ?_, fun j hj => ?_, S.z, S.rr⟩
  · by_cases z : i = j
    · subst z
      by_cases hi : i < env.length
      · rw [List.getElem?_set_self hi] at q; cases q
      · rw [List.getElem?_eq_none (by rw [List.length_set]; omega)] at q; cases q
    · rw [List.getElem?_set_ne z] at q
      obtain ⟨w, h1, h2⟩ := S.slot j d' q
      exact ⟨w, by rw [List.getElem?_set_ne z]; exact h1, h2⟩
  · have z : i ≠ j := fun z => hP (z ▸ hj)
    rw [List.getElem?_set_ne z]
    exact S.pin j hj
theorem set_getD {α : Type} {l : List α} {i : Nat} {a : α} (h : l.getD i a = a) : l.set i a = l := by
  induction l generalizing i with
  | nil => rfl
  | cons b l ih =>
    cases i with
    | zero => rw [show b = a from by simpa using h]; rfl
    | succ i => rw [List.set_cons_succ, ih (by simpa using h)]
/-- a slot that holds shared things gets another one -/
theorem Stt.stz (S : Stt K P O β F G env σ H) (hi : i < env.length) (hP : i ∉ P) (hz : O.getD i 0 = 0) (r : Rp K (hid H (msk F G)) d v) : Stt K P O β F G (env.set i (some d)) (σ.set i (some v)) H := by
  have h := S.stor0 hi hP r
  rw [set_getD hz, set_getD (S.z i hz)] at h
  exact h
/-- the base raised to what is shared now, and lowered again -/
def Bc.up (β : Bc) (B : Hp) : Bc := ⟨B, β.pv, β.pf, β.R, β.hR⟩
theorem Stt.rise (S : Stt K P O β F G env σ H) : Stt K P O (β.up (hid H (msk F G))) F G env σ H := ⟨S.len, S.olen, S.flen, S.nd, S.pres, Ex.rfl' _, S.slot, S.pin, S.z, S.rr⟩
theorem Stt.fall {B : Hp} (S : Stt K P O (β.up B) F G env σ H) (h : Ex β.B B) : Stt K P O β F G env σ H := ⟨S.len, S.olen, S.flen, S.nd, S.pres, h.trn S.base, S.slot, S.pin, S.z, S.rr⟩
end
end M3

/-! MS -/
set_option Elab.async false
set_option linter.all false
set_option maxRecDepth 100000
set_option maxHeartbeats 4000000
namespace M3
open PySem PySem.Spec PyProof.Rows L2

/-- what a def's body stands in: its pinned slots, their depths, the wish of exceptions, the depth of its answer -/
structure Fc where
  P : List Nat
  J : List Nat
  W : WX
  r : Nat
inductive SRs where
  | nx (e : Sl)
  | rt (d : D) (e : Sl)
  | bk (e : Sl)
  | ct (e : Sl)
  | exc (c : Addr) (x : D) (e : Sl)
  | bad
def Rs.toS {α : Type} (r : Rs α) (k : α → Sl → SRs) : SRs := match r with
  | .ok a e => k a e
  | .exc c x e => .exc c x e
  | .bad => .bad
abbrev MSt := Sl → SRs
structure RetOk (K : Fg) (c : Fc) (β : Bc) (G : List Addr) (e : Sl) (d : D) (v : V) (H : Hp) (fp : List Addr) (F : List (List Addr)) : Prop where
  nd : (msk F (fp ++ G)).Nodup
  base : Ex β.B (hid H (msk F (fp ++ G)))
  own : Own K (hid H (msk F (fp ++ G))) H c.r d v fp
  pf : ∀ i ∈ c.P, ∀ a ∈ β.pf i, a ∈ F.flatten
  io : ∀ i ∈ c.P, ∀ d', e[i]? = some (some d') → Own K (hid H (msk F (fp ++ G))) H (c.J.getD i 0) d' (β.pv i) (β.pf i)
  rr : ∀ a ∈ β.R, H a = β.hR a
def PstS (X : Cx) (c : Fc) (O' Ol : List Nat) (β : Bc) (G : List Addr) (D : Ends) : SRs → Prop
  | .nx e => ∀ σ H F, Stt X.K c.P O' β F G e σ H → D.nx σ H
  | .bk e => ∀ σ H F, Stt X.K c.P Ol β F G e σ H → D.bk σ H
  | .ct e => ∀ σ H F, Stt X.K c.P Ol β F G e σ H → D.ct σ H
  | .rt d e => ∀ v H fp F, RetOk X.K c β G e d v H fp F → D.rt v H
  | .exc a x e => ∀ dx v σ H O2 F, Stt X.K c.P O2 β F G e σ H → H dx = some (.xd [("value", v)]) → Rp X.K (hid H (msk F G)) x v → c.W (.ref a) (some dx) σ H
  | .bad => False
structure MS (X : Cx) (c : Fc) (Ol O O' : List Nat) (st : Stmt) (m : MSt) : Prop where
  run : ∃ t, PS X st t ∧ ∀ β F G env σ H D, Stt X.K c.P O β F G env σ H → PstS X c O' Ol β G D (m env) → t D σ H
structure MSs (X : Cx) (c : Fc) (Ol O O' : List Nat) (st : List Stmt) (m : MSt) : Prop where
  run : ∃ t, PSs X st t ∧ ∀ β F G env σ H D, Stt X.K c.P O β F G env σ H → PstS X c O' Ol β G D (m env) → t D σ H

def sNx : MSt := fun e => .nx e
def sSeq (a b : MSt) : MSt := fun e => match a e with | .nx e1 => b e1 | r => r
def sDrop (m : M) : MSt := fun e => (m e).toS fun _ e1 => .nx e1
def sRet (m : M) : MSt := fun e => (m e).toS fun d e1 => .rt d e1
def sSet (i : Nat) (m : M) : MSt := fun e => (m e).toS fun d e1 => .nx (e1.set i (some d))
def sIf (c : M) (a b : MSt) : MSt := fun e => (c e).toS fun d e1 => match d with | .bl true => a e1 | .bl false => b e1 | _ => .bad

section
variable {X : Cx} {c : Fc} {Ol O O' O1 O2 : List Nat} {st : Stmt} {sts : List Stmt} {m ma mb : M} {s s1 s2 : MSt} {n : Nat} {b b1 b2 : Bool} {e a t : Expr} {pos pos' : Pos} {β : Bc} {F : List (List Addr)} {G : List Addr} {env : Sl} {σ : L2.St} {H : Hp} {D : Ends}

theorem PstS.bind {α : Type} {r : Rs α} {k : α → Sl → SRs} {R : α → Hp → Prop} (h : PstS X c O' Ol β G D (r.toS k)) (step : ∀ a e1 H1, Stt X.K c.P O β F G e1 σ H1 → PstS X c O' Ol β G D (k a e1) → R a H1) : Pst X c.P O c.W β F G σ H b env R r := by
  cases r with
  | ok a e => exact fun H1 S1 _ _ => step a e H1 S1 h
  | exc a x e => exact fun dx v H1 S1 _ h1 h2 => h dx v σ H1 O F S1 h1 h2
  | bad => exact h
theorem PstS.bindO {r : Rs M3.D} {k : M3.D → Sl → SRs} {Q : VK} (h : PstS X c O' Ol β G D (r.toS k)) (step : ∀ d e1 v H1 fp, Stt X.K c.P O β F (fp ++ G) e1 σ H1 → Own X.K (hid H1 (msk F (fp ++ G))) H1 n d v fp → PstS X c O' Ol β G D (k d e1) → Q v H1) : PstO X c.P O c.W β F G σ H n b env Q r := by
  cases r with
  | ok d e => exact fun v H1 fp S1 _ _ o => step d e v H1 fp S1 o h
  | exc a x e => exact fun dx v H1 S1 _ h1 h2 => h dx v σ H1 O F S1 h1 h2
  | bad => exact h

theorem mss_nil : MSs X c Ol O O [] sNx := ⟨_, pss_nil, fun β F G env σ H D S p => p σ H F S⟩
theorem mss_cons (h1 : MS X c Ol O O1 st s1) (h2 : MSs X c Ol O1 O' sts s2) : MSs X c Ol O O' (st :: sts) (sSeq s1 s2) := by
  obtain ⟨t, p, h⟩ := h1.run
  obtain ⟨u, q, g⟩ := h2.run
  refine ⟨_, pss_cons p q, fun β F G env σ H D S z => ?_⟩
  refine h β F G env σ H _ S ?_
  unfold sSeq at z
  cases e : s1 env with
  | nx e1 => rw [e] at z; exact fun σ' H' F' S' => g β F' G e1 σ' H' D S' z
  | rt d e1 => rw [e] at z; exact z
  | bk e1 => rw [e] at z; exact z
  | ct e1 => rw [e] at z; exact z
  | exc a x e1 => rw [e] at z; exact z
  | bad => rw [e] at z; exact z
theorem mss_one (h1 : MS X c Ol O O' st s1) : MSs X c Ol O O' [st] s1 := by
  obtain ⟨t, p, h⟩ := h1.run
  exact ⟨_, pss_one p, h⟩
/-- a slot shared from now on: ahead of a block, a statement; behind a block -/
theorem MSs.frz (i : Nat) (h : MSs X c Ol (O.set i 0) O' sts s) (hi : (decide (i < O.length) && !c.P.contains i) = true := by rfl) : MSs X c Ol O O' sts s := by
  obtain ⟨t, p, h⟩ := h.run
  rw [Bool.and_eq_true] at hi
  refine ⟨t, p, fun β F G env σ H D S z => h β _ G env σ H D (S.frz (i := i) ?_ ?_) z⟩
  · rw [← S.olen]; exact of_decide_eq_true hi.1
  · simpa using hi.2
theorem MS.frz (i : Nat) (h : MS X c Ol (O.set i 0) O' st s) (hi : (decide (i < O.length) && !c.P.contains i) = true := by rfl) : MS X c Ol O O' st s := by
  obtain ⟨t, p, h⟩ := h.run
  rw [Bool.and_eq_true] at hi
  refine ⟨t, p, fun β F G env σ H D S z => h β _ G env σ H D (S.frz (i := i) ?_ ?_) z⟩
  · rw [← S.olen]; exact of_decide_eq_true hi.1
  · simpa using hi.2
theorem MSs.zap (i : Nat) (h : MSs X c Ol O O1 sts s) (hO : O' = O1.set i 0 := by rfl) (hi : (decide (i < O1.length) && !c.P.contains i) = true := by rfl) : MSs X c Ol O O' sts s := by
  obtain ⟨t, p, h⟩ := h.run
  rw [Bool.and_eq_true] at hi
  subst hO
  refine ⟨t, p, fun β F G env σ H D S z => h β F G env σ H D S ?_⟩
  cases e : s env with
  | nx e1 =>
    rw [e] at z
    refine fun σ' H' F' S' => z σ' H' _ (S'.frz (i := i) ?_ ?_)
    · rw [← S'.olen]; exact of_decide_eq_true hi.1
    · simpa using hi.2
  | rt d e1 => rw [e] at z; exact z
  | bk e1 => rw [e] at z; exact z
  | ct e1 => rw [e] at z; exact z
  | exc a x e1 => rw [e] at z; exact z
  | bad => rw [e] at z; exact z
theorem ms_pass : MS X c Ol O O (.Pass pos) sNx := ⟨_, ps_pass, fun β F G env σ H D S p => p σ H F S⟩
theorem ms_break : MS X c O O O' (.Break pos) (fun e => .bk e) := ⟨_, ps_break, fun β F G env σ H D S p => p σ H F S⟩
theorem ms_continue : MS X c O O O' (.Continue pos) (fun e => .ct e) := ⟨_, ps_continue, fun β F G env σ H D S p => p σ H F S⟩
theorem ms_expr (ha : ME X c.P O c.W n b e m) (hs : swapsWith e none pos.line X.env = pure false := by rfl) : MS X c Ol O O (.Expr e pos) (sDrop m) := by
  obtain ⟨t, p, h⟩ := ha.run
  exact ⟨_, ps_expr p hs, fun β F G env σ H D S z => h β F G env σ H _ S (z.bind fun d e1 H1 S1 q v _ => q σ H1 F S1)⟩
theorem ms_never : MS X c Ol O O' st (fun _ => .bad) := ⟨_, ps_never, fun β F G env σ H D S p => p.elim⟩

/-! ### return -/
theorem pin_pf {K : Fg} {P O : List Nat} (S : Stt K P O β F G env σ H) {i : Nat} (hi : i ∈ P) {a : Addr} (h : a ∈ β.pf i) : a ∈ F.flatten := by
  rw [← (S.pin i hi).2] at h
  exact getD_mem_flat h
def okJ (P O J : List Nat) : Bool := P.all fun i => O.getD i 0 == J.getD i 0
theorem okJ_of {P O J : List Nat} (h : okJ P O J = true) {i : Nat} (hi : i ∈ P) : O.getD i 0 = J.getD i 0 := by
  simpa using (List.all_eq_true.mp h) i hi
theorem Stt.io {K : Fg} {P O J : List Nat} (S : Stt K P O β F G env σ H) (hJ : okJ P O J = true) {i : Nat} (hi : i ∈ P) {d : M3.D} (h : env[i]? = some (some d)) : Own K (hid H (msk F G)) H (J.getD i 0) d (β.pv i) (β.pf i) := by
  obtain ⟨v, h1, h2⟩ := S.slot i d h
  obtain ⟨h3, h4⟩ := S.pin i hi
  rw [h3] at h1
  cases h1
  rw [okJ_of hJ hi, h4] at h2
  exact h2
theorem ms_ret (hr : c.r = 0) (ha : ME X c.P O c.W 0 b e m) (hJ : okJ c.P O c.J = true := by rfl) : MS X c Ol O O' (.Return (some e) pos) (sRet m) := by
  obtain ⟨t, p, h⟩ := ha.run
  refine ⟨_, ps_ret p, fun β F G env σ H D S z => h β F G env σ H _ S (z.bind fun d e1 H1 S1 q v r => ?_)⟩
  refine q v H1 [] F ⟨S1.nd, S1.base, ?_, fun i hi a ha => pin_pf S1 hi ha, fun i hi d' hd => S1.io hJ hi hd, fun a m => (S1.rr a m).2⟩
  rw [hr]
  exact ⟨rfl, r⟩
theorem ms_retN (hr : c.r = 0) (hJ : okJ c.P O c.J = true := by rfl) : MS X c Ol O O' (.Return none pos) (fun e => .rt .non e) := by
  refine ⟨_, ps_retN, fun β F G env σ H D S q => ?_⟩
  refine q .non H [] F ⟨S.nd, S.base, ?_, fun i hi a ha => pin_pf S hi ha, fun i hi d' hd => S.io hJ hi hd, fun a m => (S.rr a m).2⟩
  rw [hr]
  exact ⟨rfl, rfl⟩
theorem ms_retO (hr : c.r = n) (ha : MO X c.P O c.W n b e m) (hJ : okJ c.P O c.J = true := by rfl) : MS X c Ol O O' (.Return (some e) pos) (sRet m) := by
  obtain ⟨t, p, h⟩ := ha.run
  refine ⟨_, ps_ret p, fun β F G env σ H D S z => h β F G env σ H _ S (z.bindO fun d e1 v H1 fp S1 o q => ?_)⟩
  refine q v H1 fp F ⟨S1.nd, S1.base, ?_, fun i hi a ha => pin_pf S1 hi ha, fun i hi d' hd => S1.io hJ hi hd, fun a m => (S1.rr a m).2⟩
  rw [hr]
  exact o
/-- return x, x an owned local -/
theorem ms_retV (i : Nat) {x : Str} (hr : c.r = O.getD i 0) (hi : (!c.P.contains i) = true := by rfl) (hJ : okJ c.P O c.J = true := by rfl) (hN : X.N[i]? = some x := by rfl) (hv : Vis X.env.scope x := by first | exact Or.inl rfl | exact Or.inr (Or.inl rfl) | exact Or.inr (Or.inr rfl)) (hd : (x == ("__debug__" : Str)) = false := by decide)
    (hcd : (x == ("__classdict__" : Str)) = false := by decide) : MS X c Ol O O' (.Return (some (.Name x pos')) pos) (sRet (mVar i)) := by
  refine ⟨_, ps_ret (pe_var hN hv hd hcd), fun β F G env σ H D S z => ?_⟩
  unfold sRet mVar at z
  cases q : env[i]? with
  | none => rw [q] at z; exact z.elim
  | some o =>
    cases o with
    | none => rw [q] at z; exact z.elim
    | some d =>
      rw [q] at z
      obtain ⟨v, h1, h2⟩ := S.slot i d q
      have hF : i < F.length := by rw [S.flen]; exact S.lt q
      have hP : i ∉ c.P := by simpa using hi
      have pm : (msk F G).Perm (msk (F.set i []) (F.getD i [] ++ G)) := by
        show (F.flatten ++ G).Perm ((F.set i []).flatten ++ (F.getD i [] ++ G))
        rw [← List.append_assoc]
        have h := flat_set_perm hF (F.getD i [])
        have e : F.set i (F.getD i []) = F := by
          refine List.ext_getElem? fun j => ?_
          by_cases z : i = j
          · subst z
            rw [List.getElem?_set_self hF, List.getD_eq_getElem?_getD, List.getElem?_eq_getElem hF]; rfl
          · rw [List.getElem?_set_ne z]
        rw [e] at h
        exact (h.trans List.perm_append_comm).append_right G
      have e : hid H (msk F G) = hid H (msk (F.set i []) (F.getD i [] ++ G)) := hid_same fun a => pm.mem_iff
      refine ⟨v, h1, z v H (F.getD i []) (F.set i []) ⟨pm.nodup_iff.mp S.nd, by rw [← e]; exact S.base, by rw [hr, ← e]; exact h2, fun j hj a ha => ?_, fun j hj d' hd => by rw [← e]; exact S.io hJ hj hd, fun a m => (S.rr a m).2⟩⟩
      have hij : i ≠ j := fun z => hP (z ▸ hj)
      rw [← (S.pin j hj).2] at ha
      refine getD_mem_flat (i := j) ?_
      rw [getD_set_ne hij]
      exact ha

/-! ### stores -/
theorem ltO {K : Fg} {P O : List Nat} (S : Stt K P O β F G env σ H) {i : Nat} (h : i < O.length) : i < env.length := by rw [← S.olen]; exact h
theorem ms_set (i : Nat) {x : Str} (hN : X.N.Nodup) (ha : ME X c.P O c.W 0 b e m) (hO : O' = O.set i 0 := by rfl) (hi : (decide (i < O.length) && !c.P.contains i) = true := by rfl) (hx : X.N[i]? = some x := by rfl) (hl : Loc X.env.scope x := by first | exact Or.inl rfl | exact Or.inr rfl)
    (hs : swapsWith e (some (.Name x pos')) pos.line X.env = pure false := by rfl) (hf : X.fn x = true ∨ X.env.scope.names.lookup x = some .local := by first | exact .inl rfl | exact .inr rfl) : MS X c Ol O O' (.Assign [.Name x pos'] e pos) (sSet i m) := by
  obtain ⟨t, p, h⟩ := ha.run
  rw [Bool.and_eq_true] at hi
  subst hO
  refine ⟨_, ps_set hN hx hl p hs hf, fun β F G env σ H D S z => h β F G env σ H _ S (z.bind fun d e1 H1 S1 q v r => ?_)⟩
  exact q _ H1 _ (S1.stor0 (ltO S1 (of_decide_eq_true hi.1)) (by simpa using hi.2) r)
theorem ms_setO (i : Nat) {x : Str} (hN : X.N.Nodup) (ha : MO X c.P O c.W n b e m) (hO : O' = O.set i n := by rfl) (hi : (decide (i < O.length) && !c.P.contains i) = true := by rfl) (hx : X.N[i]? = some x := by rfl) (hl : Loc X.env.scope x := by first | exact Or.inl rfl | exact Or.inr rfl)
    (hs : swapsWith e (some (.Name x pos')) pos.line X.env = pure false := by rfl) (hf : X.fn x = true ∨ X.env.scope.names.lookup x = some .local := by first | exact .inl rfl | exact .inr rfl) : MS X c Ol O O' (.Assign [.Name x pos'] e pos) (sSet i m) := by
  obtain ⟨t, p, h⟩ := ha.run
  rw [Bool.and_eq_true] at hi
  subst hO
  refine ⟨_, ps_set hN hx hl p hs hf, fun β F G env σ H D S z => h β F G env σ H _ S (z.bindO fun d e1 v H1 fp S1 o q => ?_)⟩
  exact q _ H1 _ (Stt.store (fp := fp) S1 (fun a m => (S.rr a m).1) (ltO S1 (of_decide_eq_true hi.1)) (by simpa using hi.2) o)
/-- x[k] = e, x an owned list of shared things -/
def setAt (l : List M3.D) (k : Int) (d : M3.D) : Option (List M3.D) := (ixN l.length k).map fun j => l.set j d
def setD (k d : M3.D) : Option (Option M3.D) → Option M3.D
  | some (some (.lst l)) => (match k with | .int i => (setAt l i d).map .lst | _ => none)
  | _ => none
def stO (i : Nat) (o : Option M3.D) (e : Sl) : SRs := match o with | some d => .nx (e.set i (some d)) | none => .bad
def sSub (i : Nat) (mk mv : M) : MSt := fun e => (mv e).toS fun d e1 => (mVar i e1).toS fun _ e1 => (mk e1).toS fun k e2 => stO i (setD k d e2[i]?) e2
theorem mVar_ok {i : Nat} {d : M3.D} {e1 : Sl} (h : mVar i env = .ok d e1) : env[i]? = some (some d) ∧ e1 = env := by
  unfold mVar at h
  cases q : env[i]? with
  | none => rw [q] at h; cases h
  | some o =>
    cases o with
    | none => rw [q] at h; cases h
    | some d' => rw [q] at h; cases h; exact ⟨rfl, rfl⟩
theorem toS_var {i : Nat} {k : M3.D → Sl → SRs} (h : PstS X c O' Ol β G D ((mVar i env).toS k)) : ∃ d, env[i]? = some (some d) ∧ PstS X c O' Ol β G D (k d env) := by
  cases q : mVar i env with
  | ok d e1 =>
    rw [q] at h
    obtain ⟨h1, rfl⟩ := mVar_ok q
    exact ⟨d, h1, h⟩
  | exc a x e =>
    unfold mVar at q
    split at q <;> cases q
  | bad => rw [q] at h; exact h.elim
theorem stO_ok {i : Nat} {o : Option M3.D} {e : Sl} (h : PstS X c O' Ol β G D (stO i o e)) : ∃ d, o = some d ∧ PstS X c O' Ol β G D (.nx (e.set i (some d))) := by
  cases o with
  | none => exact h.elim
  | some d => exact ⟨d, rfl, h⟩
theorem setD_ok {k d r : M3.D} {o : Option (Option M3.D)} (h : setD k d o = some r) : ∃ l kk j, o = some (some (.lst l)) ∧ k = .int kk ∧ ixN l.length kk = some j ∧ r = .lst (l.set j d) := by
  unfold setD at h
  split at h
  · split at h
    · unfold setAt at h
      rename_i l _ kk
      cases q : ixN l.length kk with
      | none => rw [q] at h; cases h
      | some j => rw [q] at h; cases h; exact ⟨l, kk, j, rfl, rfl, q, rfl⟩
    · cases h
  · cases h
theorem ms_sub (i : Nat) {x : Str} {k : Expr} {mk mv : M} {kpos np : Pos} (hv : ME X c.P O c.W 0 b1 e mv) (hk : ME X c.P O c.W n b2 k mk) (hO : O.getD i 0 = 1 := by rfl) (hx : X.N[i]? = some x := by rfl) (hvis : Vis X.env.scope x := by first | exact Or.inl rfl | exact Or.inr (Or.inl rfl) | exact Or.inr (Or.inr rfl))
    (hd : (x == ("__debug__" : Str)) = false := by decide) (hcd : (x == ("__classdict__" : Str)) = false := by decide)
    (hs : swapsWithSole [.Subscript (.Name x np) k kpos] e pos.line X.env = pure false := by rfl) (hw : swappedStores [.Subscript (.Name x np) k kpos] e X.env = pure none := by rfl)
    (h1 : (assignEach [.Subscript (.Name x np) k kpos] X.env).map (·.2) = [assign (.Subscript (.Name x np) k kpos) X.env] := by rfl) (hns : ∀ t u, PE X (.Name x np) t → PE X k u → PG X (.Subscript (.Name x np) k kpos) (gSub t u rSetL) := by exact fun t u h g => pg_sub h g set_list) : MS X c Ol O O (.Assign [.Subscript (.Name x np) k kpos] e pos) (sSub i mk mv) := by
  obtain ⟨tv, pv, hv⟩ := hv.run
  obtain ⟨tk, pk, hk⟩ := hk.run
  refine ⟨_, ps_asg pv (hns _ _ (pe_var hx hvis hd hcd) pk) hs hw h1, fun β F G env σ H D S z => hv β F G env σ H _ S (z.bind fun d e1 H1 S1 q v r => ?_)⟩
  obtain ⟨d0, he, q⟩ := toS_var q
  obtain ⟨w, hw, _⟩ := S1.slot i _ he
  refine ⟨w, hw, hk β F G e1 σ H1 _ S1 ?_⟩
  have keep : Rp X.K (hid H1 (msk F G)) d v := r
  cases ek : mk e1 with
  | bad => rw [ek] at q; exact q
  | exc a x e => rw [ek] at q; exact fun dx v H1 S1 _ h1 h2 => q dx v σ H1 O F S1 h1 h2
  | ok k2 e2 =>
    rw [ek] at q
    intro H2 S2 x2 p2 y ry
    obtain ⟨r', hr', q⟩ := stO_ok q
    obtain ⟨l, kk, j, el, rfl, ej, rfl⟩ := setD_ok hr'
    obtain ⟨p, xs, hp, hH, _, rl, upd'⟩ := S2.set1 hO el
    rw [hw] at hp
    cases hp
    exact ⟨p, xs, kk, j, rfl, ry.rp hid_le, hH, by rw [rl.len]; exact ej, q σ _ F (upd' _ _ (rl.set j (Rp.ex x2.ex d keep)))⟩
/-- x[a][b] = e, x an owned list of owned lists -/
def rowAt (a : M3.D) : Option (Option M3.D) → Option (List M3.D × Nat × List M3.D)
  | some (some (.lst l)) => (match a with
    | .int i => (ixN l.length i).bind fun j => match l[j]? with | some (.lst m) => some (l, j, m) | _ => none
    | _ => none)
  | _ => none
def sSub2 (i : Nat) (ma mk mv : M) : MSt := fun e => (mv e).toS fun d e1 => (mVar i e1).toS fun _ e1 => (ma e1).toS fun a e2 => (liftO (rowAt a e2[i]?) e2).toS fun w e2 => (mk e2).toS fun k e3 =>
  stO i ((setD k d (some (some (.lst w.2.2)))).map fun m => .lst (w.1.set w.2.1 m)) e3
theorem rowAt_ok {a : M3.D} {o : Option (Option M3.D)} {l m : List M3.D} {j : Nat} (h : rowAt a o = some (l, j, m)) : ∃ aa, o = some (some (.lst l)) ∧ a = .int aa ∧ ixN l.length aa = some j ∧ l[j]? = some (.lst m) := by
  unfold rowAt at h
  split at h
  · split at h
    · rename_i l' _ aa
      cases q : ixN l'.length aa with
      | none => rw [q] at h; cases h
      | some j' =>
        rw [q] at h
        have h : (match l'[j']? with | some (.lst m) => some (l', j', m) | _ => none) = some (l, j, m) := h
        split at h
        · cases h
          exact ⟨aa, rfl, rfl, q, by assumption⟩
        · cases h
    · cases h
  · cases h
theorem toS_lift {α : Type} {o : Option α} {k : α → Sl → SRs} (h : PstS X c O' Ol β G D ((liftO o env).toS k)) : ∃ a, o = some a ∧ PstS X c O' Ol β G D (k a env) := by
  cases o with
  | none => exact h.elim
  | some a => exact ⟨a, rfl, h⟩
theorem ms_sub2 (i : Nat) {x : Str} {g k : Expr} {ma mk mv : M} {kpos gpos np : Pos} {n2 : Nat} {b3 : Bool} (hv : ME X c.P O c.W 0 b1 e mv) (ha : ME X c.P O c.W n b2 g ma) (hk : ME X c.P O c.W n2 b3 k mk) (hb3 : b3 = true := by rfl) (hO : O.getD i 0 = 2 := by rfl) (hx : X.N[i]? = some x := by rfl) (hvis : Vis X.env.scope x := by first | exact Or.inl rfl | exact Or.inr (Or.inl rfl) | exact Or.inr (Or.inr rfl))
    (hd : (x == ("__debug__" : Str)) = false := by decide) (hcd : (x == ("__classdict__" : Str)) = false := by decide)
    (hs : swapsWithSole [.Subscript (.Subscript (.Name x np) g gpos) k kpos] e pos.line X.env = pure false := by rfl) (hw : swappedStores [.Subscript (.Subscript (.Name x np) g gpos) k kpos] e X.env = pure none := by rfl)
    (h1 : (assignEach [.Subscript (.Subscript (.Name x np) g gpos) k kpos] X.env).map (·.2) = [assign (.Subscript (.Subscript (.Name x np) g gpos) k kpos) X.env] := by rfl)
    (hns : ∀ t u w, PE X (.Name x np) t → PE X g u → PE X k w → PG X (.Subscript (.Subscript (.Name x np) g gpos) k kpos) (gSub (tOp (rIxL X.K) t u) w rSetL) := by exact fun t u w h g k => pg_sub (pe_ix ix_list h g (fun _ _ => rfl)) k set_list) :
    MS X c Ol O O (.Assign [.Subscript (.Subscript (.Name x np) g gpos) k kpos] e pos) (sSub2 i ma mk mv) := by
  obtain ⟨tv, pv, hv⟩ := hv.run
  obtain ⟨ta, pa, ha⟩ := ha.run
  obtain ⟨tk, pk, hk⟩ := hk.run
  refine ⟨_, ps_asg pv (hns _ _ _ (pe_var hx hvis hd hcd) pa pk) hs hw h1, fun β F G env σ H D S z => hv β F G env σ H _ S (z.bind fun d e1 H1 S1 q v r => ?_)⟩
  obtain ⟨d0, he, q⟩ := toS_var q
  obtain ⟨w, hw, _⟩ := S1.slot i _ he
  refine ⟨w, hw, ha β F G e1 σ H1 _ S1 ?_⟩
  have keep : Rp X.K (hid H1 (msk F G)) d v := r
  cases ea : ma e1 with
  | bad => rw [ea] at q; exact q
  | exc a x e => rw [ea] at q; exact fun dx v H1 S1 _ h1 h2 => q dx v σ H1 O F S1 h1 h2
  | ok a2 e2 =>
    rw [ea] at q
    intro H2 S2 x2 p2 ya rya
    obtain ⟨⟨l, j, m⟩, hr, q3⟩ := toS_lift q
    clear q
    obtain ⟨aa, el, rfl, ej, em⟩ := rowAt_ok hr
    obtain ⟨p, xs, r2, ys, hp, hH, hl, hx2, hH2, npq, rl, _⟩ := S2.set2 hO el em
    rw [hw] at hp
    cases hp
    have hix : atI xs aa = some (.ref r2) := by
      unfold atI
      rw [hl, ej]; exact hx2
    refine ⟨p, xs, aa, .ref r2, rfl, rya.rp hid_le, SqL.of hH, hix, hk β F G e2 σ H2 _ S2 ?_⟩
    cases ek : mk e2 with
    | bad => rw [ek] at q3; exact q3
    | exc a x e => rw [ek] at q3; exact fun dx v H1 S1 _ h1 h2 => q3 dx v σ H1 O F S1 h1 h2
    | ok k2 e3 =>
      rw [ek] at q3
      intro H3 S3 x3 p3 yk ryk
      obtain ⟨e32, x3'⟩ := p3 hb3
      subst e32
      obtain ⟨r', hr', q4⟩ := stO_ok q3
      clear q3
      cases es : setD k2 d (some (some (.lst m))) with
      | none => rw [es] at hr'; cases hr'
      | some m' =>
        rw [es] at hr'
        cases hr'
        obtain ⟨m0, kk, jj, e0, rfl, ej2, rfl⟩ := setD_ok es
        cases e0
        obtain ⟨p', xs', q', ys', hp', hH', hl', hx', hH2', _, rl', upd'⟩ := S3.set2 hO el em
        rw [hw] at hp'
        cases hp'
        have e1 : xs' = xs := by
          have h := x3' _ _ hH
          rw [hH'] at h
          cases h; rfl
        subst e1
        rw [hx2] at hx'
        cases hx'
        exact ⟨r2, ys', kk, jj, rfl, ryk.rp hid_le, hH2', by rw [rl'.len]; exact ej2, q4 σ _ F (upd' _ _ (rl'.set jj (Rp.ex (x2.trn x3).ex d keep)))⟩

/-! ### x.append(e) -/
def appD (d : M3.D) : Option (Option M3.D) → Option M3.D
  | some (some (.lst l)) => if l.length < lim then some (.lst (l ++ [d])) else none
  | _ => none
def isL : M3.D → Option Unit
  | .lst _ => some ()
  | _ => none
def sApp (i : Nat) (m : M) : MSt := fun e => (mVar i e).toS fun d0 e => (liftO (isL d0) e).toS fun _ e => (m e).toS fun d e1 => stO i (appD d e1[i]?) e1
theorem appD_ok {d r : M3.D} {o : Option (Option M3.D)} (h : appD d o = some r) : ∃ l, o = some (some (.lst l)) ∧ l.length < lim ∧ r = .lst (l ++ [d]) := by
  unfold appD at h
  split at h
  · split at h
    · cases h; exact ⟨_, rfl, by assumption, rfl⟩
    · cases h
  · cases h
theorem ms_app (i : Nat) {x : Str} {np apos cpos : Pos} (ha : ME X c.P O c.W 0 b e m) (hO : O.getD i 0 = 1 := by rfl) (hx : X.N[i]? = some x := by rfl) (hvis : Vis X.env.scope x := by first | exact Or.inl rfl | exact Or.inr (Or.inl rfl) | exact Or.inr (Or.inr rfl))
    (hd : (x == ("__debug__" : Str)) = false := by decide) (hcd : (x == ("__classdict__" : Str)) = false := by decide)
    (hp : ∀ t u, PE X (.Name x np) t → PE X e u → PS X (.Expr (.Call (.Attribute (.Name x np) "append" apos) [e] [] cpos) pos) (tDrop (tBM X.K "list" rAppend t (tCons u tNil))) := by exact fun t u h g => ps_expr (pe_bm PySem.F.plainAttrs_list PySem.F.slot_list_append PySem.F.type_list_append mt_append h (pa_cons g pa_nil))) :
    MS X c Ol O O (.Expr (.Call (.Attribute (.Name x np) "append" apos) [e] [] cpos) pos) (sApp i m) := by
  obtain ⟨ta, pa, ha⟩ := ha.run
  refine ⟨_, hp _ _ (pe_var hx hvis hd hcd) pa, fun β F G env σ H D S z => ?_⟩
  obtain ⟨d0, he, q0⟩ := toS_var z
  obtain ⟨_, hl0, q⟩ := toS_lift q0
  obtain ⟨w, hw, hown⟩ := S.slot i _ he
  refine ⟨w, hw, ?_, ha β F G env σ H _ S ?_⟩
  · rw [hO] at hown
    obtain ⟨p, xs, fps, rfl, _, ⟨l, rfl, h1, _⟩ | ⟨ks, l, rfl, h1, _⟩⟩ := hown
    · exact .inl ⟨rfl, xs, SqL.of h1⟩
    · cases hl0
  · cases ea : m env with
    | bad => rw [ea] at q; exact q
    | exc a x e => rw [ea] at q; exact fun dx v H1 S1 _ h1 h2 => q dx v σ H1 O F S1 h1 h2
    | ok d e1 =>
      rw [ea] at q
      intro H1 S1 x1 p1 v r
      obtain ⟨r', hr', q⟩ := stO_ok q
      obtain ⟨l, el, hl, rfl⟩ := appD_ok hr'
      obtain ⟨p, xs, hp, hH, _, rl, upd'⟩ := S1.set1 hO el
      rw [hw] at hp
      cases hp
      exact ⟨p, xs, v, rfl, rfl, hH, by rw [rl.len]; exact lim_lt hl, q σ _ F (upd' _ _ (rl.app (.one r)))⟩
end
end M3

/-! ML -/
set_option Elab.async false
set_option linter.all false
set_option maxRecDepth 100000
set_option maxHeartbeats 4000000
namespace M3
open PySem PySem.Spec PyProof.Rows L2

section
variable {X : Cx} {c : Fc} {P O Ol O' O1 O2 : List Nat} {W : WX} {m ma mb : M} {s s1 s2 : MSt} {n n1 n2 : Nat} {b b1 b2 : Bool} {e a t tg : Expr} {pos pos' p : Pos} {β : Bc} {F : List (List Addr)} {G : List Addr} {env : Sl} {σ : L2.St} {H : Hp} {Dn : Ends} {es : List Expr} {ms : Mi (List D)}

theorem ms_if {th el : List Stmt} {mc : M} (hc : MT X c.P O c.W b t mc) (h1 : MSs X c Ol O O' th s1) (h2 : MSs X c Ol O O' el s2) : MS X c Ol O O' (.If t th el pos) (sIf mc s1 s2) := by
  obtain ⟨tc, pc, hc⟩ := hc.run
  obtain ⟨t1, p1, h1⟩ := h1.run
  obtain ⟨t2, p2, h2⟩ := h2.run
  refine ⟨_, ps_if pc p1 p2, fun β F G env σ H Dn S z => hc β F G env σ H _ S (z.bind fun d e1 H1 S1 q => ?_)⟩
  cases d with
  | bl k =>
    refine ⟨k, rfl, ?_⟩
    cases k with
    | true => exact h1 β F G e1 σ H1 Dn S1 q
    | false => exact h2 β F G e1 σ H1 Dn S1 q
  | _ => exact q.elim

/-! ### the base raised -/
theorem RetOk.fall {K : Fg} {B : Hp} {d : D} {v : V} {fp : List Addr} {ev : Sl} (h : RetOk K c (β.up B) G ev d v H fp F) (hb : Ex β.B B) : RetOk K c β G ev d v H fp F := ⟨h.nd, hb.trn h.base, h.own, h.pf, h.io, h.rr⟩
theorem PstS.rise {B : Hp} {r : SRs} (h : PstS X c O' Ol β G Dn r) (hb : Ex β.B B) : PstS X c O' Ol (β.up B) G Dn r := by
  cases r with
  | nx e => exact fun σ H F S => h σ H F (S.fall hb)
  | bk e => exact fun σ H F S => h σ H F (S.fall hb)
  | ct e => exact fun σ H F S => h σ H F (S.fall hb)
  | rt d e => exact fun v H fp F R => h v H fp F (R.fall hb)
  | exc a x e => exact fun dx v σ H O2 F S => h dx v σ H O2 F (S.fall hb)
  | bad => exact h

/-! ### what is walked -/
structure ItOk (K : Fg) (B : Hp) (ds : List D) (J : It) : Prop where
  go : ∀ k H, k < ds.length → Ex B H → J.go k H
  stop : ∀ H, Ex B H → J.stop ds.length H
  yld : ∀ k H x H', Ex B H → J.yld k H x H' → ∀ d, ds[k]? = some d → ∀ Hs, Ex B Hs → Ex Hs H → Out K Hs H H' d x
structure MI (X : Cx) (P O : List Nat) (W : WX) (b : Bool) (tg it : Expr) (src : Mi (List D)) : Prop where
  run : ∃ w, PI X tg it w ∧ ∀ β F G env σ H R, Stt X.K P O β F G env σ H →
    Pst X P O W β F G σ H b env (fun ds H' => ∀ J, ItOk X.K (hid H' (msk F G)) ds J → R J H') (src env) → w σ H R
/-- a list or a tuple -/
def iSeq (K : PySem.W.Frag) (tl : TE) : TI := fun σ H R => tl σ H fun x H1 => ∃ a, x = .ref a ∧ (((∃ xs, SqL K H1 a xs) ∧ R (Itl K a) H1) ∨ ((∃ xs, SqT K H1 a xs) ∧ R (Itt K a) H1))
theorem pi_seq {l : Expr} {tl : TE} (hl : PE X l tl) : PI X tg l (iSeq X.K tl) := by
  constructor
  intro pins s0 σ H R I0 h
  refine thn (hl.run pins s0 σ H _ I0 h) fun u sh hh => ?_
  obtain ⟨y, H1, I1, ry, a, rfl, hh⟩ := hh
  cases ry
  have nf : ∀ z ∈ [sh.heap.objs.size], FpOk X pins H1 z := fun z hz => by
    have ez : z = sh.heap.objs.size := by simpa using hz
    subst ez
    exact I1.fpOk (Nat.le_refl _) (I1.hok.fresh (Nat.le_refl _))
  have kp : ∀ (o : Obj) z u, sh.heap.get? z = some u → (sh.heap.push o).get? z = some u := fun o z u ez => Heap.get?_push_of_some _ ez
  rcases hh with ⟨⟨xs, hx⟩, q⟩ | ⟨⟨xs, hx⟩, q⟩
  · obtain ⟨_, _, pl, _⟩ := I1.list hx
    exact wpAny_pyIter_list pl.isList ⟨_, [sh.heap.objs.size], _, _, H1, rfl, I1.kept (t' := sh.toks) (kp _), turn_list a _, ⟨_, Heap.get?_push_size _ rfl, rfl, rfl⟩, nf, q⟩
  · obtain ⟨is, _, pl, _⟩ := I1.tuple hx
    exact wpAny_pyIter_tuple (show sh.heap.IsTuple a is.toArray from pl) ⟨_, [sh.heap.objs.size], _, _, H1, rfl, I1.kept (t' := sh.toks) (kp _), turn_tuple a _, ⟨_, Heap.get?_push_size _ rfl, rfl, rfl⟩, nf, q⟩
def iSrc (m : M) : Mi (List D) := fun e => (m e).bind fun d e1 => match d with | .lst l => .ok l e1 | .tup l => .ok l e1 | _ => .bad
theorem seq_get {K : Fg} {B Hs H : Hp} {ds : List D} {xs : List V} {k : Nat} {d : D} {x : V} (r : Rps K B ds xs) (e : Ex B Hs) (hd : ds[k]? = some d) (hx : xs[k]? = some x) : Out K Hs H H d x := by
  obtain ⟨y, h1, h2⟩ := r.get hd
  rw [hx] at h1
  cases h1
  exact .inl ⟨rfl, Rp.ex e d h2⟩
theorem itok_list {K : Fg} {B : Hp} {ds : List D} {xs : List V} {a : Addr} (h : B a = some (.lst xs)) (r : Rps K B ds xs) : ItOk K B ds (Itl K a) := by
  refine ⟨fun k H hk e => ?_, fun H e => ⟨xs, SqL.of (e _ _ h), by rw [r.len]; exact Nat.le_refl _⟩, fun k H x H' e y d hd Hs eb es => ?_⟩
  · have hk' : k < xs.length := by rw [r.len]; exact hk
    exact ⟨xs, xs[k], SqL.of (e _ _ h), List.getElem?_eq_getElem hk'⟩
  · obtain ⟨rfl, y⟩ := y
    exact seq_get r eb hd (y xs (SqL.of (e _ _ h)))
theorem itok_tup {K : Fg} {B : Hp} {ds : List D} {xs : List V} {a : Addr} (h : TpL K B a xs) (r : Rps K B ds xs) : ItOk K B ds (Itt K a) := by
  refine ⟨fun k H hk e => ?_, fun H e => ⟨xs, (ex_p e h).t, by rw [r.len]; exact Nat.le_refl _⟩, fun k H x H' e y d hd Hs eb es => ?_⟩
  · have hk' : k < xs.length := by rw [r.len]; exact hk
    exact ⟨xs, xs[k], (ex_p e h).t, List.getElem?_eq_getElem hk'⟩
  · obtain ⟨rfl, y⟩ := y
    exact seq_get r eb hd (y xs (ex_p e h).t)
theorem mi_seq (ha : ME X P O W 0 b a ma) : MI X P O W b tg a (iSrc ma) := by
  obtain ⟨ta, pa, ha⟩ := ha.run
  refine ⟨_, pi_seq pa, fun β F G env σ H R S z => ha β F G env σ H _ S (z.bindL fun d e1 H1 S1 x1 p1 q v r => ?_)⟩
  cases d with
  | lst l =>
    obtain ⟨a, xs, rfl, h1, h2⟩ := (r : Rp _ _ (.lst l) v)
    exact ⟨a, rfl, .inl ⟨⟨xs, SqL.of (hid_le _ _ h1)⟩, q.here S1 _ (itok_list h1 h2)⟩⟩
  | tup l =>
    obtain ⟨a, xs, rfl, h1, h2⟩ := (r : Rp _ _ (.tup l) v)
    exact ⟨a, rfl, .inr ⟨⟨xs, (ex_p hid_le h1).t⟩, q.here S1 _ (itok_tup h1 h2)⟩⟩
  | _ => exact q.elim
/-- range -/
def rngD (lo : Int) (n : Nat) : List D := (List.range n).map fun (k : Nat) => D.int (lo + (k : Int))
theorem itok_rng {K : Fg} {B : Hp} (lo : Int) (n : Nat) : ItOk K B (rngD lo n) (Itr lo n) := by
  have hl : (rngD lo n).length = n := by simp [rngD]
  refine ⟨fun k H hk e => by rw [hl] at hk; exact hk, fun H e => by rw [hl]; exact Nat.le_refl _, fun k H x H' e y d hd Hs eb es => ?_⟩
  obtain ⟨rfl, rfl⟩ := y
  have : d = .int (lo + k) := by
    have hk : k < n := by rw [← hl]; exact (List.getElem?_eq_some_iff.mp hd).1
    unfold rngD at hd
    rw [List.getElem?_map, List.getElem?_range hk] at hd
    cases hd; rfl
  subst this
  exact .flat rfl
def rOk (i : Int) : Prop := -1000000000 ≤ i ∧ i ≤ 1000000000
instance (i : Int) : Decidable (rOk i) := by unfold rOk; infer_instance
def iR1 (ms : Mi (List D)) : Mi (List D) := fun e => (ms e).bind fun ds e1 => match ds with | [.int j] => if rOk j then .ok (rngD 0 j.toNat) e1 else .bad | _ => .bad
def iR2 (ms : Mi (List D)) : Mi (List D) := fun e => (ms e).bind fun ds e1 => match ds with | [.int i, .int j] => if rOk i ∧ rOk j then .ok (rngD i (j - i).toNat) e1 else .bad | _ => .bad
theorem mi_r1 (ha : MA X P O W b [a] ms) (hm : X.mg "range" = none) (hg : Gl X "range" := by rfl) (hs : starEach [a] X.env = [(false, eval a X.env)] := by rfl) : MI X P O W b tg (.Call (.Name "range" p) [a] [] pos) (iR1 ms) := by
  obtain ⟨ta, pa, ha⟩ := ha.run
  refine ⟨_, pi_range1 hg hm pa hs, fun β F G env σ H R S z => ha β F G env σ H _ S (z.bindL fun ds e1 H1 S1 x1 p1 q vs r => ?_)⟩
  split at q
  · rename_i j
    split at q
    · rename_i hj
      obtain ⟨v, rfl, rv⟩ := Rps.sgl r
      obtain rfl := (rv : v = _)
      unfold rOk at hj
      exact ⟨j, rfl, by omega, by omega, q.here S1 _ (itok_rng 0 _)⟩
    · exact q.elim
  · exact q.elim
theorem mi_r2 {a2 : Expr} (ha : MA X P O W b [a, a2] ms) (hm : X.mg "range" = none) (hg : Gl X "range" := by rfl) (hs : starEach [a, a2] X.env = [(false, eval a X.env), (false, eval a2 X.env)] := by rfl) (hs2 : starEach [a2] X.env = [(false, eval a2 X.env)] := by rfl) : MI X P O W b tg (.Call (.Name "range" p) [a, a2] [] pos) (iR2 ms) := by
  obtain ⟨ta, pa, ha⟩ := ha.run
  refine ⟨_, pi_range2 hg hm pa hs hs2, fun β F G env σ H R S z => ha β F G env σ H _ S (z.bindL fun ds e1 H1 S1 x1 p1 q vs r => ?_)⟩
  split at q
  · rename_i i j
    split at q
    · rename_i hj
      obtain ⟨v, w, rfl, rv, rw'⟩ := Rps.two r
      obtain rfl := (rv : v = _)
      obtain rfl := (rw' : w = _)
      unfold rOk at hj
      exact ⟨i, j, rfl, by omega, q.here S1 _ (itok_rng i _)⟩
    · exact q.elim
  · exact q.elim
/-- enumerate -/
def enumD : Nat → List D → List D
  | _, [] => []
  | k, d :: l => .tup [.int (k : Int), d] :: enumD (k + 1) l
theorem enumD_len : ∀ (l : List D) (k : Nat), (enumD k l).length = l.length
  | [], _ => rfl
  | _ :: l, k => by
    show (enumD (k + 1) l).length + 1 = l.length + 1
    rw [enumD_len l]
theorem enumD_get : ∀ (l : List D) (k j : Nat) {d : D}, (enumD k l)[j]? = some d → ∃ x, l[j]? = some x ∧ d = .tup [.int ((k + j : Nat) : Int), x]
  | [], _, _, _, h => by simp [enumD] at h
  | x :: l, k, 0, d, h => by
    simp [enumD] at h
    exact ⟨x, rfl, h.symm⟩
  | x :: l, k, j + 1, d, h => by
    have h : (enumD (k + 1) l)[j]? = some d := by simpa [enumD] using h
    obtain ⟨y, h1, h2⟩ := enumD_get l (k + 1) j h
    refine ⟨y, by simpa using h1, ?_⟩
    rw [h2, show k + 1 + j = k + (j + 1) by omega]
theorem itok_enum {K : Fg} {B : Hp} {ds : List D} {xs : List V} {a : Addr} (h : B a = some (.lst xs)) (r : Rps K B ds xs) : ItOk K B (enumD 0 ds) (Ite K a) := by
  refine ⟨fun k H hk e => ?_, fun H e => ⟨xs, SqL.of (e _ _ h), by rw [r.len, enumD_len]; exact Nat.le_refl _⟩, fun k H x H' e y d hd Hs eb es => ?_⟩
  · have hk' : k < xs.length := by rw [r.len]; rw [enumD_len] at hk; exact hk
    exact ⟨xs, xs[k], SqL.of (e _ _ h), List.getElem?_eq_getElem hk'⟩
  · obtain ⟨T, x1, rfl, nT, rfl, f⟩ := y
    obtain ⟨d1, h1, rfl⟩ := enumD_get ds 0 k hd
    obtain ⟨y1, h2, h3⟩ := r.get h1
    rw [f xs (SqL.of (e _ _ h))] at h2
    cases h2
    refine .inr ⟨T, nT, rfl, .inr ⟨_, _, rfl, rfl, _, _, rfl, ?_, _, _, rfl, Rp.ex eb d1 h3, rfl⟩⟩
    show V.int (k : Nat) = V.int ((0 + k : Nat) : Int)
    rw [Nat.zero_add]
def iEn (ms : Mi (List D)) : Mi (List D) := fun e => (ms e).bind fun ds e1 => match ds with | [.lst l] => .ok (enumD 0 l) e1 | _ => .bad
theorem mi_enum {elts : List Expr} {kk : Nat} {tpos : Pos} (ha : MA X P O W b [a] ms) (hm : X.mg "enumerate" = none) (hg : Gl X "enumerate" := by rfl) (hs : starEach [a] X.env = [(false, eval a X.env)] := by rfl) : MI X P O W b (.Tuple elts kk tpos) (.Call (.Name "enumerate" p) [a] [] pos) (iEn ms) := by
  obtain ⟨ta, pa, ha⟩ := ha.run
  refine ⟨_, pi_enum hg hm pa hs, fun β F G env σ H R S z => ha β F G env σ H _ S (z.bindL fun ds e1 H1 S1 x1 p1 q vs r => ?_)⟩
  split at q
  · rename_i l
    obtain ⟨v, rfl, rv⟩ := Rps.sgl r
    obtain ⟨a, xs, rfl, h1, h2⟩ := rv
    exact ⟨a, xs, rfl, SqL.of (hid_le _ _ h1), q.here S1 _ (itok_enum h1 h2)⟩
  · exact q.elim

/-! ### targets -/
/-- is: the slots that it stores to -/
structure MG (X : Cx) (P O : List Nat) (is : List Nat) (tg : Expr) (g : TG) (f : D → Sl → Option Sl) : Prop where
  pg : PG X tg g
  run : ∀ β F G env env' σ H d v Q, Stt X.K P O β F G env σ H → Rp X.K (hid H (msk F G)) d v → f d env = some env' → (∀ σ', Stt X.K P O β F G env' σ' H → (∀ vs, (∀ i ∈ is, i ∈ vs) → wipe σ' vs = wipe σ vs) → Q σ' H) → g v σ H Q
def gN (i : Nat) : D → Sl → Option Sl := fun d e => some (e.set i (some d))
theorem wipe_set {i : Nat} {w : Option V} : ∀ {vs : List Nat}, i ∈ vs → wipe (σ.set i w) vs = wipe σ vs
  | v :: vs, h => by
    show (wipe (σ.set i w) vs).set v none = (wipe σ vs).set v none
    by_cases hv : i ∈ vs
    · rw [wipe_set hv]
    · have e : v = i := by
        rcases List.mem_cons.mp h with h | h
        · exact h.symm
        · exact absurd h hv
      subst e
      clear h
      refine List.ext_getElem? fun j => ?_
      by_cases hj : v = j
      · subst hj
        by_cases hl : v < σ.length
        · rw [List.getElem?_set_self (by rw [wipe_length, List.length_set]; exact hl), List.getElem?_set_self (by rw [wipe_length]; exact hl)]
        · rw [List.getElem?_eq_none (by rw [List.length_set, wipe_length, List.length_set]; omega), List.getElem?_eq_none (by rw [List.length_set, wipe_length]; omega)]
      · rw [List.getElem?_set_ne hj, List.getElem?_set_ne hj]
        clear hv
        induction vs generalizing j with
        | nil => exact List.getElem?_set_ne hj
        | cons u vs ih =>
          show ((wipe (σ.set v w) vs).set u none)[j]? = ((wipe σ vs).set u none)[j]?
          by_cases hu : u = j
          · subst hu
            by_cases hl : u < σ.length
            · rw [List.getElem?_set_self (by rw [wipe_length, List.length_set]; exact hl), List.getElem?_set_self (by rw [wipe_length]; exact hl)]
            · rw [List.getElem?_eq_none (by rw [List.length_set, wipe_length, List.length_set]; omega), List.getElem?_eq_none (by rw [List.length_set, wipe_length]; omega)]
          · rw [List.getElem?_set_ne hu, List.getElem?_set_ne hu]
            exact ih j hj
def okT (P O : List Nat) (i : Nat) : Bool := decide (i < O.length) && (!P.contains i && (O.getD i 0 == 0))
theorem okT_of {i : Nat} (h : okT P O i = true) : i < O.length ∧ i ∉ P ∧ O.getD i 0 = 0 := by
  unfold okT at h
  rw [Bool.and_eq_true, Bool.and_eq_true] at h
  exact ⟨of_decide_eq_true h.1, by simpa using h.2.1, by simpa using h.2.2⟩
theorem mg_name (i : Nat) {x : Str} (hN : X.N.Nodup) (hi : okT P O i = true := by rfl) (hx : X.N[i]? = some x := by rfl) (hl : Loc X.env.scope x := by first | exact Or.inl rfl | exact Or.inr rfl) (hf : X.fn x = true ∨ X.env.scope.names.lookup x = some .local := by first | exact .inl rfl | exact .inr rfl) :
    MG X P O [i] (.Name x pos) (gName i) (gN i) := by
  obtain ⟨h1, h2, h3⟩ := okT_of hi
  refine ⟨pg_name hN hx hl hf, fun β F G env env' σ H d v Q S r h q => ?_⟩
  cases h
  exact q _ (S.stz (by rw [← S.olen]; exact h1) h2 h3 r) fun vs hv => wipe_set (hv i List.mem_cons_self)
/-- a tuple of targets -/
structure MGs (X : Cx) (P O : List Nat) (is : List Nat) (ts : List Expr) (g : TGs) (f : List D → Sl → Option Sl) : Prop where
  pg : PGs X ts g
  run : ∀ β F G env env' σ H ds vs Q, Stt X.K P O β F G env σ H → Rps X.K (hid H (msk F G)) ds vs → f ds env = some env' → (∀ σ', Stt X.K P O β F G env' σ' H → (∀ vs, (∀ i ∈ is, i ∈ vs) → wipe σ' vs = wipe σ vs) → Q σ' H) → g vs σ H Q
def gsNil : List D → Sl → Option Sl := fun ds e => match ds with | [] => some e | _ => none
def gsCons (f : D → Sl → Option Sl) (r : List D → Sl → Option Sl) : List D → Sl → Option Sl := fun ds e => match ds with | d :: l => (f d e).bind fun e1 => r l e1 | [] => none
def gT (n : Nat) (f : List D → Sl → Option Sl) : D → Sl → Option Sl := fun d e => match d with | .tup l => if l.length = n then f l e else none | _ => none
theorem mgs_nil : MGs X P O [] [] gNil gsNil := by
  refine ⟨pgs_nil, fun β F G env env' σ H ds vs Q S r h q => ?_⟩
  cases ds with
  | nil =>
    cases h
    exact ⟨r, q σ S fun _ _ => rfl⟩
  | cons d l => cases h
theorem mgs_cons {is js : List Nat} {t : Expr} {ts : List Expr} {g : TG} {gr : TGs} {f : D → Sl → Option Sl} {fr : List D → Sl → Option Sl} (h1 : MG X P O is t g f) (h2 : MGs X P O js ts gr fr) (hs : (assignEach (t :: ts) X.env).map (·.2) = assign t X.env :: (assignEach ts X.env).map (·.2) := by rfl) : MGs X P O (is ++ js) (t :: ts) (gCons g gr) (gsCons f fr) := by
  refine ⟨pgs_cons h1.pg h2.pg hs, fun β F G env env' σ H ds vs Q S r h q => ?_⟩
  cases ds with
  | nil => cases h
  | cons d l =>
    obtain ⟨v, rest, rfl, r1, r2⟩ := r
    have h : (f d env).bind (fun e1 => fr l e1) = some env' := h
    cases hf : f d env with
    | none => rw [hf] at h; cases h
    | some e1 =>
      rw [hf] at h
      refine ⟨v, rest, rfl, h1.run β F G env e1 σ H d v _ S r1 hf fun σ1 S1 w1 => ?_⟩
      exact h2.run β F G e1 env' σ1 H l rest _ S1 r2 h fun σ2 S2 w2 => q σ2 S2 fun vs hv => (w2 vs fun i hi => hv i (List.mem_append_right _ hi)).trans (w1 vs fun i hi => hv i (List.mem_append_left _ hi))
theorem mg_tup {is : List Nat} {ts : List Expr} {k : Nat} {g : TGs} {f : List D → Sl → Option Sl} {n : Nat} (hc : X.calm = true) (h : MGs X P O is ts g f) (hn : (assignEach ts X.env).length = n := by rfl) (hst : (assignEach ts X.env).findIdx? (·.1) = none := by rfl) : MG X P O is (.Tuple ts k pos) (gTup X.K n g) (gT n f) := by
  refine ⟨pg_tup hc h.pg hn hst, fun β F G env env' σ H d v Q S r hf q => ?_⟩
  cases d with
  | tup l =>
    obtain ⟨a, xs, rfl, h1, h2⟩ := r
    unfold gT at hf
    dsimp only at hf
    split at hf
    · rename_i hn
      exact ⟨a, xs, rfl, (ex_p hid_le h1).t, by rw [h2.len]; exact hn, h.run β F G env env' σ H l xs Q S h2 hf q⟩
    · cases hf
  | _ => cases hf

/-! ### a tuple taken apart -/
def sTgt (f : D → Sl → Option Sl) (m : M) : MSt := fun e => (m e).toS fun d e1 => match f d e1 with | some e2 => .nx e2 | none => .bad
theorem ms_tgt {is : List Nat} {g : TG} {f : D → Sl → Option Sl} (hg : MG X c.P O is tg g f) (ha : ME X c.P O c.W 0 b e m) (hs : swapsWithSole [tg] e pos.line X.env = pure false := by rfl) (hw : swappedStores [tg] e X.env = pure none := by rfl)
    (h1 : (assignEach [tg] X.env).map (·.2) = [assign tg X.env] := by rfl) : MS X c Ol O O (.Assign [tg] e pos) (sTgt f m) := by
  obtain ⟨t, p, h⟩ := ha.run
  refine ⟨_, ps_asg p hg.pg hs hw h1, fun β F G env σ H Dn S z => h β F G env σ H _ S (z.bind fun d e1 H1 S1 q v r => ?_)⟩
  cases hf : f d e1 with
  | none => rw [hf] at q; exact q.elim
  | some e2 =>
    rw [hf] at q
    exact hg.run β F G e1 e2 σ H1 d v _ S1 r hf fun σ' S' _ => q σ' H1 F S'
/-- a, b = e1, e2 with plain local names -/
def sPar (i j : Nat) (ms : Mi (List D)) : MSt := fun e => (ms e).toS fun ds e1 => match ds with | [d1, d2] => .nx ((e1.set i (some d1)).set j (some d2)) | _ => .bad
theorem ms_par (i j : Nat) {x y : Str} {px py pt : Pos} {kt k2 pt2} (hc : X.calm = true) (hN : X.N.Nodup) (ha : MA X c.P O c.W b [e, a] ms) (hi : okT c.P O i = true := by rfl) (hj : okT c.P O j = true := by rfl) (hij : i ≠ j := by decide) (hx : X.N[i]? = some x := by rfl) (hy : X.N[j]? = some y := by rfl)
    (hxl : X.env.scope.names.lookup x = some .local := by rfl) (hyl : X.env.scope.names.lookup y = some .local := by rfl)
    (hw : swappedStores [.Tuple [.Name x px, .Name y py] kt pt] (.Tuple [e, a] k2 pt2) X.env = pure (some [x, y]) := by rfl)
    (hs : swapsWithSole [.Tuple [.Name x px, .Name y py] kt pt] (.Tuple [e, a] k2 pt2) pos.line X.env = pure false := by rfl) : MS X c Ol O O (.Assign [.Tuple [.Name x px, .Name y py] kt pt] (.Tuple [e, a] k2 pt2) pos) (sPar i j ms) := by
  obtain ⟨t, p, h⟩ := ha.run
  obtain ⟨a1, a2, a3⟩ := okT_of hi
  obtain ⟨c1, c2, c3⟩ := okT_of hj
  refine ⟨_, ps_par hc hN hx hy hij hxl hyl p hw hs, fun β F G env σ H Dn S z => h β F G env σ H _ S (z.bind fun ds e1 H1 S1 q vs r => ?_)⟩
  split at q
  · obtain ⟨v, w, rfl, rv, rw'⟩ := Rps.two r
    refine ⟨v, w, rfl, ?_⟩
    have S2 := S1.stz (by rw [← S1.olen]; exact a1) a2 a3 rv
    exact q _ H1 F (S2.stz (by rw [← S2.olen]; exact c1) c2 c3 rw')
  · exact q.elim

/-! ### for -/
def forL (f : D → Sl → Option Sl) (s : MSt) : List D → MSt
  | [] => fun e => .nx e
  | d :: l => fun e => match f d e with
    | none => .bad
    | some e1 => match s e1 with
      | .nx e2 => forL f s l e2
      | .ct e2 => forL f s l e2
      | .bk e2 => .nx e2
      | r => r
def sFor (f : D → Sl → Option Sl) (src : Mi (List D)) (s : MSt) : MSt := fun e => (src e).toS fun ds e1 => forL f s ds e1
theorem ms_for {is : List Nat} {it : Expr} {body : List Stmt} {g : TG} {f : D → Sl → Option Sl} {src : Mi (List D)} (hp : PassesOwn (model X.prog X.w) X.A X.env X.xe) (hc : X.calm = true) (hi : MI X c.P O c.W b tg it src) (hg : MG X c.P O is tg g f) (hb : MSs X c O O O body s)
    (hs : ∀ x, foldedSetIterable it X.env x = pure x := by intro _; rfl) : MS X c Ol O O (.For tg it body [] pos) (sFor f src s) := by
  obtain ⟨w, pw, hw⟩ := hi.run
  obtain ⟨t, pt, ht⟩ := hb.run
  refine ⟨_, ps_for hp hc pw hg.pg pt hs, fun β F G env σ H Dn S z => hw β F G env σ H _ S (z.bind fun ds e1 H1 S1 q J ok => ?_)⟩
  let B := hid H1 (msk F G)
  have hB : Ex β.B B := S1.base
  have q' := q.rise (B := B) hB
  refine ⟨fun i m σ' H' => ∃ F' e', m = ds.length - i ∧ i ≤ ds.length ∧ Stt X.K c.P O (β.up B) F' G e' σ' H' ∧ PstS X c O Ol (β.up B) G Dn (forL f s (ds.drop i) e'), ⟨ds.length, F, e1, by simp, Nat.zero_le _, S1.rise, by simpa using q'⟩, ?_⟩
  rintro i m σ2 H2 ⟨F2, e2, rfl, hi2, S2, z2⟩
  have eB : Ex B H2 := S2.base.trn hid_le
  by_cases hlt : i < ds.length
  · have hd : ds.drop i = ds[i] :: ds.drop (i + 1) := List.drop_eq_getElem_cons hlt
    rw [hd] at z2
    have z2 : PstS X c O Ol (β.up B) G Dn (match f ds[i] e2 with
      | none => .bad
      | some e1 => match s e1 with
        | .nx e2 => forL f s (ds.drop (i + 1)) e2
        | .ct e2 => forL f s (ds.drop (i + 1)) e2
        | .bk e2 => .nx e2
        | r => r) := z2
    cases hf : f ds[i] e2 with
    | none => rw [hf] at z2; exact z2.elim
    | some e3 =>
      rw [hf] at z2
      have z2 : PstS X c O Ol (β.up B) G Dn (match s e3 with
        | .nx e2 => forL f s (ds.drop (i + 1)) e2
        | .ct e2 => forL f s (ds.drop (i + 1)) e2
        | .bk e2 => .nx e2
        | r => r) := z2
      refine .inr ⟨ok.go i H2 hlt eB, fun σ' H' => ∃ F' e', Stt X.K c.P O (β.up B) F' G e' σ' H' ∧ PstS X c O Ol (β.up B) G Dn (forL f s (ds.drop (i + 1)) e'), fun σ' H' ⟨F', e', S', z'⟩ => ⟨ds.length - (i + 1), by omega, F', e', rfl, hlt, S', z'⟩, fun x H3 y => ?_⟩
      have o := ok.yld i H2 x H3 eB y ds[i] (List.getElem?_eq_getElem hlt) (hid H2 (msk F2 G)) S2.base hid_le
      have S3 := S2.ext o.ex
      refine hg.run (β.up B) F2 G e2 e3 σ2 H3 _ x _ S3 (o.rp S2) hf fun σ4 S4 _ => ht (β.up B) F2 G e3 σ4 H3 _ S4 ?_
      cases hr : s e3 with
      | nx e4 => rw [hr] at z2; exact fun σ5 H5 F5 S5 => ⟨F5, e4, S5, z2⟩
      | ct e4 => rw [hr] at z2; exact fun σ5 H5 F5 S5 => ⟨F5, e4, S5, z2⟩
      | bk e4 => rw [hr] at z2; exact z2
      | rt d e4 => rw [hr] at z2; exact z2
      | exc a x e4 => rw [hr] at z2; exact z2
      | bad => rw [hr] at z2; exact z2
  · have e : i = ds.length := by omega
    subst e
    rw [List.drop_length] at z2
    exact .inl ⟨ok.stop H2 eB, z2 σ2 H2 F2 S2⟩

/-! ### while -/
def whlN (mc : M) (s : MSt) : Nat → MSt
  | 0 => fun _ => .bad
  | n + 1 => fun e => (mc e).toS fun d e1 => match d with
    | .bl false => .nx e1
    | .bl true => (match s e1 with
      | .nx e2 => whlN mc s n e2
      | .ct e2 => whlN mc s n e2
      | .bk e2 => .nx e2
      | r => r)
    | _ => .bad
/-- the turns that a while is followed for -/
def fuel : Nat := 10 ^ 40
def sWhl (mc : M) (s : MSt) : MSt := fun e => whlN mc s fuel e
theorem ms_while {body : List Stmt} {mc : M} (hp : PassesOwn (model X.prog X.w) X.A X.env X.xe) (hc : MT X c.P O c.W b t mc) (hb : MSs X c O O O body s) : MS X c Ol O O (.While t body [] pos) (sWhl mc s) := by
  obtain ⟨tc, pc, hc⟩ := hc.run
  obtain ⟨tb, pb, hb⟩ := hb.run
  refine ⟨_, ps_while hp pc pb, fun β F G env σ H Dn S z => ?_⟩
  refine ⟨fun m σ' H' => ∃ F' e', Stt X.K c.P O β F' G e' σ' H' ∧ PstS X c O Ol β G Dn (whlN mc s m e'), ⟨fuel, F, env, S, z⟩, ?_⟩
  rintro m σ2 H2 ⟨F2, e2, S2, z2⟩
  cases m with
  | zero => exact z2.elim
  | succ m =>
    refine hc β F2 G e2 σ2 H2 _ S2 (PstS.bind z2 fun d e3 H3 S3 q => ?_)
    cases d with
    | bl k =>
      refine ⟨k, rfl, ?_⟩
      cases k with
      | false => exact q σ2 H3 F2 S3
      | true =>
        refine ⟨fun σ' H' => ∃ F' e', Stt X.K c.P O β F' G e' σ' H' ∧ PstS X c O Ol β G Dn (whlN mc s m e'), fun σ' H' h => ⟨m, Nat.lt_succ_self m, h⟩, hb β F2 G e3 σ2 H3 _ S3 ?_⟩
        have q : PstS X c O Ol β G Dn (match s e3 with
          | .nx e2 => whlN mc s m e2
          | .ct e2 => whlN mc s m e2
          | .bk e2 => .nx e2
          | r => r) := q
        cases hr : s e3 with
        | nx e4 => rw [hr] at q; exact fun σ5 H5 F5 S5 => ⟨F5, e4, S5, q⟩
        | ct e4 => rw [hr] at q; exact fun σ5 H5 F5 S5 => ⟨F5, e4, S5, q⟩
        | bk e4 => rw [hr] at q; exact q
        | rt d e4 => rw [hr] at q; exact q
        | exc a x e4 => rw [hr] at q; exact q
        | bad => rw [hr] at q; exact q
    | _ => exact q.elim
end
end M3

/-! MC -/
set_option Elab.async false
set_option linter.all false
set_option maxRecDepth 100000
set_option maxHeartbeats 4000000
namespace M3
open PySem PySem.Spec PyProof.Rows L2

/-! ### comprehensions -/
def Rs.nox {α : Type} : Rs α → Rs α
  | .exc _ _ _ => .bad
  | r => r
def wpE (e : Sl) : List Nat → Sl
  | [] => e
  | v :: vs => (wpE e vs).set v none
def rstE (e1 e2 : Sl) : List Nat → Sl
  | [] => e2
  | v :: vs => (rstE e1 e2 vs).set v (e1.getD v none)
def mYes : M := fun e => .ok (.bl true) e
def lcL (own : List Nat) (f : D → Sl → Option Sl) (tst el : M) : List D → Mi (List D)
  | [] => fun e => .ok [] e
  | d :: ds => fun e => match f d e with
    | none => .bad
    | some e1 => (tst e1).nox.bind fun c e2 => match c with
      | .bl true => (el e2).nox.bind fun y e3 => (lcL own f tst el ds (wpE e3 own)).bind fun l e4 => .ok (y :: l) e4
      | .bl false => lcL own f tst el ds (wpE e2 own)
      | _ => .bad
def mLc (own : List Nat) (f : D → Sl → Option Sl) (tst el : M) (src : Mi (List D)) : M := fun e => (src e).bind fun ds e1 => (lcL own f tst el ds (wpE e1 own)).bind fun l e2 =>
  if l.length ≤ lim then .ok (.lst l) (rstE e1 e2 own) else .bad

section
variable {K : Fg} {P O : List Nat} {β : Bc} {F : List (List Addr)} {G G' : List Addr} {env e1 e2 : Sl} {σ : L2.St} {H H1 H2 : Hp} {own : List Nat}
theorem wpE_len : ∀ vs : List Nat, (wpE env vs).length = env.length
  | [] => rfl
  | v :: vs => by
    show ((wpE env vs).set v none).length = env.length
    rw [List.length_set, wpE_len vs]
theorem rstE_len : ∀ vs : List Nat, (rstE e1 e2 vs).length = e2.length
  | [] => rfl
  | v :: vs => by
    show ((rstE e1 e2 vs).set v _).length = e2.length
    rw [List.length_set, rstE_len vs]
theorem rstE_get : ∀ (vs : List Nat) (j : Nat) (d : D), (rstE e1 e2 vs)[j]? = some (some d) → (j ∈ vs ∧ e1[j]? = some (some d)) ∨ (j ∉ vs ∧ e2[j]? = some (some d))
  | [], j, d, h => .inr ⟨by simp, h⟩
  | v :: vs, j, d, h => by
    have h : ((rstE e1 e2 vs).set v (e1.getD v none))[j]? = some (some d) := h
    by_cases hj : v = j
    · subst hj
      refine .inl ⟨List.mem_cons_self, ?_⟩
      by_cases hl : v < (rstE e1 e2 vs).length
      · rw [List.getElem?_set_self hl] at h
        have h : e1.getD v none = some d := Option.some.inj h
        rw [List.getD_eq_getElem?_getD] at h
        cases q : e1[v]? with
        | none => rw [q] at h; cases h
        | some o => rw [q] at h; exact congrArg some h
      · rw [List.getElem?_eq_none (by rw [List.length_set]; omega)] at h; cases h
    · rw [List.getElem?_set_ne hj] at h
      rcases rstE_get vs j d h with ⟨h1, h2⟩ | ⟨h1, h2⟩
      · exact .inl ⟨List.mem_cons_of_mem _ h1, h2⟩
      · exact .inr ⟨fun z => by rcases List.mem_cons.mp z with z | z; exact hj z.symm; exact h1 z, h2⟩
theorem wipe_get : ∀ (vs : List Nat) (j : Nat), j ∉ vs → (wipe σ vs)[j]? = σ[j]?
  | [], _, _ => rfl
  | v :: vs, j, h => by
    show ((wipe σ vs).set v none)[j]? = _
    rw [List.getElem?_set_ne (fun z => h (by rw [z]; exact List.mem_cons_self)), wipe_get vs j fun z => h (List.mem_cons_of_mem _ z)]
theorem Stt.wipe : ∀ (vs : List Nat), (∀ i ∈ vs, i ∉ P) → Stt K P O β F G env σ H → Stt K P O β F G (wpE env vs) (L2.wipe σ vs) H
  | [], _, S => S
  | v :: vs, h, S => (Stt.wipe vs (fun i m => h i (List.mem_cons_of_mem _ m)) S).wipe1 (h v List.mem_cons_self)
theorem Stt.wipeE : ∀ (vs : List Nat), (∀ i ∈ vs, i ∉ P) → L2.wipe σ vs = L2.wipe σ own → ∀ {σ' : L2.St}, σ' = L2.wipe σ vs → Stt K P O β F G env σ H → Stt K P O β F G (wpE env vs) σ' H := fun vs h _ σ' e S => by
  subst e
  exact S.wipe vs h
/-- the outer names back -/
theorem Stt.rst (S1 : Stt K P O β F G e1 σ H1) (S2 : Stt K P O β F G' e2 (L2.wipe σ own) H2) (x : Ex (hid H1 (msk F G)) (hid H2 (msk F G'))) (hO : ∀ i ∈ own, O.getD i 0 = 0) (hP : ∀ i ∈ own, i ∉ P) : Stt K P O β F G' (rstE e1 e2 own) σ H2 := by
  refine ⟨by rw [rstE_len, ← S2.len, wipe_length], by rw [rstE_len]; exact S2.olen, by rw [rstE_len]; exact S2.flen, S2.nd, S2.pres, S2.base, fun j d h => ?_, fun j hj => ?_, S2.z, S2.rr⟩
  · rcases rstE_get own j d h with ⟨h1, h2⟩ | ⟨h1, h2⟩
    · obtain ⟨v, q1, q2⟩ := S1.slot j d h2
      refine ⟨v, q1, ?_⟩
      rw [hO j h1] at q2 ⊢
      exact ⟨q2.1, Rp.ex x d q2.2⟩
    · obtain ⟨v, q1, q2⟩ := S2.slot j d h2
      rw [wipe_get own j h1] at q1
      exact ⟨v, q1, q2⟩
  · have h := S2.pin j hj
    rw [wipe_get own j fun z => hP j z hj] at h
    exact h
theorem Stt.perm (S : Stt K P O β F G env σ H) (h : G.Perm G') : Stt K P O β F G' env σ H := by
  have e : hid H (msk F G) = hid H (msk F G') := hid_same fun a => by
    simp only [msk, List.mem_append, h.mem_iff]
  refine ⟨S.len, S.olen, S.flen, ((h.append_left F.flatten).nodup_iff).mp S.nd, fun a m => S.pres a (by simp only [msk, List.mem_append, h.mem_iff] at m ⊢; exact m), by rw [← e]; exact S.base, fun j d q => by rw [← e]; exact S.slot j d q, S.pin, S.z, fun a m => ⟨h.mem_iff.mp (S.rr a m).1, (S.rr a m).2⟩⟩
theorem hid_perm (h : G.Perm G') : hid H (msk F G) = hid H (msk F G') := hid_same fun a => by
  simp only [msk, List.mem_append, h.mem_iff]
theorem All3.snoc {Pr : D → V → List Addr → Prop} {l : List D} {xs : List V} {fs : List (List Addr)} (h : All3 Pr l xs fs) {d : D} {x : V} {f : List Addr} (k : Pr d x f) : All3 Pr (l ++ [d]) (xs ++ [x]) (fs ++ [f]) := h.app (m := [d]) (ys := [x]) (gs := [f]) ⟨k, trivial⟩
end

abbrev XB (X : Cx) (scope : Scope) (s : Shared) (H : Hp) (C : Addr) (cl : List (Str × Addr)) (fp : List Addr) : Cx := X.blk s H scope (compEnvC scope cl C X.env) fp
abbrev W0 : WX := fun _ _ _ _ => False
def cT (K : Fg) (P O : List Nat) (b : Bool) (m : M) (X : Cx) : TT := fun σ H Q => ∃ β F G env, Stt K P O β F G env σ H ∧ Pst X P O W0 β F G σ H b env (fun d H' => ∃ c, d = .bl c ∧ Q c H') (m env)
def cE (K : Fg) (P O : List Nat) (n : Nat) (b : Bool) (m : M) (X : Cx) : TE := fun σ H Q => ∃ β F G env, Stt K P O β F G env σ H ∧ PstO X P O W0 β F G σ H n b env Q (m env)
/-- the tests of a clause: none, or one -/
structure MTs (X : Cx) (P O : List Nat) (b : Bool) (es : List Expr) (m : M) : Prop where
  run : ∃ t, PTs X es t ∧ ∀ β F G env σ H Q, Stt X.K P O β F G env σ H → Pst X P O W0 β F G σ H b env (fun d H' => ∃ c, d = .bl c ∧ Q c H') (m env) → t σ H Q
theorem mts_nil {X : Cx} {P O : List Nat} : MTs X P O true [] mYes := ⟨_, pts_nil, fun β F G env σ H Q S p => by
  obtain ⟨c, e, q⟩ := p.here S
  cases e
  exact q⟩
theorem mts_one {X : Cx} {P O : List Nat} {b : Bool} {e : Expr} {m : M} (h : MT X P O W0 b e m) : MTs X P O b [e] m := by
  obtain ⟨t, h1, h2⟩ := h.run
  exact ⟨_, pts_one h1, h2⟩
theorem ptsW {X : Cx} {es : List Expr} {t t' : TT} (h : PTs X es t) (k : ∀ σ H Q, t' σ H Q → t σ H Q) : PTs X es t' := ⟨fun pins s σ H Q I w => h.run pins s σ H Q I (k _ _ _ w)⟩
theorem peW {X : Cx} {e : Expr} {t t' : TE} (h : PE X e t) (k : ∀ σ H Q, t' σ H Q → t σ H Q) : PE X e t' := ⟨fun pins s σ H Q I w => h.run pins s σ H Q I (k _ _ _ w)⟩
theorem ME.mo {X : Cx} {P O : List Nat} {W : WX} {b : Bool} {e : Expr} {m : M} (h : ME X P O W 0 b e m) : MO X P O W 0 b e m := by
  obtain ⟨t, h1, h2⟩ := h.run
  refine ⟨t, h1, fun β F G env σ H Q S p => h2 β F G env σ H Q S ?_⟩
  cases q : m env with
  | ok d e =>
    rw [q] at p
    exact fun H' S' x' p' v r => p v H' [] S' ⟨x'.ex, x'.gs⟩ p' ⟨rfl, r⟩
  | exc c x e => rw [q] at p; exact p
  | bad => rw [q] at p; exact p
def okOwn (P O own is : List Nat) : Bool := own.all (fun i => !P.contains i && (O.getD i 0 == 0)) && is.all fun i => own.contains i
section
variable {X : Cx} {P O : List Nat} {W : WX} {k : Nat} {b b1 b2 : Bool} {elt tg iter : Expr} {ifs : List Expr} {scope : Scope} {own : List (Str × Nat)} {pos : Pos} {g : TG} {f : D → Sl → Option Sl} {is : List Nat} {mt me : M} {src : Mi (List D)}
theorem nox_ok {α : Type} {r : Rs α} {a : α} {e : Sl} : r.nox = .ok a e ↔ r = .ok a e := by
  cases r <;> simp [Rs.nox]
/-- what a comprehension's reading asks, from its mirror -/
theorem lc_sem (hi : MI X P O W b tg iter src)
    (hg : ∀ s H C cl fp, MG (XB X scope s H C cl fp) P O is tg g f) (ht : ∀ s H C cl fp, MTs (XB X scope s H C cl fp) P O b1 ifs mt) (he : ∀ s H C cl fp, MO (XB X scope s H C cl fp) P O W0 k b2 elt me)
    (hw : okOwn P O (own.map (·.2)) is = true) :
    ∃ w, PI X tg iter w ∧ (∀ s H C cl fp, PTs (XB X scope s H C cl fp) ifs (cT X.K P O b1 mt X)) ∧ (∀ s H C cl fp, PE (XB X scope s H C cl fp) elt (cE X.K P O k b2 me X)) ∧
      ∀ β F G env σ H Q, Stt X.K P O β F G env σ H → PstO X P O W β F G σ H (k + 1) false env Q (mLc (own.map (·.2)) f mt me src env) → tLc w g (cT X.K P O b1 mt X) (cE X.K P O k b2 me X) (own.map (·.2)) σ H Q := by
  obtain ⟨w, pw, hi⟩ := hi.run
  have ht' : ∀ s H C cl fp, PTs (XB X scope s H C cl fp) ifs (cT X.K P O b1 mt X) := fun s H C cl fp => by
    obtain ⟨t, q1, q2⟩ := (ht s H C cl fp).run
    refine ptsW q1 fun σ H Q h => ?_
    obtain ⟨β, F, G, env, S, h⟩ := h
    exact q2 β F G env σ H Q S h
  have he' : ∀ s H C cl fp, PE (XB X scope s H C cl fp) elt (cE X.K P O k b2 me X) := fun s H C cl fp => by
    obtain ⟨t, q1, q2⟩ := (he s H C cl fp).run
    refine peW q1 fun σ H Q h => ?_
    obtain ⟨β, F, G, env, S, h⟩ := h
    exact q2 β F G env σ H Q S h
  unfold okOwn at hw
  rw [Bool.and_eq_true] at hw
  have hP : ∀ i ∈ own.map (·.2), i ∉ P := fun i m => by
    have h := (List.all_eq_true.mp hw.1) i m
    rw [Bool.and_eq_true] at h
    simpa using h.1
  have hO : ∀ i ∈ own.map (·.2), O.getD i 0 = 0 := fun i m => by
    have h := (List.all_eq_true.mp hw.1) i m
    rw [Bool.and_eq_true] at h
    simpa using h.2
  have hI : ∀ i ∈ is, i ∈ own.map (·.2) := fun i m => by simpa using (List.all_eq_true.mp hw.2) i m
  revert hP hO hI
  generalize hvs : own.map (·.2) = vs
  intro hP hO hI
  refine ⟨w, pw, ht', he', fun β F G env σ H Q S z => ?_⟩
  refine hi β F G env σ H _ S ?_
  unfold mLc at z
  cases es : src env with
  | bad => rw [es] at z; exact z
  | exc c x e => rw [es] at z; exact z
  | ok ds e1 =>
    rw [es] at z
    intro H1 S1 x1 p1 J okJ A hA
    have z : PstO X P O W β F G σ H (k + 1) false env Q ((lcL vs f mt me ds (wpE e1 vs)).bind fun l e2 => if l.length ≤ lim then .ok (.lst l) (rstE e1 e2 vs) else .bad) := z
    let B := hid H1 (msk F G)
    -- the whole outcome
    cases el : lcL vs f mt me ds (wpE e1 vs) with
    | bad => rw [el] at z; exact z.elim
    | exc c x e =>
      exfalso
      clear z
      have : ∀ (ds : List D) (e0 : Sl), lcL vs f mt me ds e0 ≠ .exc c x e := by
        intro ds
        induction ds with
        | nil => intro e0 h; cases h
        | cons d ds ih =>
          intro e0 h
          unfold lcL at h
          split at h
          · cases h
          · rename_i e1 _
            cases q1 : mt e1 with
            | bad => rw [q1] at h; cases h
            | exc c x e => rw [q1] at h; cases h
            | ok cc e2 =>
              rw [q1] at h
              have h : (match cc with
                | .bl true => (me e2).nox.bind fun y e3 => (lcL vs f mt me ds (wpE e3 vs)).bind fun l e4 => .ok (y :: l) e4
                | .bl false => lcL vs f mt me ds (wpE e2 vs)
                | _ => .bad) = Rs.exc c x e := h
              split at h
              · cases q2 : me e2 with
                | bad => rw [q2] at h; cases h
                | exc c x e => rw [q2] at h; cases h
                | ok y e3 =>
                  rw [q2] at h
                  have h : ((lcL vs f mt me ds (wpE e3 vs)).bind fun l e4 => .ok (y :: l) e4) = Rs.exc c x e := h
                  cases q3 : lcL vs f mt me ds (wpE e3 vs) with
                  | bad => rw [q3] at h; cases h
                  | ok l e4 => rw [q3] at h; cases h
                  | exc c' x' e' =>
                    rw [q3] at h
                    cases h
                    exact ih _ q3
              · exact ih _ h
              · cases h
      exact this _ _ el
    | ok l e2 =>
      rw [el] at z
      have z : PstO X P O W β F G σ H (k + 1) false env Q (if l.length ≤ lim then .ok (.lst l) (rstE e1 e2 vs) else .bad) := z
      split at z
      · rename_i hlen
        -- W: the turn, what is made so far, what the mirror still has to do
        refine ⟨fun i m H2 => ∃ e3 done acc fps rest, m = ds.length - i ∧ i ≤ ds.length ∧ Stt X.K P O (β.up B) F (A :: fps.flatten ++ G) e3 (wipe σ vs) H2 ∧ Fo F G (A :: fps.flatten) H1 H2 ∧ H2 A = some (.lst acc) ∧
            All3 (Own X.K (hid H2 (msk F (A :: fps.flatten ++ G))) H2 k) done acc fps ∧ lcL vs f mt me (ds.drop i) e3 = .ok rest e2 ∧ done ++ rest = l,
          ⟨ds.length, wpE e1 vs, [], [], [], l, by simp, Nat.zero_le _, ?_, ?_, upd_same, trivial, by simpa using el, rfl⟩, ?_⟩
        · exact Stt.wipe vs hP (S1.rise.newG hA)
        · refine ⟨?_, fun a m => upd_ne fun q => S1.fresh hA (List.mem_append_right _ (q ▸ m))⟩
          have q := hid_newG (o := .lst []) S1 hA
          show Ex (hid H1 (msk F G)) (hid (upd H1 A (.lst [])) (msk F ([A] ++ G)))
          rw [show [A] ++ G = A :: G from rfl, q]
          exact Ex.rfl' _
        · rintro i m H2 ⟨e3, done, acc, fps, rest, rfl, hi2, S2, x2, hA2, own2, el2, hl2⟩
          have eB : Ex B H2 := S2.base.trn hid_le
          by_cases hlt : i < ds.length
          · have hd : ds.drop i = ds[i] :: ds.drop (i + 1) := List.drop_eq_getElem_cons hlt
            rw [hd] at el2
            unfold lcL at el2
            cases hf : f ds[i] e3 with
            | none => rw [hf] at el2; cases el2
            | some e4 =>
              rw [hf] at el2
              dsimp only at el2
              refine .inr ⟨okJ.go i H2 hlt eB, fun H' => ∃ e3 done acc fps rest, Stt X.K P O (β.up B) F (A :: fps.flatten ++ G) e3 (wipe σ vs) H' ∧ Fo F G (A :: fps.flatten) H1 H' ∧ H' A = some (.lst acc) ∧
                All3 (Own X.K (hid H' (msk F (A :: fps.flatten ++ G))) H' k) done acc fps ∧ lcL vs f mt me (ds.drop (i + 1)) e3 = .ok rest e2 ∧ done ++ rest = l, ?_, fun x H3 y => ?_⟩
              · rintro H' ⟨e3, done, acc, fps, rest, q1, q2, q3, q4, q5, q6⟩
                exact ⟨ds.length - (i + 1), by omega, e3, done, acc, fps, rest, rfl, hlt, q1, q2, q3, q4, q5, q6⟩
              · have o := okJ.yld i H2 x H3 eB y ds[i] (List.getElem?_eq_getElem hlt) (hid H2 (msk F (A :: fps.flatten ++ G))) S2.base hid_le
                have S3 := S2.ext o.ex
                refine (hg X.s_0 H A [] []).run (β.up B) F _ e3 e4 (wipe σ vs) H3 _ x _ S3 (o.rp S2) hf fun σ4 S4 w4 => ⟨?_, ?_⟩
                · have ww : ∀ us : List Nat, (∀ i ∈ us, i ∈ vs) → wipe (wipe σ vs) us = wipe σ vs := by
                    intro us
                    induction us with
                    | nil => exact fun _ => rfl
                    | cons u us ih =>
                      intro hu
                      show (wipe (wipe σ vs) us).set u none = wipe σ vs
                      rw [ih fun i m => hu i (List.mem_cons_of_mem _ m)]
                      have hm := hu u List.mem_cons_self
                      clear ih hu
                      have e : ∀ ws : List Nat, u ∈ ws → (wipe σ ws).set u none = wipe σ ws := by
                        intro ws
                        induction ws with
                        | nil => intro h; cases h
                        | cons t ws ih =>
                          intro h
                          show ((wipe σ ws).set t none).set u none = (wipe σ ws).set t none
                          by_cases htu : t = u
                          · subst htu
                            rw [List.set_set]
                          · rw [List.set_comm _ _ htu, ih (by
                              rcases List.mem_cons.mp h with h | h
                              · exact absurd h.symm htu
                              · exact h)]
                      exact e vs hm
                  rw [w4 vs hI, ww vs fun _ m => m]
                · -- the test, then the item
                  have wv : wipe σ4 vs = wipe σ vs := by
                    rw [w4 vs hI]
                    have := w4 vs hI
                    have ww : ∀ us : List Nat, (∀ i ∈ us, i ∈ vs) → wipe (wipe σ vs) us = wipe σ vs := by
                      intro us
                      induction us with
                      | nil => exact fun _ => rfl
                      | cons u us ih =>
                        intro hu
                        show (wipe (wipe σ vs) us).set u none = wipe σ vs
                        rw [ih fun i m => hu i (List.mem_cons_of_mem _ m)]
                        have hm := hu u List.mem_cons_self
                        clear ih hu
                        have e : ∀ ws : List Nat, u ∈ ws → (wipe σ ws).set u none = wipe σ ws := by
                          intro ws
                          induction ws with
                          | nil => intro h; cases h
                          | cons t ws ih =>
                            intro h
                            show ((wipe σ ws).set t none).set u none = (wipe σ ws).set t none
                            by_cases htu : t = u
                            · subst htu
                              rw [List.set_set]
                            · rw [List.set_comm _ _ htu, ih (by
                                rcases List.mem_cons.mp h with h | h
                                · exact absurd h.symm htu
                                · exact h)]
                        exact e vs hm
                    exact ww vs fun _ m => m
                  have fo : ∀ {fps : List (List Addr)} {Ha Hb : Hp}, Fo F G (A :: fps.flatten) H1 Ha → Fw F (A :: fps.flatten ++ G) Ha Hb → Fo F G (A :: fps.flatten) H1 Hb := fun a c => ⟨a.ex.trn c.ex, fun t m => (c.gs t (List.mem_append_right _ m)).trans (a.gs t m)⟩
                  have x3 : Fw F (A :: fps.flatten ++ G) H2 H3 := Fw.of S2 o.ex
                  have frm : ∀ {Ha Hb : Hp}, Fw F (A :: fps.flatten ++ G) Ha Hb → All3 (Own X.K (hid Ha (msk F (A :: fps.flatten ++ G))) Ha k) done acc fps → All3 (Own X.K (hid Hb (msk F (A :: fps.flatten ++ G))) Hb k) done acc fps := fun {Ha Hb} c h =>
                    h.imp fun d x ff m h => h.frame c.ex _ fun t mt => c.gs t (List.mem_append_left _ (List.mem_cons_of_mem _ (mem_flat_of m mt)))
                  have atA : ∀ {Ha Hb : Hp}, Fw F (A :: fps.flatten ++ G) Ha Hb → Ha A = some (.lst acc) → Hb A = some (.lst acc) := fun c h => by
                    rw [c.gs A (List.mem_append_left _ List.mem_cons_self)]; exact h
                  refine ⟨β.up B, F, _, e4, S4, ?_⟩
                  cases q1 : mt e4 with
                  | bad => rw [q1] at el2; cases el2
                  | exc c x e => rw [q1] at el2; cases el2
                  | ok cc e5 =>
                    rw [q1] at el2
                    have el2 : (match (generalizing := false) cc with
                      | .bl true => (me e5).nox.bind fun y e3 => (lcL vs f mt me (ds.drop (i + 1)) (wpE e3 vs)).bind fun l e4 => .ok (y :: l) e4
                      | .bl false => lcL vs f mt me (ds.drop (i + 1)) (wpE e5 vs)
                      | _ => .bad) = Rs.ok rest e2 := el2
                    intro H5 S5 x5 p5
                    have x25 := x3.trn x5
                    split at el2
                    · refine ⟨true, rfl, ?_⟩
                      refine iteT ?_
                      refine ⟨β.up B, F, _, e5, S5, ?_⟩
                      cases q2 : me e5 with
                      | bad => rw [q2] at el2; cases el2
                      | exc c x e => rw [q2] at el2; cases el2
                      | ok y0 e6 =>
                        rw [q2] at el2
                        have el2 : ((lcL vs f mt me (ds.drop (i + 1)) (wpE e6 vs)).bind fun l e4 => .ok (y0 :: l) e4) = Rs.ok rest e2 := el2
                        intro yv H6 fp S6 x6 p6 o6
                        cases q3 : lcL vs f mt me (ds.drop (i + 1)) (wpE e6 vs) with
                        | bad => rw [q3] at el2; cases el2
                        | exc c x e => rw [q3] at el2; cases el2
                        | ok rest' e7 =>
                          rw [q3] at el2
                          cases el2
                          have hAR : A ∉ (β.up B).R := fun m => S1.fresh hA (List.mem_append_right _ (S1.rr A m).1)
                          have hA6 : H6 A = some (.lst acc) := by
                            rw [x6.gs A (List.mem_append_left _ List.mem_cons_self)]
                            exact atA x25 hA2
                          have lacc : acc.length = done.length := own2.len.1
                          refine ⟨acc, hA6, ?_, ?_⟩
                          · rw [lacc]
                            refine lim_lt ?_
                            have : done.length + (y0 :: rest').length ≤ lim := by rw [← List.length_append, hl2]; exact hlen
                            simp at this
                            omega
                          · have pm : (fp ++ (A :: fps.flatten ++ G)).Perm (A :: (fps ++ [fp]).flatten ++ G) := by
                              rw [List.flatten_append]
                              show (fp ++ (A :: (fps.flatten ++ G))).Perm (A :: ((fps.flatten ++ [fp].flatten) ++ G))
                              refine List.perm_middle.trans (List.Perm.cons A ?_)
                              rw [List.flatten_cons, List.flatten_nil, List.append_nil, ← List.append_assoc]
                              exact List.perm_append_comm.append_right G
                            have S6' := S6.perm pm
                            have hAm : A ∈ A :: (fps ++ [fp]).flatten ++ G := List.mem_append_left _ List.mem_cons_self
                            have hh : hid (upd H6 A (.lst (acc ++ [yv]))) (msk F (A :: (fps ++ [fp]).flatten ++ G)) = hid H6 (msk F (A :: (fps ++ [fp]).flatten ++ G)) := hid_updG hAm
                            have hp2 : hid H6 (msk F (fp ++ (A :: fps.flatten ++ G))) = hid H6 (msk F (A :: (fps ++ [fp]).flatten ++ G)) := hid_perm pm
                            have nd6 := (List.nodup_append.mp S6.nd).2.1
                            have nAfp : A ∉ fp := fun m => (List.nodup_append.mp nd6).2.2 A m A (List.mem_append_left _ List.mem_cons_self) rfl
                            have nAfps : A ∉ fps.flatten := fun m => by
                              have h := (List.nodup_append.mp nd6).2.1
                              exact (List.nodup_cons.mp h).1 (List.mem_append_left _ m)
                            refine ⟨wpE e6 vs, done ++ [y0], acc ++ [yv], fps ++ [fp], rest', ?_, ?_, upd_same, ?_, q3, by rw [List.append_assoc]; exact hl2⟩
                            · have h := Stt.wipe vs hP (S6'.updG (o := .lst (acc ++ [yv])) hAm hAR)
                              rw [wv] at h
                              exact h
                            · refine ⟨?_, fun t m => ?_⟩
                              · show Ex _ (hid (upd H6 A (.lst (acc ++ [yv]))) (msk F (A :: (fps ++ [fp]).flatten ++ G)))
                                rw [hh, ← hp2]
                                exact (x2.ex.trn x25.ex).trn x6.ex
                              · have nt : t ≠ A := fun z => by
                                  subst z
                                  have h := (List.nodup_append.mp nd6).2.1
                                  exact (List.nodup_cons.mp h).1 (List.mem_append_right _ m)
                                rw [upd_ne nt, x6.gs t (List.mem_append_right _ m), x25.gs t (List.mem_append_right _ m), x2.gs t m]
                            · rw [hh]
                              refine All3.snoc ?_ ?_
                              · refine (frm x25 own2).imp fun d x ff m h => h.frame (by rw [← hp2]; exact x6.ex) _ fun t mt => ?_
                                have nt : t ≠ A := fun z => nAfps (by rw [← z]; exact mem_flat_of m mt)
                                rw [upd_ne nt]
                                exact x6.gs t (List.mem_append_left _ (List.mem_cons_of_mem _ (mem_flat_of m mt)))
                              · rw [← hp2]
                                exact o6.frame (Ex.rfl' _) _ fun t mt => upd_ne fun z => nAfp (z ▸ mt)
                    · refine ⟨false, rfl, ?_⟩
                      refine iteF ?_
                      refine ⟨wpE e5 vs, done, acc, fps, rest, ?_, fo x2 x25, atA x25 hA2, frm x25 own2, el2, hl2⟩
                      have h := Stt.wipe vs hP S5
                      rw [wv] at h
                      exact h
                    · cases el2
          · have e : i = ds.length := by omega
            subst e
            rw [List.drop_length] at el2
            cases el2
            rw [List.append_nil] at hl2
            subst hl2
            refine .inl ⟨okJ.stop H2 eB, ?_⟩
            have Sf : Stt X.K P O β F (A :: fps.flatten ++ G) (rstE e1 e2 vs) σ H2 := Stt.rst S1 (S2.fall S1.base) x2.ex hO hP
            refine z (.ref A) H2 (A :: fps.flatten) Sf (x1.tro x2) (fun z => by cases z) ⟨A, acc, fps, rfl, rfl, .inl ⟨_, rfl, hA2, own2⟩⟩
      · exact z.elim
theorem mo_lc {vs : List Nat} (hc : X.calm = true) (hN : X.N.Nodup) (ok : BlkOk X.N X.env.scope scope own) (hi : MI X P O W b tg iter src)
    (hg : ∀ s H C cl fp, MG (XB X scope s H C cl fp) P O is tg g f) (ht : ∀ s H C cl fp, MTs (XB X scope s H C cl fp) P O b1 ifs mt) (he : ∀ s H C cl fp, MO (XB X scope s H C cl fp) P O W0 k b2 elt me)
    (hw : okOwn P O vs is = true := by rfl) (hs : ∀ x, foldedSetIterable iter X.env x = pure x := by intro _; rfl) (hvs : own.map (·.2) = vs := by rfl) :
    MO X P O W (k + 1) false (.ListComp elt [⟨tg, iter, ifs, 0⟩] scope pos) (mLc vs f mt me src) := by
  subst hvs
  obtain ⟨w, q1, q2, q3, q4⟩ := lc_sem (own := own) hi hg ht he hw
  exact ⟨_, pe_lc hc hN q1 ok (fun s H C cl fp => (hg s H C cl fp).pg) q2 q3 hs, q4⟩
/-- y = [..], y a plain local name -/
theorem ms_lc {vs : List Nat} {c : Fc} {Ol O' : List Nat} {i : Nat} {y : Str} {py spos : Pos} (hc : X.calm = true) (hN : X.N.Nodup) (ok : BlkOk X.N X.env.scope scope own) (hi : MI X c.P O c.W b tg iter src)
    (hg : ∀ s H C cl fp, MG (XB X scope s H C cl fp) c.P O is tg g f) (ht : ∀ s H C cl fp, MTs (XB X scope s H C cl fp) c.P O b1 ifs mt) (he : ∀ s H C cl fp, MO (XB X scope s H C cl fp) c.P O W0 k b2 elt me)
    (hO : O' = O.set i (k + 1) := by rfl) (hw : okOwn c.P O vs is = true := by rfl) (hii : (decide (i < O.length) && !c.P.contains i) = true := by rfl) (hy : X.N[i]? = some y := by rfl) (hyl : X.env.scope.names.lookup y = some .local := by rfl)
    (hsw : swapsWith (.ListComp elt [⟨tg, iter, ifs, 0⟩] scope pos) (some (.Name y py)) spos.line X.env = pure true := by exact sw_true rfl rfl rfl (by decide +kernel)) (hs : ∀ x, foldedSetIterable iter X.env x = pure x := by intro _; rfl) (hvs : own.map (·.2) = vs := by rfl) :
    MS X c Ol O O' (.Assign [.Name y py] (.ListComp elt [⟨tg, iter, ifs, 0⟩] scope pos) spos) (sSet i (mLc vs f mt me src)) := by
  subst hvs
  obtain ⟨w, q1, q2, q3, q4⟩ := lc_sem (own := own) hi hg ht he hw
  rw [Bool.and_eq_true] at hii
  subst hO
  refine ⟨_, ps_setLc hc hN hy hyl hsw q1 ok (fun s H C cl fp => (hg s H C cl fp).pg) q2 q3 hs, fun β F G env σ H Dn S z => q4 β F G env σ H _ S (z.bindO fun d e1 v H1 fp S1 o q => ?_)⟩
  exact q _ H1 _ (Stt.store (fp := fp) S1 (fun a m => (S.rr a m).1) (ltO S1 (of_decide_eq_true hii.1)) (by simpa using hii.2) o)
end
end M3

/-! MG0 -/
set_option Elab.async false
set_option linter.all false
set_option maxRecDepth 100000
set_option maxHeartbeats 4000000
namespace M3
open PySem PySem.Spec PyProof.Rows L2

/-! ### promises of defs where no text of a list is under way (so that repr has its road) -/
structure RoomG (k : Nat) (A : Around) : Prop where
  room : Room k A
  grd : A.guards = some []
theorem RoomG.mono {j k : Nat} {A : Around} (r : RoomG k A) (h : j ≤ k) : RoomG j A := ⟨r.room.mono h, r.grd⟩
theorem RoomG.deeper {k : Nat} {A : Around} (r : RoomG (k + 1) A) (env : Env) : RoomG k (A.deeper env) := ⟨r.room.deeper env, r.grd⟩
theorem RoomG.units {k : Nat} {A : Around} (r : RoomG k A) : A.units + 64 < cLine := r.room.units
theorem RoomG.units5 {k : Nat} {A : Around} (r : RoomG k A) : A.units + 100 < cLine := by have := r.room.un; omega
theorem RoomG.units1 {k : Nat} {A : Around} (r : RoomG k A) : A.units + 1 < cLine := by have := r.room.un; omega
theorem RoomG.units0 {k : Nat} {A : Around} (r : RoomG k A) : A.units < cLine := r.room.units0
structure FnG (Pg : Program) (w : World) (K : Fg) (mg : Str → Option Value) (base : Heap) (CX : CXT) (k : Nat) (f : Addr) (fd : FuncData) (ps : List Str) (sp : Sp) : Prop where
  len : ∀ vs H Q E, sp vs H Q E → vs.length = ps.length
  go : ∀ {A : Around} {outer : List Env} {s : Shared} {H : Hp} {args : Args} {us : List Value} {vs : List V} {Q : VK} {E : XK}, RoomG k A → Env0 Pg w K mg base A outer s H → BindsTo s fd args (ps.zip us) → Vals vs us → sp vs H Q E → codeAny (model Pg w) A (.call (.ref f) args) (CR CX outer Pg w H s Q E) s
section
variable {Pg : Program} {w : World} {K : Fg} {mg : Str → Option Value} {base : Heap} {CX : CXT}
theorem FnG.mono {j k : Nat} {f : Addr} {fd : FuncData} {ps : List Str} {sp : Sp} (F : FnG Pg w K mg base CX j f fd ps sp) (h : j ≤ k) : FnG Pg w K mg base CX k f fd ps sp := ⟨F.len, fun r => F.go (r.mono h)⟩
/-- a def's promise from its body's term -/
theorem fnG_mk {k : Nat} {x qual : Str} {st : Stmt} {f : Addr} {fd : FuncData} {N ps : List Str} {sp : Sp} (F : Fun K x qual st f fd) (S : FnScope N ps (defScope st)) (len : ∀ vs H Q E, sp vs H Q E → vs.length = ps.length)
    (body : ∀ (cdv : Value) (A : Around) (outer : List Env) (s : Shared) (H : Hp) (vs : List V) (Q : VK) (E : XK), RoomG k (A.deeper (envOfC qual (defScope st) s.heap.objs.size f cdv)) → sp vs H Q E →
      ∃ t, PSs (cxOf CX Pg w K mg base N qual (defScope st) f cdv A outer s H E) (defBody st) t ∧ t ⟨fun _ H' => Q .non H', Q, fun _ _ => False, fun _ _ => False⟩ (start N vs) H) :
    FnG Pg w K mg base CX (k + 1) f fd ps sp := by
  obtain ⟨_, _, _, _, _, _, cdv, _, _, hfd, lk, hcd⟩ := F.ex
  subst hfd
  refine ⟨len, @fun A outer s H args us vs Q E hr e0 hb rel hsp => ?_⟩
  have n1 := len _ _ _ _ hsp
  have kin : K.In s.heap := e0.mod.kin.keeps fun b o e => (e0.bs b o e).1
  have nol : s.heap.NoLimit := e0.mod.nolimit.keeps fun b o e => (e0.bs b o e).1
  have knd : ∀ z ∈ ps.zip us, (defScope st).names.lookup z.1 = some .local ∨ ((defScope st).names.lookup z.1 = some .cell ∧ ((cellsFrom (s.heap.objs.size + 1) (defScope st).names []).lookup z.1).isSome = true) := by
    intro z hz
    obtain ⟨zn, zv⟩ := z
    refine (S.par zn (List.of_mem_zip hz).1).imp id fun q => ⟨q, PySem.W.cellsFrom_some _ _ _ (.inl q)⟩
  refine codeAny_call_function hr.room.depth (kin _ _ lk) rfl S.co S.gen rfl (PySem.W.codeRec_of kin hcd) (hb _ _ _ _ (wpAny_newFunctionEnv_cells S.kind knd fun env he s1 x => ?_))
  subst he
  refine ⟨nol.keeps x.toInCall.keep, codeAny_func ?_⟩
  obtain ⟨t, ht, hq⟩ := body cdv A outer s H vs Q E (hr.deeper _) hsp
  have I0 := inv_start (CX := CX) (E := E) S hr.room.hd e0 n1 rel x
  have last : ∀ {σ' : L2.St} {H' : Hp} {v : V} {u : Value} {s' : Shared}, Inv (cxOf CX Pg w K mg base N qual (defScope st) f cdv A outer s H E) [] σ' H' s' → RelV v u → Q v H' → CE outer Pg w H s Q u s' := fun J rv q => ⟨_, _, J.os, J.bare, J.base, J.hok, rv, q⟩
  refine wpAny_mono (ht.run [] s1 (start N vs) H _ I0 hq) (fun fl s' hs => ?_) fun _ _ hs => hs
  cases fl with
  | ret u => exact let ⟨_, _, _, J, rv, q⟩ := hs; last J rv q
  | next => exact let ⟨_, _, J, q⟩ := hs; last (v := V.non) (u := Value.none) J rfl q
  | brk => exact let ⟨_, _, _, q⟩ := hs; q.elim
  | cont => exact let ⟨_, _, _, q⟩ := hs; q.elim
end
section
variable {X : Cx} {CX : CXT} {k : Nat} {f : Addr} {fd : FuncData} {ps : List Str} {sp : Sp} {dvs : List V} {ds : List Value} {E : L2.St → XK} {x : Str} {p pos : Pos} {e : Expr} {es : List Expr} {t : TA}
/-- f(e, ..), by such a promise -/
theorem pe_callG (F : FnG X.prog X.w X.K X.mg X.base CX k f fd ps sp) (hr : RoomG k X.A) (hg : Gl X x) (hm : X.mg x = some (.ref f)) (hk : PySem.W.keepIn X.K (.ref f) = true) (hb : Binds X.K fd ps ds) (hd : Vals dvs ds)
    (hx : ∀ σ, PassesAt CX X σ (E σ)) (ha : PA X (e :: es) t) (hdb : (x == ("__debug__" : Str)) = false := by decide) (he : starEach (e :: es) X.env = (false, eval e X.env) :: starEach es X.env := by rfl)
    (hpl : (backTo pos (starEach es X.env)).any (·.1) = false := by rfl) : PE X (.Call (.Name x p) (e :: es) [] pos) (tCallSD sp dvs E t) := by
  constructor
  intro pins s0 σ H Q I0 h
  refine wpAny_Call_Name_kw (ld_glob I0 hg hm (PySem.W.callWith_K (h₀ := X.base) I0.ok.mod.kin hk (thn (ha.run pos pins s0 σ H _ I0 h) fun us sh ⟨vs, H1, I1, rel, q⟩ => ⟨I1.kIn, ?_⟩) he hpl) hdb)
  have rel2 : Vals (vs ++ dvs) (us ++ ds) := rel.append hd
  have n1 := F.len _ _ _ _ q
  rw [rel2.length] at n1
  refine wpAny_call (codeAny_mono (F.go hr I1.env0 (hb sh us I1.kIn n1) rel2 q) fun r s' z => ?_)
  match r, z with
  | .error e, z => exact hx σ pins _ _ _ _ I1 z
  | .ok (.ret u), z => exact I1.after z
  | .ok .next, z => exact z.elim
  | .ok .brk, z => exact z.elim
  | .ok .cont, z => exact z.elim
theorem run_kwG {ks : List Str} {g : List Value → List Value → List Value} {gV : List V → List V → List V} {E : XK} {pins : List (Addr × Obj)} {σ : L2.St} {H : Hp} {s : Shared} {Q : VK} {us ws : List Value} {vs zs : List V}
    (F : FnG X.prog X.w X.K X.mg X.base CX k f fd ps sp) (hr : RoomG k X.A) (hb : KBinds X.K fd ps ks g gV) (hx : Passes CX X E) (I : Inv X pins σ H s) (rel : Vals vs us) (rz : Vals zs ws) (h : sp (gV vs zs) H Q E) :
    wpAny (model X.prog X.w) X.A (call (.ref f) us (ks.zip ws)) (EP X pins σ Q) X.xe s := by
  have rel2 := hb.rel rel rz
  have n1 := F.len _ _ _ _ h
  rw [rel2.length] at n1
  refine wpAny_call (codeAny_mono (F.go hr I.env0 (hb.to s us ws I.kIn n1) rel2 h) fun r s' z => ?_)
  match r, z with
  | .error e, z => exact hx pins _ _ _ _ _ I z
  | .ok (.ret u), z => exact I.after z
  | .ok .next, z => exact z.elim
  | .ok .brk, z => exact z.elim
  | .ok .cont, z => exact z.elim
end
end M3

/-! MF -/
set_option Elab.async false
set_option linter.all false
set_option maxRecDepth 100000
set_option maxHeartbeats 4000000
namespace M3
open PySem PySem.Spec PyProof.Rows L2

/-- what a def comes to: its answer and its slots behind, or an exception -/
inductive FRs where
  | ok (d : D) (e : Sl)
  | exc (c : Addr) (x : D)
  | bad
abbrev Fn := List D → FRs
def toF (r : Nat) : SRs → FRs
  | .rt d e => .ok d e
  | .nx e => if r = 0 then .ok .non e else .bad
  | .exc c x _ => .exc c x
  | _ => .bad
def mFn (r nl np : Nat) (m : MSt) : Fn := fun ds => toF r (m (ds.map some ++ List.replicate (nl - np) none))
/-- what a def promises, by its mirror: R what the caller keeps hidden -/
def spM (K : Fg) (P J : List Nat) (r np : Nat) (m : Fn) : Sp := fun vs H Q E =>
  ∃ (ds : List D) (F : List (List Addr)) (R : List Addr), vs.length = np ∧ ds.length = np ∧ F.length = np ∧ (msk F R).Nodup ∧ (∀ a ∈ R, ∃ o, H a = some o) ∧
    (∀ i, i < np → ∃ d v, ds[i]? = some d ∧ vs[i]? = some v ∧ Own K (hid H (msk F R)) H (J.getD i 0) d v (F.getD i [])) ∧
    match m ds with
    | .ok d e => ∀ v H' fp, (msk F (fp ++ R)).Nodup → Ex (hid H (msk F R)) (hid H' (msk F (fp ++ R))) → (∀ a ∈ R, H' a = H a) → Own K (hid H' (msk F (fp ++ R))) H' r d v fp →
        (∀ i ∈ P, ∀ d' w, e[i]? = some (some d') → vs[i]? = some w → Own K (hid H' (msk F (fp ++ R))) H' (J.getD i 0) d' w (F.getD i [])) → Q v H'
    | .exc c x => ∀ dx v H', Ex (hid H (msk F R)) (hid H' (msk F R)) → (∀ a ∈ R, H' a = H a) → H' dx = some (.xd [("value", v)]) → Rp K (hid H' (msk F R)) x v → E (.ref c) (some dx) H'
    | .bad => False

theorem getD_lt {α : Type} {l : List α} {i : Nat} {d a : α} (h : l[i]? = some a) : l.getD i d = a := by
  rw [List.getD_eq_getElem?_getD, h]; rfl
theorem rep_none {n : Nat} : ∀ {i : Nat} {o : Option D}, (List.replicate n (none : Option D))[i]? = some o → o = none := fun {i o} h => by
  have := List.mem_of_getElem? h
  exact (List.mem_replicate.mp this).2

section
variable {Pg : Program} {w : World} {K : PySem.W.Frag} {mg : Str → Option Value} {base : Heap}
theorem fn_ok {x qual : Str} {st : Stmt} {f : Addr} {fd : FuncData} {N ps : List Str} {k : Nat} (P O O' : List Nat) (r np : Nat) {mb : MSt} (F0 : Fun K x qual st f fd) (S : FnScope N ps (defScope st))
    (hb : ∀ (cdv : Value) (A : Around) (outer : List Env) (s : Shared) (H : Hp) (E : XK), RoomG k (A.deeper (envOfC qual (defScope st) s.heap.objs.size f cdv)) →
      MSs (cxOf (L2.CX Pg w) Pg w K mg base N qual (defScope st) f cdv A outer s H E) ⟨P, O, fun cls d _ H => E cls d H, r⟩ [] O O' (defBody st) mb)
    (hnp : ps.length = np := by rfl) (hO : O.length = N.length := by rfl) (hP : (P.all fun i => decide (i < np)) = true := by rfl) (hz : ((List.range O.length).all fun i => P.contains i || O.getD i 0 == 0) = true := by rfl) (hJ : okJ P O' O = true := by rfl) :
    FnG Pg w K mg base (L2.CX Pg w) (k + 1) f fd ps (spM K P O r np (mFn r N.length np mb)) := by
  refine fnG_mk F0 S (fun vs H Q E h => ?_) (fun cdv A outer s H vs Q E hr h => ?_)
  · obtain ⟨ds, F, R, h1, _⟩ := h
    rw [h1, hnp]
  · obtain ⟨ds, F, R, h1, h2, h3, nd, pr, hown, hm⟩ := h
    obtain ⟨t, pt, hb⟩ := (hb cdv A outer s H E hr).run
    refine ⟨t, pt, ?_⟩
    have hle : np ≤ N.length := by
      have := congrArg List.length S.pre
      rw [List.length_take, hnp] at this
      omega
    have flat : (F ++ List.replicate (N.length - np) []).flatten = F.flatten := by
      rw [List.flatten_append]
      have : ∀ n : Nat, (List.replicate n ([] : List Addr)).flatten = [] := fun n => by
        induction n with
        | zero => rfl
        | succ n ih => rw [List.replicate_succ, List.flatten_cons, ih]; rfl
      rw [this, List.append_nil]
    have mk : ∀ G, msk (F ++ List.replicate (N.length - np) []) G = msk F G := fun G => by
      show (F ++ List.replicate (N.length - np) []).flatten ++ G = _
      rw [flat]
    have Fg : ∀ i, i < np → (F ++ List.replicate (N.length - np) []).getD i [] = F.getD i [] := fun i hi => by
      rw [List.getD_eq_getElem?_getD, List.getElem?_append_left (by omega), List.getD_eq_getElem?_getD]
    have Fz : ∀ i, np ≤ i → (F ++ List.replicate (N.length - np) []).getD i [] = [] := fun i hi => by
      rw [List.getD_eq_getElem?_getD, List.getElem?_append_right (by omega)]
      cases q : (List.replicate (N.length - np) ([] : List Addr))[i - F.length]? with
      | none => rfl
      | some o => rw [(List.mem_replicate.mp (List.mem_of_getElem? q)).2]; rfl
    let β : Bc := ⟨hid H (msk F R), fun i => vs.getD i .non, fun i => F.getD i [], R, H⟩
    have hPi : ∀ i ∈ P, i < np := fun i m => of_decide_eq_true ((List.all_eq_true.mp hP) i m)
    have S0 : Stt K P O β (F ++ List.replicate (N.length - np) []) R (ds.map some ++ List.replicate (N.length - np) none) (L2.start N vs) H := by
      refine ⟨?_, ?_, ?_, by rw [mk]; exact nd, fun a m => ?_, by rw [mk]; exact Ex.rfl' _, fun i d hd => ?_, fun i hi => ?_, fun i hi => ?_, fun a m => ⟨m, rfl⟩⟩
      · unfold L2.start
        simp [h1, h2]
      · rw [List.length_append, List.length_map, List.length_replicate, h2, hO]; omega
      · rw [List.length_append, List.length_append, List.length_map, List.length_replicate, List.length_replicate, h2, h3]
      · rw [mk] at m
        rcases List.mem_append.mp m with m | m
        · obtain ⟨g, hg, ha⟩ := List.mem_flatten.mp m
          obtain ⟨i, hi⟩ := List.mem_iff_getElem?.mp hg
          have hi' : i < np := by rw [← h3]; exact (List.getElem?_eq_some_iff.mp hi).1
          obtain ⟨d, v, _, _, o⟩ := hown i hi'
          exact o.pres _ a (by rw [getD_lt hi]; exact ha)
        · exact pr a m
      · by_cases hi : i < np
        · obtain ⟨d', v, e1, e2, o⟩ := hown i hi
          rw [List.getElem?_append_left (by rw [List.length_map]; omega), List.getElem?_map, e1] at hd
          cases hd
          refine ⟨v, ?_, by rw [Fg i hi, mk]; exact o⟩
          unfold L2.start
          rw [List.getElem?_append_left (by rw [List.length_map]; omega), List.getElem?_map, e2]; rfl
        · rw [List.getElem?_append_right (by rw [List.length_map]; omega)] at hd
          have := rep_none hd
          cases this
      · have hi' := hPi i hi
        obtain ⟨d', v, e1, e2, o⟩ := hown i hi'
        refine ⟨?_, Fg i hi'⟩
        unfold L2.start
        rw [List.getElem?_append_left (by rw [List.length_map]; omega), List.getElem?_map, e2]
        show some (some v) = some (some (vs.getD i .non))
        rw [getD_lt e2]
      · by_cases h' : i < np
        · obtain ⟨d', v, e1, e2, o⟩ := hown i h'
          rw [hi] at o
          rw [Fg i h']
          exact o.1
        · exact Fz i (by omega)
    refine hb β _ R _ _ H _ S0 ?_
    have e0 : mFn r N.length np mb ds = toF r (mb (ds.map some ++ List.replicate (N.length - np) none)) := rfl
    rw [e0] at hm
    -- the owned arguments are the pinned ones
    have own0 : ∀ i, i < np → i ∉ P → F.getD i [] = [] := fun i hi hp => by
      obtain ⟨d, v, _, _, o⟩ := hown i hi
      have h := (List.all_eq_true.mp hz) i (List.mem_range.mpr (by omega))
      rw [Bool.or_eq_true] at h
      rcases h with h | h
      · exact absurd (by simpa using h) hp
      · rw [show O.getD i 0 = 0 by simpa using h] at o
        exact o.1
    have inF : ∀ {F' : List (List Addr)}, (∀ i ∈ P, ∀ a ∈ F.getD i [], a ∈ F'.flatten) → ∀ b ∈ F.flatten, b ∈ F'.flatten := fun {F'} hF b m => by
      obtain ⟨g, hg, hb'⟩ := List.mem_flatten.mp m
      obtain ⟨i, hi⟩ := List.mem_iff_getElem?.mp hg
      have hi' : i < np := by rw [← h3]; exact (List.getElem?_eq_some_iff.mp hi).1
      have hb'' : b ∈ F.getD i [] := by rw [getD_lt hi]; exact hb'
      by_cases hp : i ∈ P
      · exact hF i hp b hb''
      · rw [own0 i hi' hp] at hb''; cases hb''
    have inM : ∀ {F' : List (List Addr)} {G : List Addr}, (∀ i ∈ P, ∀ a ∈ F.getD i [], a ∈ F'.flatten) → ∀ b ∈ msk F G, b ∈ msk F' G := fun {F' G} hF b m => by
      rcases List.mem_append.mp m with m | m
      · exact List.mem_append_left _ (inF hF b m)
      · exact List.mem_append_right _ m
    cases hr' : mb (ds.map some ++ List.replicate (N.length - np) none) with
    | bad => rw [hr'] at hm; exact hm
    | bk e => rw [hr'] at hm; exact hm.elim
    | ct e => rw [hr'] at hm; exact hm.elim
    | exc a x e =>
      rw [hr'] at hm
      refine fun dx v σ' H' O2 F' S' hd hx => ?_
      have hF : ∀ i ∈ P, ∀ a ∈ F.getD i [], a ∈ F'.flatten := fun i hi a m => by
        refine getD_mem_flat (i := i) ?_
        rw [(S'.pin i hi).2]; exact m
      have e1 : Ex (hid H' (msk F' R)) (hid H' (msk F R)) := hid_sub (inM hF)
      exact hm dx v H' (S'.base.trn e1) (fun b m => (S'.rr b m).2) hd (Rp.ex e1 x hx)
    | nx e =>
      rw [hr'] at hm
      unfold toF at hm
      by_cases h0 : r = 0
      · simp only [h0, if_true] at hm
        refine fun σ' H' F' S' => ?_
        have hF : ∀ i ∈ P, ∀ a ∈ F.getD i [], a ∈ F'.flatten := fun i hi a m => by
          refine getD_mem_flat (i := i) ?_
          rw [(S'.pin i hi).2]; exact m
        have e1 : Ex (hid H' (msk F' R)) (hid H' (msk F R)) := hid_sub (inM hF)
        refine hm .non H' [] nd (S'.base.trn e1) (fun b m => (S'.rr b m).2) ⟨rfl, rfl⟩ fun i hi d' u hd hu => ?_
        have h := S'.io hJ hi hd
        rw [show β.pv i = u from getD_lt hu] at h
        exact h.frame e1 _ fun _ _ => rfl
      · simp only [h0, if_false] at hm
    | rt d e =>
      rw [hr'] at hm
      refine fun v H' fp F' R' => ?_
      have hF : ∀ i ∈ P, ∀ a ∈ F.getD i [], a ∈ F'.flatten := R'.pf
      have e1 : Ex (hid H' (msk F' (fp ++ R))) (hid H' (msk F (fp ++ R))) := hid_sub (inM hF)
      refine hm v H' fp ?_ (R'.base.trn e1) R'.rr (R'.own.frame e1 _ fun _ _ => rfl) fun i hi d' u hd hu => ?_
      · have n1 := (List.nodup_append.mp nd).1
        have n2 := List.nodup_append.mp R'.nd
        refine List.nodup_append.mpr ⟨n1, n2.2.1, fun a ma b mb => n2.2.2 a (inF hF a ma) b mb⟩
      · have h := R'.io i hi d' hd
        rw [show β.pv i = u from getD_lt hu] at h
        exact h.frame e1 _ fun _ _ => rfl
end

/-! ### calls -/
/-- an argument list: what is shared is evaluated, an owned local is handed in as it stands -/
def AgI (K : Fg) (Hm : Hp) (σ : L2.St) : List (Option Nat) → List D → List V → Prop
  | [], [], [] => True
  | none :: io, d :: ds, v :: vs => Rp K Hm d v ∧ AgI K Hm σ io ds vs
  | some i :: io, _ :: ds, v :: vs => σ[i]? = some (some v) ∧ AgI K Hm σ io ds vs
  | _, _, _ => False
structure MAI (X : Cx) (P O : List Nat) (W : WX) (b : Bool) (io : List (Option Nat)) (es : List Expr) (m : Mi (List D)) : Prop where
  run : ∃ t, PA X es t ∧ ∀ β F G env σ H Q, Stt X.K P O β F G env σ H →
    Pst X P O W β F G σ H b env (fun ds H' => ∀ vs, AgI X.K (hid H' (msk F G)) σ io ds vs → Q vs H') (m env) → t σ H Q
def mHole (i : Nat) : M := fun e => match e[i]? with | some (some _) => .ok .non e | _ => .bad
theorem AgI.ex {K : Fg} {Hm Hm' : Hp} {σ : L2.St} (e : Ex Hm Hm') : ∀ {io : List (Option Nat)} {ds : List D} {vs : List V}, AgI K Hm σ io ds vs → AgI K Hm' σ io ds vs
  | [], [], [], _ => trivial
  | none :: io, d :: ds, v :: vs, ⟨h1, h2⟩ => ⟨Rp.ex e d h1, AgI.ex e h2⟩
  | some i :: io, _ :: ds, v :: vs, ⟨h1, h2⟩ => ⟨h1, AgI.ex e h2⟩
  | [], _ :: _, _, h => h.elim
  | [], [], _ :: _, h => h.elim
  | none :: _, [], _, h => h.elim
  | none :: _, _ :: _, [], h => h.elim
  | some _ :: _, [], _, h => h.elim
  | some _ :: _, _ :: _, [], h => h.elim
section
variable {X : Cx} {P O : List Nat} {W : WX} {b b1 b2 : Bool} {a e : Expr} {es : List Expr} {ma : M} {ms : Mi (List D)} {io : List (Option Nat)} {pos p : Pos}
theorem mai_nil : MAI X P O W true [] [] mNil := ⟨_, pa_nil, fun β F G env σ H Q S p => p.here S [] trivial⟩
theorem mai_cons (ha : ME X P O W 0 b1 a ma) (hr : MAI X P O W b2 io es ms) (hs : starEach (a :: es) X.env = (false, eval a X.env) :: starEach es X.env := by rfl) : MAI X P O W (b1 && b2) (none :: io) (a :: es) (mCons ma ms) := by
  obtain ⟨ta, pa, ha⟩ := ha.run
  obtain ⟨tr, pr, hr⟩ := hr.run
  refine ⟨_, pa_cons pa pr hs, fun β F G env σ H Q S p => ?_⟩
  refine ha β F G env σ H _ S (p.bind fun d1 env1 H1 S1 x1 p1 q v1 r1 => ?_)
  refine hr β F G env1 σ H1 _ S1 (q.bindL fun ds env2 H2 S2 x2 p2 q2 vs r2 => ?_)
  exact q2.here S2 (v1 :: vs) ⟨Rp.ex x2.ex d1 r1, r2⟩
theorem mai_io (i : Nat) {x : Str} (hr : MAI X P O W b2 io es ms) (hN : X.N[i]? = some x := by rfl) (hv : Vis X.env.scope x := by first | exact Or.inl rfl | exact Or.inr (Or.inl rfl) | exact Or.inr (Or.inr rfl)) (hd : (x == ("__debug__" : Str)) = false := by decide)
    (hcd : (x == ("__classdict__" : Str)) = false := by decide) (hs : starEach (.Name x p :: es) X.env = (false, eval (.Name x p) X.env) :: starEach es X.env := by rfl) : MAI X P O W b2 (some i :: io) (.Name x p :: es) (mCons (mHole i) ms) := by
  obtain ⟨tr, pr, hr⟩ := hr.run
  refine ⟨_, pa_cons (pe_var hN hv hd hcd) pr hs, fun β F G env σ H Q S p => ?_⟩
  cases q : env[i]? with
  | none =>
    have : mCons (mHole i) ms env = .bad := by unfold mCons mHole; rw [q]; rfl
    rw [this] at p; exact p.elim
  | some o =>
    cases o with
    | none =>
      have : mCons (mHole i) ms env = .bad := by unfold mCons mHole; rw [q]; rfl
      rw [this] at p; exact p.elim
    | some d =>
      have e : mCons (mHole i) ms env = (ms env).bind fun xs e2 => .ok (D.non :: xs) e2 := by unfold mCons mHole; rw [q]; rfl
      rw [e] at p
      obtain ⟨v, h1, h2⟩ := S.slot i d q
      refine ⟨v, h1, hr β F G env σ H _ S (p.bindL fun ds env2 H2 S2 x2 p2 q2 vs r2 => ?_)⟩
      exact q2.here S2 (v :: vs) ⟨h1, r2⟩
/-- the arguments' data, the owned ones read when all are evaluated -/
def fillIO (e : Sl) : List (Option Nat) → List D → Option (List D)
  | [], [] => some []
  | none :: io, d :: ds => (fillIO e io ds).map (d :: ·)
  | some i :: io, _ :: ds => match e[i]? with | some (some d) => (fillIO e io ds).map (d :: ·) | _ => none
  | _, _ => none
/-- the owned arguments' slots behind the call -/
def putIO (ios : Sl) : List (Option Nat) → Nat → Sl → Option Sl
  | [], _, e => some e
  | none :: io, k, e => putIO ios io (k + 1) e
  | some i :: io, k, e => match ios[k]? with | some (some d) => putIO ios io (k + 1) (e.set i (some d)) | _ => none
def mCall (m : Fn) (io : List (Option Nat)) (dd : List D) (ms : Mi (List D)) : M := fun e => (ms e).bind fun ds e1 => match fillIO e1 io ds with
  | none => .bad
  | some as => match m (as ++ dd) with
    | .ok d ios => (match putIO ios io 0 e1 with | some e2 => .ok d e2 | none => .bad)
    | .exc c x => if io.all Option.isNone then .exc c x e1 else .bad
    | .bad => .bad
end
end M3

/-! MK -/
set_option Elab.async false
set_option linter.all false
set_option maxRecDepth 100000
set_option maxHeartbeats 4000000
namespace M3
open PySem PySem.Spec PyProof.Rows L2

def ioS : List (Option Nat) → List Nat
  | [] => []
  | none :: l => ioS l
  | some i :: l => i :: ioS l
theorem mem_ioS : ∀ {io : List (Option Nat)} {m i : Nat}, io[m]? = some (some i) → i ∈ ioS io
  | [], m, i, h => by simp at h
  | none :: l, 0, i, h => by simp at h
  | some j :: l, 0, i, h => by
    have e : j = i := by simpa using h
    subst e
    exact List.mem_cons_self
  | none :: l, m + 1, i, h => mem_ioS (io := l) (m := m) (by simpa using h)
  | some j :: l, m + 1, i, h => List.mem_cons_of_mem _ (mem_ioS (io := l) (m := m) (by simpa using h))
def okC (O P' J' : List Nat) (np nd : Nat) (io : List (Option Nat)) : Bool :=
  ((List.range np).all fun m => match io[m]? with
    | some (some i) => P'.contains m && (J'.getD m 0 == O.getD i 0)
    | _ => !P'.contains m && (J'.getD m 0 == 0)) && (decide (ioS io).Nodup && (io.length + nd == np))
theorem okC_some {O P' J' : List Nat} {np nd : Nat} {io : List (Option Nat)} (h : okC O P' J' np nd io = true) {m i : Nat} (hm : m < np) (e : io[m]? = some (some i)) : m ∈ P' ∧ J'.getD m 0 = O.getD i 0 := by
  unfold okC at h
  rw [Bool.and_eq_true] at h
  have q := (List.all_eq_true.mp h.1) m (List.mem_range.mpr hm)
  rw [e] at q
  simpa using q
theorem okC_none {O P' J' : List Nat} {np nd : Nat} {io : List (Option Nat)} (h : okC O P' J' np nd io = true) {m : Nat} (hm : m < np) (e : ∀ i, io[m]? ≠ some (some i)) : m ∉ P' ∧ J'.getD m 0 = 0 := by
  unfold okC at h
  rw [Bool.and_eq_true] at h
  have q := (List.all_eq_true.mp h.1) m (List.mem_range.mpr hm)
  split at q
  · exact absurd (by assumption) (e _)
  · simpa using q
theorem okC_nd {O P' J' : List Nat} {np nd : Nat} {io : List (Option Nat)} (h : okC O P' J' np nd io = true) : (ioS io).Nodup ∧ io.length + nd = np := by
  unfold okC at h
  rw [Bool.and_eq_true, Bool.and_eq_true] at h
  exact ⟨of_decide_eq_true h.2.1, by simpa using h.2.2⟩
/-- the callee's footprints -/
def fIO (F : List (List Addr)) (io : List (Option Nat)) : List (List Addr) := io.map fun o => match o with | some i => F.getD i [] | none => []
theorem io_uniq : ∀ {io : List (Option Nat)} {m m' i : Nat}, (ioS io).Nodup → io[m]? = some (some i) → io[m']? = some (some i) → m = m'
  | [], m, m', i, _, h, _ => by simp at h
  | o :: io, 0, 0, i, _, _, _ => rfl
  | o :: io, 0, m' + 1, i, n, h, h' => by
    have e : o = some i := by simpa using h
    subst e
    have h' : io[m']? = some (some i) := by simpa using h'
    exact absurd (mem_ioS h') (List.nodup_cons.mp n).1
  | o :: io, m + 1, 0, i, n, h, h' => by
    have e : o = some i := by simpa using h'
    subst e
    have h : io[m]? = some (some i) := by simpa using h
    exact absurd (mem_ioS h) (List.nodup_cons.mp n).1
  | o :: io, m + 1, m' + 1, i, n, h, h' => by
    have n' : (ioS io).Nodup := by
      cases o with
      | none => exact n
      | some j => exact (List.nodup_cons.mp n).2
    have e := io_uniq (i := i) (m := m) (m' := m') n' (by simpa using h) (by simpa using h')
    rw [e]
theorem fIO_sub {F : List (List Addr)} {io : List (Option Nat)} {a : Addr} (h : a ∈ (fIO F io).flatten) : a ∈ F.flatten := by
  obtain ⟨g, hg, ha⟩ := List.mem_flatten.mp h
  obtain ⟨o, _, rfl⟩ := List.mem_map.mp hg
  cases o with
  | none => cases ha
  | some i => exact getD_mem_flat ha
theorem fIO_mem {F : List (List Addr)} {io : List (Option Nat)} {a : Addr} (h : a ∈ (fIO F io).flatten) : ∃ (m i : Nat), io[m]? = some (some i) ∧ a ∈ F.getD i [] := by
  obtain ⟨g, hg, ha⟩ := List.mem_flatten.mp h
  obtain ⟨o, ho, rfl⟩ := List.mem_map.mp hg
  cases o with
  | none => cases ha
  | some i =>
    obtain ⟨m, hm⟩ := List.mem_iff_getElem?.mp ho
    exact ⟨m, i, hm, ha⟩
theorem getD_nodup {F : List (List Addr)} {i : Nat} (h : F.flatten.Nodup) : (F.getD i []).Nodup := by
  rw [List.getD_eq_getElem?_getD]
  cases e : F[i]? with
  | none => exact List.Pairwise.nil
  | some f => exact h.sublist (List.sublist_flatten_of_mem (List.mem_of_getElem? e))
theorem fIO_nodup {F : List (List Addr)} (hF : F.flatten.Nodup) : ∀ {io : List (Option Nat)}, (ioS io).Nodup → (fIO F io).flatten.Nodup
  | [], _ => List.Pairwise.nil
  | none :: io, h => fIO_nodup hF (io := io) h
  | some i :: io, h => by
    obtain ⟨h1, h2⟩ := List.nodup_cons.mp (show (i :: ioS io).Nodup from h)
    show (F.getD i [] ++ (fIO F io).flatten).Nodup
    refine List.nodup_append.mpr ⟨getD_nodup hF, fIO_nodup hF h2, fun a ha b hb e => ?_⟩
    subst e
    obtain ⟨m, j, hm, hj⟩ := fIO_mem hb
    have : i = j := flat_disj hF ha hj
    subst this
    exact h1 (mem_ioS hm)
section
variable {K : Fg} {P O : List Nat} {β : Bc} {F : List (List Addr)} {G : List Addr} {e1 e2 ios : Sl} {σ : L2.St} {H H1 : Hp} {io : List (Option Nat)} {ds as : List D} {vs : List V}
theorem args_own (S : Stt K P O β F G e1 σ H1) : ∀ {io : List (Option Nat)} {ds as : List D} {vs : List V}, AgI K (hid H1 (msk F G)) σ io ds vs → fillIO e1 io ds = some as → as.length = io.length ∧ vs.length = io.length ∧
    ∀ j, j < io.length → ∃ d v, as[j]? = some d ∧ vs[j]? = some v ∧ Own K (hid H1 (msk F G)) H1 (match io[j]? with | some (some i) => O.getD i 0 | _ => 0) d v ((fIO F io).getD j [])
  | [], [], as, [], _, h => by
    cases h
    exact ⟨rfl, rfl, fun j hj => absurd hj (by simp)⟩
  | none :: io, d :: ds, as, v :: vs, ⟨r, ag⟩, h => by
    unfold fillIO at h
    cases q : fillIO e1 io ds with
    | none => rw [q] at h; cases h
    | some as' =>
      rw [q] at h
      cases h
      obtain ⟨l1, l2, f⟩ := args_own S ag q
      refine ⟨by simp [l1], by simp [l2], fun j hj => ?_⟩
      cases j with
      | zero => exact ⟨d, v, rfl, rfl, rfl, r⟩
      | succ j =>
        obtain ⟨d', v', q1, q2, q3⟩ := f j (by simpa using hj)
        exact ⟨d', v', by simpa using q1, by simpa using q2, by simpa [fIO] using q3⟩
  | some i :: io, d :: ds, as, v :: vs, ⟨r, ag⟩, h => by
    unfold fillIO at h
    cases z : e1[i]? with
    | none => rw [z] at h; cases h
    | some o =>
      cases o with
      | none => rw [z] at h; cases h
      | some di =>
        rw [z] at h
        dsimp only at h
        cases q : fillIO e1 io ds with
        | none => rw [q] at h; cases h
        | some as' =>
          rw [q] at h
          cases h
          obtain ⟨l1, l2, f⟩ := args_own S ag q
          refine ⟨by simp [l1], by simp [l2], fun j hj => ?_⟩
          cases j with
          | zero =>
            obtain ⟨v', q1, q2⟩ := S.slot i di z
            rw [r] at q1
            cases q1
            exact ⟨di, v, rfl, rfl, q2⟩
          | succ j =>
            obtain ⟨d', v', q1, q2, q3⟩ := f j (by simpa using hj)
            exact ⟨d', v', by simpa using q1, by simpa using q2, by simpa [fIO] using q3⟩
  | [], _ :: _, _, _, h, _ => h.elim
  | [], [], _, _ :: _, h, _ => h.elim
  | none :: _, [], _, _, h, _ => h.elim
  | none :: _, _ :: _, _, [], h, _ => h.elim
  | some _ :: _, [], _, _, h, _ => h.elim
  | some _ :: _, _ :: _, _, [], h, _ => h.elim
theorem putIO_get : ∀ {io : List (Option Nat)} {k : Nat} {e1 e2 : Sl}, putIO ios io k e1 = some e2 → (ioS io).Nodup → e2.length = e1.length ∧
    (∀ m i : Nat, io[m]? = some (some i) → ∃ d, ios[k + m]? = some (some d)) ∧
    ∀ (j : Nat) (d : D), e2[j]? = some (some d) → (∃ m : Nat, io[m]? = some (some j) ∧ ios[k + m]? = some (some d)) ∨ ((∀ m : Nat, io[m]? ≠ some (some j)) ∧ e1[j]? = some (some d))
  | [], k, e1, e2, h, _ => by
    cases h
    exact ⟨rfl, fun m i h => by simp at h, fun j d q => .inr ⟨fun m => by simp, q⟩⟩
  | none :: io, k, e1, e2, h, n => by
    obtain ⟨h1, h2, h3⟩ := putIO_get (io := io) (k := k + 1) (e1 := e1) h n
    refine ⟨h1, fun m i q => ?_, fun j d q => ?_⟩
    · cases m with
      | zero => simp at q
      | succ m =>
        obtain ⟨d, z⟩ := h2 m i (by simpa using q)
        exact ⟨d, by rw [show k + (m + 1) = k + 1 + m by omega]; exact z⟩
    · rcases h3 j d q with ⟨m, q1, q2⟩ | ⟨q1, q2⟩
      · exact .inl ⟨m + 1, by simpa using q1, by rw [show k + (m + 1) = k + 1 + m by omega]; exact q2⟩
      · refine .inr ⟨fun m => ?_, q2⟩
        cases m with
        | zero => simp
        | succ m => simpa using q1 m
  | some i :: io, k, e1, e2, h, n => by
    obtain ⟨n1, n2⟩ := List.nodup_cons.mp (show (i :: ioS io).Nodup from n)
    unfold putIO at h
    cases z : ios[k]? with
    | none => rw [z] at h; cases h
    | some o =>
      cases o with
      | none => rw [z] at h; cases h
      | some di =>
        rw [z] at h
        obtain ⟨h1, h2, h3⟩ := putIO_get (io := io) (k := k + 1) (e1 := e1.set i (some di)) h n2
        rw [List.length_set] at h1
        refine ⟨h1, fun m j q => ?_, fun j d q => ?_⟩
        · cases m with
          | zero => exact ⟨di, z⟩
          | succ m =>
            obtain ⟨d, z⟩ := h2 m j (by simpa using q)
            exact ⟨d, by rw [show k + (m + 1) = k + 1 + m by omega]; exact z⟩
        · rcases h3 j d q with ⟨m, q1, q2⟩ | ⟨q1, q2⟩
          · exact .inl ⟨m + 1, by simpa using q1, by rw [show k + (m + 1) = k + 1 + m by omega]; exact q2⟩
          · by_cases e : i = j
            · subst e
              by_cases hl : i < e1.length
              · rw [List.getElem?_set_self hl] at q2
                cases q2
                exact .inl ⟨0, rfl, z⟩
              · rw [List.getElem?_eq_none (by rw [List.length_set]; omega)] at q2; cases q2
            · rw [List.getElem?_set_ne e] at q2
              refine .inr ⟨fun m => ?_, q2⟩
              cases m with
              | zero => simpa using e
              | succ m => simpa using q1 m
end

section
variable {X : Cx} {P O : List Nat} {W : WX} {b : Bool} {e : Expr} {es : List Expr} {ms : Mi (List D)} {io : List (Option Nat)} {pos p : Pos} {P' J' : List Nat} {r np k : Nat} {m : Fn} {f : Addr} {fd : FuncData} {ps : List Str} {x : Str} {ds : List Value} {dvs : List V} {dd : List D}
theorem call_sem {t : TA} {E : L2.St → XK} (ha : ∀ β F G env σ H Q, Stt X.K P O β F G env σ H → Pst X P O W β F G σ H b env (fun ds H' => ∀ vs, AgI X.K (hid H' (msk F G)) σ io ds vs → Q vs H') (ms env) → t σ H Q)
    (hE : ∀ σ cls d H, W cls d σ H → E σ cls d H) (hd : ∀ H, Rps X.K H dd dvs) (hc : okC O P' J' np dd.length io = true) :
    ∀ β F G env σ H Q, Stt X.K P O β F G env σ H → PstO X P O W β F G σ H r (b && io.all Option.isNone) env Q (mCall m io dd ms env) → tCallSD (spM X.K P' J' r np m) dvs E t σ H Q := by
  intro β F G env σ H Q S z
  refine ha β F G env σ H _ S ?_
  unfold mCall at z
  cases em : ms env with
  | bad => rw [em] at z; exact z
  | exc c x e => rw [em] at z; exact z
  | ok as0 e1 =>
    rw [em] at z
    intro H1 S1 x1 p1 vs ag
    obtain ⟨nio, lio⟩ := okC_nd hc
    have z : PstO X P O W β F G σ H r (b && io.all Option.isNone) env Q (match fillIO e1 io as0 with
      | none => .bad
      | some as => match m (as ++ dd) with
        | .ok d ios => (match putIO ios io 0 e1 with | some e2 => .ok d e2 | none => .bad)
        | .exc c x => if io.all Option.isNone then .exc c x e1 else .bad
        | .bad => .bad) := z
    cases ef : fillIO e1 io as0 with
    | none => rw [ef] at z; exact z.elim
    | some as =>
      rw [ef] at z
      dsimp only at z
      obtain ⟨la, lv, hown⟩ := args_own S1 ag ef
      have ndF : F.flatten.Nodup := (List.nodup_append.mp S1.nd).1
      -- what is hidden from the callee besides its own
      let R : List Addr := (msk F G).filter fun a => decide (a ∉ (fIO F io).flatten)
      let F' : List (List Addr) := fIO F io ++ dd.map fun _ => []
      have ddf : (dd.map fun _ => ([] : List Addr)).flatten = [] := by
        have g : ∀ l : List D, (l.map fun _ => ([] : List Addr)).flatten = [] := fun l => by
          induction l with
          | nil => rfl
          | cons _ _ ih => exact ih
        exact g dd
      have fF' : F'.flatten = (fIO F io).flatten := by
        show (fIO F io ++ dd.map fun _ => []).flatten = _
        rw [List.flatten_append, ddf, List.append_nil]
      have memR : ∀ a, a ∈ R ↔ a ∈ msk F G ∧ a ∉ (fIO F io).flatten := fun a => by
        show a ∈ (msk F G).filter _ ↔ _
        rw [List.mem_filter, decide_eq_true_iff]
      have memM : ∀ a, a ∈ msk F' R ↔ a ∈ msk F G := fun a => by
        show a ∈ F'.flatten ++ R ↔ _
        rw [fF', List.mem_append, memR]
        constructor
        · rintro (h | h)
          · exact List.mem_append_left _ (fIO_sub h)
          · exact h.1
        · intro h
          by_cases k : a ∈ (fIO F io).flatten
          · exact .inl k
          · exact .inr ⟨h, k⟩
      have memMf : ∀ fp a, a ∈ msk F' (fp ++ R) ↔ a ∈ msk F (fp ++ G) := fun fp a => by
        have h1 : a ∈ msk F' (fp ++ R) ↔ a ∈ fp ∨ a ∈ msk F' R := by
          simp only [msk, List.mem_append]
          constructor
          · rintro (h | h | h)
            · exact .inr (.inl h)
            · exact .inl h
            · exact .inr (.inr h)
          · rintro (h | h | h)
            · exact .inr (.inl h)
            · exact .inl h
            · exact .inr (.inr h)
        have h2 : a ∈ msk F (fp ++ G) ↔ a ∈ fp ∨ a ∈ msk F G := by
          simp only [msk, List.mem_append]
          constructor
          · rintro (h | h | h)
            · exact .inr (.inl h)
            · exact .inl h
            · exact .inr (.inr h)
          · rintro (h | h | h)
            · exact .inr (.inl h)
            · exact .inl h
            · exact .inr (.inr h)
        rw [h1, h2, memM]
      have eM : hid H1 (msk F' R) = hid H1 (msk F G) := hid_same memM
      have lF' : F'.length = np := by
        show (fIO F io ++ dd.map fun _ => []).length = np
        rw [List.length_append, List.length_map, ← lio]
        unfold fIO
        rw [List.length_map]
      have F'l : ∀ j, j < io.length → F'.getD j [] = (fIO F io).getD j [] := fun j hj => by
        rw [List.getD_eq_getElem?_getD, List.getElem?_append_left (by unfold fIO; rw [List.length_map]; exact hj), List.getD_eq_getElem?_getD]
      have F'at : ∀ j i, io[j]? = some (some i) → F'.getD j [] = F.getD i [] := fun j i h => by
        rw [F'l j (List.getElem?_eq_some_iff.mp h).1, List.getD_eq_getElem?_getD]
        unfold fIO
        rw [List.getElem?_map, h]; rfl
      have hv : (vs ++ dvs).length = np := by
        have := (hd H1).len
        rw [List.length_append, lv, this]; exact lio
      refine ⟨as ++ dd, F', R, hv, by rw [List.length_append, la]; exact lio, lF', ?_, fun a ma => S1.pres a ((memR a).mp ma).1, fun i hi => ?_, ?_⟩
      · show (F'.flatten ++ R).Nodup
        rw [fF']
        exact List.nodup_append.mpr ⟨fIO_nodup ndF nio, S1.nd.sublist (List.filter_sublist), fun a ha c hcR e => ((memR c).mp hcR).2 (e ▸ ha)⟩
      · by_cases h : i < io.length
        · obtain ⟨d, v, q1, q2, q3⟩ := hown i h
          refine ⟨d, v, by rw [List.getElem?_append_left (by omega)]; exact q1, by rw [List.getElem?_append_left (by omega)]; exact q2, ?_⟩
          rw [F'l i h, eM]
          cases eo : io[i]? with
          | none => exact absurd (List.getElem?_eq_none_iff.mp eo) (by omega)
          | some o =>
            cases o with
            | none =>
              rw [eo] at q3
              rw [(okC_none hc hi fun j => by rw [eo]; simp).2]
              exact q3
            | some j =>
              rw [eo] at q3
              rw [(okC_some hc hi eo).2]
              exact q3
        · have hn : io[i]? = none := List.getElem?_eq_none_iff.mpr (by omega)
          have hj : i - io.length < dd.length := by omega
          obtain ⟨v, q1, q2⟩ := (hd (hid H1 (msk F' R))).get (List.getElem?_eq_getElem hj)
          refine ⟨dd[i - io.length], v, by rw [List.getElem?_append_right (by omega), la]; exact List.getElem?_eq_getElem hj, by rw [List.getElem?_append_right (by omega), lv]; exact q1, ?_⟩
          rw [(okC_none hc hi fun j => by rw [hn]; simp).2]
          refine ⟨?_, q2⟩
          rw [List.getD_eq_getElem?_getD, List.getElem?_append_right (by unfold fIO; rw [List.length_map]; omega), List.getElem?_map]
          cases dd[i - (fIO F io).length]? <;> rfl
      · cases hm : m (as ++ dd) with
        | bad => rw [hm] at z; exact z
        | exc c x =>
          rw [hm] at z
          dsimp only at z
          split at z
          · rename_i hall
            refine fun dx v H' q1 q2 q3 q4 => hE σ _ _ _ ?_
            have fe : (fIO F io).flatten = [] := by
              refine List.eq_nil_iff_forall_not_mem.mpr fun a ma => ?_
              obtain ⟨mm, i, h1, _⟩ := fIO_mem ma
              have := (List.all_eq_true.mp hall) _ (List.mem_of_getElem? h1)
              cases this
            have eM' : hid H' (msk F' R) = hid H' (msk F G) := hid_same memM
            rw [eM, eM'] at q1
            rw [eM'] at q4
            have q2' : ∀ a ∈ msk F G, H' a = H1 a := fun a ma => q2 a ((memR a).mpr ⟨ma, by rw [fe]; simp⟩)
            exact z dx v H' (S1.grow q1 q2') (x1.ex.trn q1) q3 q4
          · exact z.elim
        | ok d ios =>
          rw [hm] at z
          dsimp only at z
          cases ep : putIO ios io 0 e1 with
          | none => rw [ep] at z; exact z.elim
          | some e2 =>
            rw [ep] at z
            obtain ⟨le2, hio, hget⟩ := putIO_get ep nio
            intro v H' fp q1 q2 q3 q4 q5
            have eMf : hid H' (msk F' (fp ++ R)) = hid H' (msk F (fp ++ G)) := hid_same (memMf fp)
            rw [eM, eMf] at q2
            rw [eMf] at q4 q5
            have nfp : ∀ a ∈ fp, a ∉ msk F G := fun a ma mg => by
              rcases List.mem_append.mp ((memM a).mpr mg) with h | h
              · exact (List.nodup_append.mp q1).2.2 a h a (List.mem_append_left _ ma) rfl
              · exact (List.nodup_append.mp (List.nodup_append.mp q1).2.1).2.2 a ma a h rfl
            have notin : ∀ {j : Nat} {a : Addr}, (∀ mm, io[mm]? ≠ some (some j)) → a ∈ F.getD j [] → a ∈ R := fun {j a} hj ha => (memR a).mpr ⟨List.mem_append_left _ (getD_mem_flat ha), fun h => by
              obtain ⟨mm, i, h1, h2⟩ := fIO_mem h
              have : i = j := flat_disj ndF h2 ha
              subst this
              exact hj mm h1⟩
            have ownio : ∀ mm i, io[mm]? = some (some i) → ∃ d' w, ios[mm]? = some (some d') ∧ σ[i]? = some (some w) ∧ Own X.K (hid H' (msk F (fp ++ G))) H' (O.getD i 0) d' w (F.getD i []) := fun mm i h => by
              have hlt : mm < io.length := (List.getElem?_eq_some_iff.mp h).1
              obtain ⟨d', hd'⟩ := hio mm i h
              rw [Nat.zero_add] at hd'
              obtain ⟨hp', hj'⟩ := okC_some hc (show mm < np by omega) h
              have hvs : ∃ w, vs[mm]? = some w ∧ σ[i]? = some (some w) := by
                clear z q5 hown hv
                revert h hlt ag ef
                clear hio hget ep la lv hm
                have gen : ∀ {io : List (Option Nat)} {ds : List D} {vs : List V} {mm : Nat}, AgI X.K (hid H1 (msk F G)) σ io ds vs → io[mm]? = some (some i) → ∃ w, vs[mm]? = some w ∧ σ[i]? = some (some w) := by
                  intro io
                  induction io with
                  | nil => intro ds vs mm _ h; simp at h
                  | cons o io ih =>
                    intro ds vs mm ag h
                    cases ds with
                    | nil => cases o <;> exact ag.elim
                    | cons d ds =>
                      cases vs with
                      | nil => cases o <;> exact ag.elim
                      | cons v vs =>
                        cases mm with
                        | zero =>
                          have e : o = some i := by simpa using h
                          subst e
                          exact ⟨v, rfl, ag.1⟩
                        | succ mm =>
                          cases o with
                          | none =>
                            obtain ⟨w, h1, h2⟩ := ih ag.2 (by simpa using h)
                            exact ⟨w, by simpa using h1, h2⟩
                          | some j =>
                            obtain ⟨w, h1, h2⟩ := ih ag.2 (by simpa using h)
                            exact ⟨w, by simpa using h1, h2⟩
                intro h hlt ag _
                exact gen h ag
              obtain ⟨w, hw, hσ⟩ := hvs
              have o := q5 mm hp' d' w hd' (by rw [List.getElem?_append_left (by omega)]; exact hw)
              rw [hj', F'at mm i h] at o
              exact ⟨d', w, hd', hσ, o⟩
            have S2 : Stt X.K P O β F (fp ++ G) e2 σ H' := by
              refine ⟨by rw [le2]; exact S1.len, by rw [le2]; exact S1.olen, by rw [le2]; exact S1.flen, ?_, fun a ma => ?_, S1.base.trn q2, fun j d' hj => ?_, S1.pin, S1.z, fun a ma => ⟨List.mem_append_right _ (S1.rr a ma).1, ?_⟩⟩
              · have n3 := List.nodup_append.mp q1
                have n4 := List.nodup_append.mp n3.2.1
                have n5 := List.nodup_append.mp S1.nd
                refine List.nodup_append.mpr ⟨n5.1, List.nodup_append.mpr ⟨n4.1, n5.2.1, fun a ha c hc' e => nfp a ha (e ▸ List.mem_append_right _ hc')⟩, fun a ha c hc' e => ?_⟩
                subst e
                rcases List.mem_append.mp hc' with h | h
                · exact nfp a h (List.mem_append_left _ ha)
                · exact n5.2.2 a ha a h rfl
              · rcases List.mem_append.mp ((memMf fp a).mpr ma) with h | h
                · rw [fF'] at h
                  obtain ⟨mm, i, h1, h2⟩ := fIO_mem h
                  obtain ⟨d', w, _, _, o⟩ := ownio mm i h1
                  exact o.pres _ a h2
                · rcases List.mem_append.mp h with h | h
                  · exact q4.pres _ a h
                  · rw [q3 a h]
                    exact S1.pres a ((memR a).mp h).1
              · rcases hget j d' hj with ⟨mm, h1, h2⟩ | ⟨h1, h2⟩
                · obtain ⟨d2, w, h3, h4, o⟩ := ownio mm j h1
                  rw [Nat.zero_add] at h2
                  rw [h2] at h3
                  cases h3
                  exact ⟨w, h4, o⟩
                · obtain ⟨w, h3, o⟩ := S1.slot j d' h2
                  exact ⟨w, h3, o.frame q2 _ fun a ha => q3 a (notin h1 ha)⟩
              · rw [q3 a ((memR a).mpr ⟨List.mem_append_right _ (S1.rr a ma).1, fun h => (List.nodup_append.mp S1.nd).2.2 a (fIO_sub h) a (S1.rr a ma).1 rfl⟩)]
                exact (S1.rr a ma).2
            refine z v H' fp S2 (x1.tro ⟨q2, fun a ma => q3 a ((memR a).mpr ⟨List.mem_append_right _ ma, fun h => (List.nodup_append.mp S1.nd).2.2 a (fIO_sub h) a ma rfl⟩)⟩) (fun hb => ?_) q4
            rw [Bool.and_eq_true] at hb
            obtain ⟨e3, e4⟩ := p1 hb.1
            have fe : (fIO F io).flatten = [] := by
              refine List.eq_nil_iff_forall_not_mem.mpr fun a ma => ?_
              obtain ⟨mm, i, h1, _⟩ := fIO_mem ma
              have := (List.all_eq_true.mp hb.2) _ (List.mem_of_getElem? h1)
              cases this
            have e5 : e2 = e1 := by
              have h : ∀ (io : List (Option Nat)) (k : Nat), io.all Option.isNone = true → putIO ios io k e1 = some e1 := by
                intro io
                induction io with
                | nil => intro k _; rfl
                | cons o io ih =>
                  intro k h
                  cases o with
                  | none => exact ih (k + 1) h
                  | some j => cases h
              rw [h io 0 hb.2] at ep
              cases ep; rfl
            refine ⟨by rw [e5]; exact e3, e4.trn fun a o ho => ?_⟩
            by_cases h : a ∈ msk F G
            · rw [q3 a ((memR a).mpr ⟨h, by rw [fe]; simp⟩)]; exact ho
            · have := q2 a o (by rw [hid_out h]; exact ho)
              exact hid_le a o this
theorem mo_call (G0 : FnG X.prog X.w X.K X.mg X.base (L2.CX X.prog X.w) k f fd ps (spM X.K P' J' r np m)) (hr : RoomG k X.A) (hm : X.mg x = some (.ref f)) (hk : PySem.W.keepIn X.K (.ref f) = true) (hb : Binds X.K fd ps ds) (hv : Vals dvs ds) (hd : ∀ H, Rps X.K H dd dvs) (tk : Takes X W)
    (ha : MAI X P O W b io (e :: es) ms) (hc : okC O P' J' np dd.length io = true := by rfl) (hg : Gl X x := by rfl) (hdb : (x == ("__debug__" : Str)) = false := by decide) (he : starEach (e :: es) X.env = (false, eval e X.env) :: starEach es X.env := by rfl) (hpl : (backTo pos (starEach es X.env)).any (·.1) = false := by rfl) :
    MO X P O W r (b && io.all Option.isNone) (.Call (.Name x p) (e :: es) [] pos) (mCall m io dd ms) := by
  obtain ⟨t, pa, ha⟩ := ha.run
  exact ⟨_, pe_callG G0 hr hg hm hk hb hv (E := WE W) (fun σ => passAt tk σ) pa hdb he hpl, call_sem ha (fun _ _ _ _ h => h) hd hc⟩
end
end M3

/-! MK2 -/
set_option Elab.async false
set_option linter.all false
set_option maxRecDepth 100000
set_option maxHeartbeats 4000000
namespace M3
open PySem PySem.Spec PyProof.Rows L2

/-! ### calls by keywords alone -/
structure MKs (X : Cx) (P O : List Nat) (W : WX) (b : Bool) (kws : List Keyword) (m : Mi (List D)) : Prop where
  run : ∃ t, PK X kws t ∧ ∀ β F G env σ H Q, Stt X.K P O β F G env σ H →
    Pst X P O W β F G σ H b env (fun ds H' => ∀ vs, Rps X.K (hid H' (msk F G)) ds vs → Q vs H') (m env) → t σ H Q
section
variable {X : Cx} {P O : List Nat} {W : WX} {b b1 b2 : Bool} {a e : Expr} {kws : List Keyword} {ma : M} {ms : Mi (List D)} {pos p kpos : Pos} {nm : Option Str}
theorem mks_nil : MKs X P O W true [] mNil := ⟨_, pk_nil, fun β F G env σ H Q S p => p.here S [] rfl⟩
theorem mks_cons (ha : ME X P O W 0 b1 a ma) (hr : MKs X P O W b2 kws ms) : MKs X P O W (b1 && b2) (⟨nm, a, kpos⟩ :: kws) (mCons ma ms) := by
  obtain ⟨ta, pa, ha⟩ := ha.run
  obtain ⟨tr, pr, hr⟩ := hr.run
  refine ⟨_, pk_cons pa pr, fun β F G env σ H Q S p => ?_⟩
  refine ha β F G env σ H _ S (p.bind fun d1 env1 H1 S1 x1 p1 q v1 r1 => ?_)
  refine hr β F G env1 σ H1 _ S1 (q.bindL fun ds env2 H2 S2 x2 p2 q2 vs r2 => ?_)
  exact q2.here S2 (v1 :: vs) ⟨v1, vs, rfl, Rp.ex x2.ex d1 r1, r2⟩
/-- the values in the parameters' order -/
def permO : List Nat → List D → Option (List D)
  | [], _ => some []
  | j :: pm, ds => match ds[j]? with | some d => (permO pm ds).map (d :: ·) | none => none
def mPerm (pm : List Nat) (ms : Mi (List D)) : Mi (List D) := fun e => (ms e).bind fun ds e1 => liftO (if ds.length = pm.length then permO pm ds else none) e1
def gPm (pm : List Nat) (n : Nat) (us ws : List Value) : List Value := if us.length = 0 ∧ ws.length = n then pm.map fun j => ws.getD j .none else []
def gPmV (pm : List Nat) (n : Nat) (vs zs : List V) : List V := if vs.length = 0 ∧ zs.length = n then pm.map fun j => zs.getD j .non else []
theorem kb_perm {K : Fg} {fd : FuncData} {ps ks : List Str} {pm : List Nat} {n : Nat} (hp : ps ≠ []) (hn : ks.length = n) (h : ∀ ws : List Value, ws.length = n → bindArgs fd ⟨[], ks.zip ws⟩ = pure (ps.zip (pm.map fun j => ws.getD j .none))) : KBinds K fd ps ks (gPm pm n) (gPmV pm n) := by
  refine ⟨fun s us ws _ hl => ?_, fun {vs us zs ws} r1 r2 => ?_⟩
  · unfold gPm at hl ⊢
    split at hl
    · rename_i hh
      rw [if_pos hh]
      have e : us = [] := List.eq_nil_of_length_eq_zero hh.1
      subst e
      exact .of_eq (h ws hh.2)
    · exact absurd (List.eq_nil_of_length_eq_zero hl.symm) hp
  · have g : ∀ pm : List Nat, Vals (pm.map fun j => zs.getD j .non) (pm.map fun j => ws.getD j .none) := fun pm => by
      induction pm with
      | nil => exact .nil
      | cons j pm ih =>
        refine .cons ?_ ih
        show L2.RelV (zs.getD j .non) (ws.getD j .none)
        rw [List.getD_eq_getElem?_getD, List.getD_eq_getElem?_getD]
        cases q : zs[j]? with
        | none => rw [r2.none_of q]; rfl
        | some z =>
          obtain ⟨u, h1, h2⟩ := r2.get q
          rw [h1]; exact h2
    unfold gPm gPmV
    rw [r1.length, r2.length]
    split
    · exact g pm
    · exact .nil
def tCallK0 (sp : Sp) (gV : List V → List V → List V) (E : XK) (tk : TA) : TE := fun σ H Q => tk σ H fun zs H2 => sp (gV [] zs) H2 Q E
theorem pe_callK0 {CX : CXT} {k : Nat} {f : Addr} {fd : FuncData} {ps ks : List Str} {sp : Sp} {E : XK} {x : Str} {tk : TA} {g : List Value → List Value → List Value} {gV : List V → List V → List V} (F : FnG X.prog X.w X.K X.mg X.base CX k f fd ps sp) (hr : RoomG k X.A) (hg : Gl X x) (hm : X.mg x = some (.ref f)) (hk : PySem.W.keepIn X.K (.ref f) = true) (hb : KBinds X.K fd ps ks g gV) (hx : Passes CX X E) (hkw : PK X kws tk)
    (hall : (backToKw pos (keywordEach kws X.env)).all (·.1.isSome) = true := by rfl) (hks : (backToKw pos (keywordEach kws X.env)).filterMap (·.1) = ks := by rfl) (hdb : (x == ("__debug__" : Str)) = false := by decide)
    (hpl : ((backTo pos (starEach [] X.env)).any (·.1) || (backToKw pos (keywordEach kws X.env)).any (·.1.isNone)) = false := by rfl) : PE X (.Call (.Name x p) [] kws pos) (tCallK0 sp gV E tk) := by
  constructor
  intro pins s0 σ H Q I0 h
  refine wpAny_Call_Name_kw (ld_glob I0 hg hm ?_ hdb)
  refine PySem.W.callWith_KW0 (h₀ := X.base) I0.ok.mod.kin hk hall (thn (hkw.run pos pins s0 σ H _ I0 h) fun us sh hh => ?_) hpl
  obtain ⟨zs, H2, I2, rz, q2⟩ := hh
  refine ⟨I2.kIn, ?_⟩
  rw [hks]
  exact run_kwG F hr hb hx I2 .nil rz q2
def mQt (m : M) : M := fun e => (m e).nox
def ioN (n : Nat) : List (Option Nat) := List.replicate n none
theorem mo_callK {P' J' : List Nat} {r np k : Nat} {m : Fn} {f : Addr} {fd : FuncData} {ps ks : List Str} {x : Str} {pm : List Nat} (G0 : FnG X.prog X.w X.K X.mg X.base (L2.CX X.prog X.w) k f fd ps (spM X.K P' J' r np m)) (hr : RoomG k X.A) (hm : X.mg x = some (.ref f)) (hk : PySem.W.keepIn X.K (.ref f) = true) (hb : KBinds X.K fd ps ks (gPm pm pm.length) (gPmV pm pm.length))
    (ha : MKs X P O W0 b kws ms) (hc : okC O P' J' np 0 (ioN pm.length) = true := by rfl) (hlen : kws.length = pm.length := by rfl) (hg : Gl X x := by rfl)
    (hall : (backToKw pos (keywordEach kws X.env)).all (·.1.isSome) = true := by rfl) (hks : (backToKw pos (keywordEach kws X.env)).filterMap (·.1) = ks := by rfl) (hdb : (x == ("__debug__" : Str)) = false := by decide)
    (hpl : ((backTo pos (starEach [] X.env)).any (·.1) || (backToKw pos (keywordEach kws X.env)).any (·.1.isNone)) = false := by rfl) :
    MO X P O W r (b && (ioN pm.length).all Option.isNone) (.Call (.Name x p) [] kws pos) (mQt (mCall m (ioN pm.length) [] (mPerm pm ms))) := by
  obtain ⟨t, pk, ha⟩ := ha.run
  refine ⟨_, pe_callK0 G0 hr hg hm hk hb (E := E0) passL pk hall hks hdb hpl, fun β F G env σ H Q S z => ?_⟩
  have z : PstO X P O W0 β F G σ H r (b && (ioN pm.length).all Option.isNone) env Q (mCall m (ioN pm.length) [] (mPerm pm ms) env) := by
    have z : PstO X P O W β F G σ H r (b && (ioN pm.length).all Option.isNone) env Q (mCall m (ioN pm.length) [] (mPerm pm ms) env).nox := z
    cases e : mCall m (ioN pm.length) [] (mPerm pm ms) env with
    | ok d e1 => rw [e] at z; exact z
    | exc c x e1 => rw [e] at z; exact z.elim
    | bad => rw [e] at z; exact z.elim
  have q := call_sem (X := X) (W := W0) (E := fun _ => E0) (dvs := []) (dd := []) (t := fun σ H Q => t σ H fun zs H' => Q (gPmV pm pm.length [] zs) H') (ms := mPerm pm ms) (b := b) (io := ioN pm.length) (fun β F G env σ H Q S z => ?_) (fun _ _ _ _ h => h) (fun H => rfl) hc β F G env σ H Q S z
  · have q : t σ H fun zs H' => spM X.K P' J' r np m (gPmV pm pm.length [] zs ++ []) H' Q E0 := q
    simp only [List.append_nil] at q
    exact q
  · refine ha β F G env σ H _ S (z.bindL fun ds env1 H1 S1 x1 p1 q vs r1 => ?_)
    obtain ⟨as, e1, q3⟩ := q.lift
    by_cases hdl : ds.length = pm.length
    case neg => rw [if_neg hdl] at e1; cases e1
    rw [if_pos hdl] at e1
    refine q3.here S1 _ ?_
    have gen : ∀ (pm : List Nat) (as : List D), permO pm ds = some as → AgI X.K (hid H1 (msk F G)) σ (ioN pm.length) as (pm.map fun j => vs.getD j .non) := by
      intro pm
      induction pm with
      | nil => intro as h; cases h; exact trivial
      | cons j pm ih =>
        intro as h
        unfold permO at h
        cases q : ds[j]? with
        | none => rw [q] at h; cases h
        | some d =>
          rw [q] at h
          dsimp only at h
          cases q2 : permO pm ds with
          | none => rw [q2] at h; cases h
          | some as' =>
            rw [q2] at h
            cases h
            obtain ⟨v, h1, h2⟩ := r1.get q
            refine ⟨?_, ih as' q2⟩
            show Rp X.K _ d (vs.getD j .non)
            rw [getD_lt h1]; exact h2
    have := gen pm as e1
    unfold gPmV
    rw [if_pos ⟨rfl, r1.len.trans hdl⟩]
    exact this
end
theorem fun_kb {K : PySem.W.Frag} {x qual : Str} {st : Stmt} {f : Addr} {fd : FuncData} {ps ks : List Str} {pm : List Nat} {n : Nat} (F : Fun K x qual st f fd) (hp : ps ≠ []) (hn : ks.length = n)
    (h : ∀ (kV doc pmm : Value) (an : Option Addr) (cdv ct : Value) (ws : List Value), ws.length = n → bindArgs (PySem.W.fnOf x qual (defArgs st) (defBody st) (defScope st) .none kV doc pmm an cdv ct) ⟨[], ks.zip ws⟩ = pure (ps.zip (pm.map fun j => ws.getD j .none))) :
    KBinds K fd ps ks (gPm pm n) (gPmV pm n) := by
  obtain ⟨oc, od, kV, doc, pmm, an, cdv, ct, osl, rfl, lk, hcd⟩ := F.ex
  exact kb_perm hp hn (h kV doc pmm an cdv ct)
theorem fn_bad {Pg : Program} {w : World} {K : PySem.W.Frag} {mg : Str → Option Value} {base : Heap} {k : Nat} {f : Addr} {fd : FuncData} {ps : List Str} {P J : List Nat} {r np : Nat}   : FnG Pg w K mg base (L2.CX Pg w) k f fd ps (spM K P J r np fun _ => .bad) :=
  ⟨fun vs H Q E h => (by obtain ⟨_, _, _, _, _, _, _, _, _, h⟩ := h; exact h.elim), fun _ _ _ _ h => (by obtain ⟨_, _, _, _, _, _, _, _, _, h⟩ := h; exact h.elim)⟩
end M3

/-! MW -/
set_option Elab.async false
set_option linter.all false
set_option maxRecDepth 100000
set_option maxHeartbeats 4000000
namespace M3
open PySem PySem.Spec PyProof.Rows L2

/-! ### what a mirror comes to -/
def RP {α : Type} (r : Rs α) (Q : α → Sl → Prop) : Prop := match r with | .ok a e => Q a e | _ => False
def OP {α : Type} (o : Option α) (Q : α → Prop) : Prop := match o with | some a => Q a | none => False
structure KS where
  nx : Sl → Prop
  rt : D → Sl → Prop
  bk : Sl → Prop
  ct : Sl → Prop
def SP (r : SRs) (k : KS) : Prop := match r with | .nx e => k.nx e | .rt d e => k.rt d e | .bk e => k.bk e | .ct e => k.ct e | _ => False
def FP (r : FRs) (Q : D → Sl → Prop) : Prop := match r with | .ok d e => Q d e | _ => False
def BP (d : D) (A B : Prop) : Prop := match d with | .bl true => A | .bl false => B | _ => False
def BQ (d : D) (F : Bool → Prop) : Prop := match d with | .bl k => F k | _ => False
theorem RP.mono {α : Type} {r : Rs α} {Q R : α → Sl → Prop} (h : RP r Q) (k : ∀ a e, Q a e → R a e) : RP r R := by
  cases r with
  | ok a e => exact k a e h
  | _ => exact h
theorem OP.mono {α : Type} {r : Option α} {Q R : α → Prop} (h : OP r Q) (k : ∀ a, Q a → R a) : OP r R := by
  cases r with
  | some a => exact k a h
  | _ => exact h
theorem FP.mono {r : FRs} {Q R : D → Sl → Prop} (h : FP r Q) (k : ∀ a e, Q a e → R a e) : FP r R := by
  cases r with
  | ok a e => exact k a e h
  | _ => exact h
theorem SP.mono {r : SRs} {Q R : KS} (h : SP r Q) (kn : ∀ e, Q.nx e → R.nx e) (kr : ∀ d e, Q.rt d e → R.rt d e) (kb : ∀ e, Q.bk e → R.bk e) (kc : ∀ e, Q.ct e → R.ct e) : SP r R := by
  cases r with
  | nx e => exact kn e h
  | rt d e => exact kr d e h
  | bk e => exact kb e h
  | ct e => exact kc e h
  | _ => exact h
section
variable {α : Type} {e : Sl} {Q : D → Sl → Prop} {QL : List D → Sl → Prop} {QM : α → Sl → Prop} {k : KS} {i j : Nat} {a b c m : M} {ms src : Mi (List D)} {s s1 s2 : MSt}
theorem RP_ok {a : α} : RP (.ok a e) QM = QM a e := rfl
theorem RP_bind {β : Type} {r : Rs β} {f : β → Sl → Rs α} : RP (r.bind f) QM = RP r fun x e1 => RP (f x e1) QM := by cases r <;> rfl
theorem RP_nox {r : Rs α} : RP r.nox QM = RP r QM := by cases r <;> rfl
theorem RP_lift {o : Option α} : RP (liftO o e) QM = OP o fun a => QM a e := by cases o <;> rfl
theorem RP_var {d : D} (h : e[i]? = some (some d)) : RP (mVar i e) Q = Q d e := by unfold mVar; rw [h]; rfl
theorem RP_hole {d : D} (h : e[i]? = some (some d)) : RP (mHole i e) Q = Q .non e := by unfold mHole; rw [h]; rfl
theorem RP_c {d : D} : RP (mC d e) Q = Q d e := rfl
theorem RP_1 {f : D → Option D} : RP (m1 f a e) Q = RP (a e) fun x e1 => OP (f x) fun z => Q z e1 := by
  unfold m1; rw [RP_bind]; simp only [RP_lift]
theorem RP_2 {f : D → D → Option D} : RP (m2 f a b e) Q = RP (a e) fun x e1 => RP (b e1) fun y e2 => OP (f x y) fun z => Q z e2 := by
  unfold m2; simp only [RP_bind, RP_lift]
theorem RP_f {f : List D → Option D} : RP (mf f ms e) Q = RP (ms e) fun x e1 => OP (f x) fun z => Q z e1 := by
  unfold mf; simp only [RP_bind, RP_lift]
theorem RP_nil : RP (mNil e) QL = QL [] e := rfl
theorem RP_cons : RP (mCons a ms e) QL = RP (a e) fun x e1 => RP (ms e1) fun xs e2 => QL (x :: xs) e2 := by
  unfold mCons; simp only [RP_bind, RP_ok]
theorem RP_mat {d : D} {r1 r2 : Rs α} : RP (match d with | .bl true => r1 | .bl false => r2 | _ => .bad) QM = BP d (RP r1 QM) (RP r2 QM) := by
  cases d with
  | bl t => cases t <;> rfl
  | _ => rfl
theorem RP_if : RP (mIf c a b e) Q = RP (c e) fun x e1 => BP x (RP (a e1) Q) (RP (b e1) Q) := by
  unfold mIf; rw [RP_bind]; congr; funext x e1; exact RP_mat
theorem RP_and : RP (mAnd a b e) Q = RP (a e) fun x e1 => BP x (RP (b e1) Q) (Q (.bl false) e1) := by
  unfold mAnd; rw [RP_bind]; congr; funext x e1; exact RP_mat
theorem RP_or : RP (mOr a b e) Q = RP (a e) fun x e1 => BP x (Q (.bl true) e1) (RP (b e1) Q) := by
  unfold mOr; rw [RP_bind]; congr; funext x e1; exact RP_mat
theorem RP_not : RP (mNot a e) Q = RP (a e) fun x e1 => BQ x fun t => Q (.bl !t) e1 := by
  unfold mNot; rw [RP_bind]; congr; funext x e1; cases x <;> rfl
theorem RP_B : RP (mB a e) Q = RP (a e) fun x e1 => BQ x fun t => Q (.bl t) e1 := by
  unfold mB; rw [RP_bind]; congr; funext x e1; cases x <;> rfl
theorem RP_qt : RP (mQt a e) Q = RP (a e) Q := RP_nox
theorem RP_perm {pm : List Nat} : RP (mPerm pm ms e) QL = RP (ms e) fun ds e1 => OP (if ds.length = pm.length then permO pm ds else none) fun z => QL z e1 := by
  unfold mPerm; simp only [RP_bind, RP_lift]
theorem RP_pn {Q : Option Int → Sl → Prop} : RP (mPn e) Q = Q none e := rfl
theorem RP_ps {Q : Option Int → Sl → Prop} : RP (mPs a e) Q = RP (a e) fun x e1 => match x with | .int i => Q (some i) e1 | _ => False := by
  unfold mPs; rw [RP_bind]; congr; funext x e1; cases x <;> rfl
theorem RP_sl {ml mh : Mi (Option Int)} : RP (mSl a ml mh e) Q = RP (a e) fun x e1 => RP (ml e1) fun lo e2 => RP (mh e2) fun hi e3 => OP (D.sl x lo hi) fun z => Q z e3 := by
  unfold mSl; simp only [RP_bind, RP_lift]
theorem RP_call {f : Fn} {io : List (Option Nat)} {dd : List D} : RP (mCall f io dd ms e) Q = RP (ms e) fun ds e1 => OP (fillIO e1 io ds) fun as => FP (f (as ++ dd)) fun d ios => OP (putIO ios io 0 e1) fun e2 => Q d e2 := by
  unfold mCall; rw [RP_bind]; congr; funext x e1
  cases fillIO e1 io x with
  | none => rfl
  | some as =>
    show RP (match f (as ++ dd) with | .ok d ios => _ | .exc c x => _ | .bad => _) Q = FP (f (as ++ dd)) _
    cases f (as ++ dd) with
    | ok d ios =>
      dsimp only [FP]
      cases putIO ios io 0 e1 <;> rfl
    | exc c x => dsimp only [FP]; split <;> rfl
    | bad => rfl
theorem RP_src : RP (iSrc a e) QL = RP (a e) fun x e1 => match x with | .lst l => QL l e1 | .tup l => QL l e1 | _ => False := by
  unfold iSrc; rw [RP_bind]; congr; funext x e1; cases x <;> rfl
theorem RP_r1 : RP (iR1 ms e) QL = RP (ms e) fun x e1 => match x with | [.int j] => rOk j ∧ QL (rngD 0 j.toNat) e1 | _ => False := by
  unfold iR1; rw [RP_bind]; congr; funext x e1
  split
  · split
    · rename_i h; simp only [RP, h, true_and]
    · rename_i h; simp only [RP, h, false_and]
  · rename_i h
    first
    | rfl
    | (split
       · exact absurd rfl (h _)
       · rfl)
theorem RP_r2 : RP (iR2 ms e) QL = RP (ms e) fun x e1 => match x with | [.int i, .int j] => (rOk i ∧ rOk j) ∧ QL (rngD i (j - i).toNat) e1 | _ => False := by
  unfold iR2; rw [RP_bind]; congr; funext x e1
  split
  · split
    · rename_i h; simp only [RP, h, true_and]
    · rename_i h; simp only [RP, h, false_and]
  · rename_i h
    first
    | rfl
    | (split
       · exact absurd rfl (h _ _)
       · rfl)
theorem RP_en : RP (iEn ms e) QL = RP (ms e) fun x e1 => match x with | [.lst l] => QL (enumD 0 l) e1 | _ => False := by
  unfold iEn; rw [RP_bind]; congr; funext x e1
  split
  · rfl
  · rename_i h
    first
    | rfl
    | (split
       · exact absurd rfl (h _)
       · rfl)
theorem RP_lc {own : List Nat} {f : D → Sl → Option Sl} {tst el : M} : RP (mLc own f tst el src e) Q = RP (src e) fun ds e1 => RP (lcL own f tst el ds (wpE e1 own)) fun l e2 => l.length ≤ lim ∧ Q (.lst l) (rstE e1 e2 own) := by
  unfold mLc; simp only [RP_bind]; congr; funext x e1; congr; funext l e2
  split
  · rename_i h; simp only [RP, h, true_and]
  · rename_i h; simp only [RP, h, false_and]
theorem RP_lcn {own : List Nat} {f : D → Sl → Option Sl} {tst el : M} : RP (lcL own f tst el [] e) QL = QL [] e := rfl
theorem RP_lcc {own : List Nat} {f : D → Sl → Option Sl} {tst el : M} {d : D} {ds : List D} : RP (lcL own f tst el (d :: ds) e) QL = OP (f d e) fun e1 => RP (tst e1) fun c e2 => BP c (RP (el e2) fun y e3 => RP (lcL own f tst el ds (wpE e3 own)) fun l e4 => QL (y :: l) e4) (RP (lcL own f tst el ds (wpE e2 own)) QL) := by
  have u : lcL own f tst el (d :: ds) e = match f d e with
    | none => .bad
    | some e1 => (tst e1).nox.bind fun c e2 => match c with
      | .bl true => (el e2).nox.bind fun y e3 => (lcL own f tst el ds (wpE e3 own)).bind fun l e4 => .ok (y :: l) e4
      | .bl false => lcL own f tst el ds (wpE e2 own)
      | _ => .bad := rfl
  rw [u]
  cases f d e with
  | none => rfl
  | some e1 =>
    show RP ((tst e1).nox.bind _) QL = RP (tst e1) _
    rw [RP_bind, RP_nox]; congr; funext x e2
    cases x with
    | bl t =>
      cases t with
      | true =>
        show RP ((el e2).nox.bind _) QL = RP (el e2) _
        rw [RP_bind, RP_nox]
        congr; funext y e3
        rw [RP_bind]
        rfl
      | false => rfl
    | _ => rfl
theorem RP_yes : RP (mYes e) Q = Q (.bl true) e := rfl
/-! statements -/
theorem SP_toS {r : Rs α} {f : α → Sl → SRs} : SP (r.toS f) k = RP r fun x e1 => SP (f x e1) k := by cases r <;> rfl
theorem SP_nx : SP (sNx e) k = k.nx e := rfl
theorem SP_seq : SP (sSeq s1 s2 e) k = SP (s1 e) ⟨fun e1 => SP (s2 e1) k, k.rt, k.bk, k.ct⟩ := by
  unfold sSeq; cases s1 e <;> rfl
theorem SP_drop : SP (sDrop a e) k = RP (a e) fun _ e1 => k.nx e1 := by unfold sDrop; rw [SP_toS]; rfl
theorem SP_ret : SP (sRet a e) k = RP (a e) fun d e1 => k.rt d e1 := by unfold sRet; rw [SP_toS]; rfl
theorem SP_set : SP (sSet i a e) k = RP (a e) fun d e1 => k.nx (e1.set i (some d)) := by unfold sSet; rw [SP_toS]; rfl
theorem SP_if : SP (sIf c s1 s2 e) k = RP (c e) fun x e1 => BP x (SP (s1 e1) k) (SP (s2 e1) k) := by
  unfold sIf; rw [SP_toS]; congr; funext x e1
  cases x with
  | bl t => cases t <;> rfl
  | _ => rfl
theorem SP_stO {o : Option D} : SP (stO i o e) k = OP o fun d => k.nx (e.set i (some d)) := by unfold stO; cases o <;> rfl
theorem SP_sub {mk mv : M} : SP (sSub i mk mv e) k = RP (mv e) fun d e1 => RP (mVar i e1) fun _ e1 => RP (mk e1) fun key e2 => OP (setD key d e2[i]?) fun z => k.nx (e2.set i (some z)) := by
  unfold sSub; simp only [SP_toS, SP_stO]
theorem SP_app : SP (sApp i m e) k = RP (mVar i e) fun d0 e => OP (isL d0) fun _ => RP (m e) fun d e1 => OP (appD d e1[i]?) fun z => k.nx (e1.set i (some z)) := by
  unfold sApp; simp only [SP_toS, SP_stO, RP_lift]
theorem SP_tgt {f : D → Sl → Option Sl} : SP (sTgt f a e) k = RP (a e) fun d e1 => OP (f d e1) fun e2 => k.nx e2 := by
  unfold sTgt; rw [SP_toS]; congr; funext x e1; cases f x e1 <;> rfl
theorem SP_par : SP (sPar i j ms e) k = RP (ms e) fun ds e1 => match ds with | [d1, d2] => k.nx ((e1.set i (some d1)).set j (some d2)) | _ => False := by
  unfold sPar; rw [SP_toS]; congr; funext x e1
  split
  · rfl
  · rename_i h
    first
    | rfl
    | (split
       · exact absurd rfl (h _ _)
       · rfl)
theorem SP_for {f : D → Sl → Option Sl} : SP (sFor f src s e) k = RP (src e) fun ds e1 => SP (forL f s ds e1) k := by unfold sFor; rw [SP_toS]
theorem SP_forn {f : D → Sl → Option Sl} : SP (forL f s [] e) k = k.nx e := rfl
theorem SP_forc {f : D → Sl → Option Sl} {d : D} {ds : List D} : SP (forL f s (d :: ds) e) k = OP (f d e) fun e1 => SP (s e1) ⟨fun e2 => SP (forL f s ds e2) k, k.rt, k.nx, fun e2 => SP (forL f s ds e2) k⟩ := by
  have u : forL f s (d :: ds) e = match f d e with
    | none => .bad
    | some e1 => match s e1 with
      | .nx e2 => forL f s ds e2
      | .ct e2 => forL f s ds e2
      | .bk e2 => .nx e2
      | r => r := rfl
  rw [u]
  cases f d e with
  | none => rfl
  | some e1 =>
    dsimp only [OP]
    cases s e1 <;> rfl
/-- a for by an invariant -/
theorem SP_forI {f : D → Sl → Option Sl} {ds : List D} (I : Nat → Sl → Prop) (h0 : I 0 e)
    (hs : ∀ (i : Nat) (hi : i < ds.length) (e : Sl), I i e → OP (f ds[i] e) fun e1 => SP (s e1) ⟨fun e2 => I (i + 1) e2, k.rt, k.nx, fun e2 => I (i + 1) e2⟩)
    (hd : ∀ e, I ds.length e → k.nx e) : SP (forL f s ds e) k := by
  have h : ∀ (n i : Nat) (e : Sl), n + i = ds.length → I i e → SP (forL f s (ds.drop i) e) k := by
    intro n
    induction n with
    | zero =>
      intro i e hn hI
      rw [List.drop_eq_nil_of_le (by omega)]
      have : i = ds.length := by omega
      subst this
      exact hd e hI
    | succ n ih =>
      intro i e hn hI
      have hlt : i < ds.length := by omega
      rw [List.drop_eq_getElem_cons hlt, SP_forc]
      refine (hs i hlt e hI).mono fun e1 h => h.mono (fun e2 h => ih (i + 1) e2 (by omega) h) (fun d e h => h) (fun e h => h) fun e2 h => ih (i + 1) e2 (by omega) h
  exact h ds.length 0 e (by omega) h0
theorem SP_whln {n : Nat} : SP (whlN c s (n + 1) e) k = RP (c e) fun x e1 => BP x (SP (s e1) ⟨fun e2 => SP (whlN c s n e2) k, k.rt, k.nx, fun e2 => SP (whlN c s n e2) k⟩) (k.nx e1) := by
  have u : whlN c s (n + 1) e = (c e).toS fun x e1 => match x with
    | .bl false => .nx e1
    | .bl true => (match s e1 with
      | .nx e2 => whlN c s n e2
      | .ct e2 => whlN c s n e2
      | .bk e2 => .nx e2
      | r => r)
    | _ => .bad := rfl
  rw [u, SP_toS]; congr; funext x e1
  cases x with
  | bl t =>
    cases t with
    | true => dsimp only [BP]; cases s e1 <;> rfl
    | false => rfl
  | _ => rfl
/-- a while by a measure -/
theorem SP_whl (I : Nat → Sl → Prop) (n : Nat) (hn : n < fuel) (h0 : I n e)
    (hs : ∀ (n : Nat) (e : Sl), I n e → RP (c e) fun x e1 => BP x (SP (s e1) ⟨fun e2 => ∃ n', n' < n ∧ I n' e2, k.rt, k.nx, fun e2 => ∃ n', n' < n ∧ I n' e2⟩) (k.nx e1)) : SP (sWhl c s e) k := by
  unfold sWhl
  revert hn h0
  generalize fuel = N
  induction N generalizing n e with
  | zero => intro hn; omega
  | succ N ih =>
    intro hn h0
    rw [SP_whln]
    refine (hs n e h0).mono fun x e1 h => ?_
    cases x with
    | bl t =>
      cases t with
      | true =>
        refine SP.mono h (fun e2 h => ?_) (fun d e h => h) (fun e h => h) fun e2 h => ?_
        · obtain ⟨n', h1, h2⟩ := h
          exact ih n' (by omega) h2
        · obtain ⟨n', h1, h2⟩ := h
          exact ih n' (by omega) h2
      | false => exact h
    | _ => exact h
theorem FP_fn {r nl np : Nat} {ds : List D} : FP (mFn r nl np s ds) Q = SP (s (ds.map some ++ List.replicate (nl - np) none)) ⟨fun e => r = 0 ∧ Q .non e, Q, fun _ => False, fun _ => False⟩ := by
  unfold mFn
  cases s (ds.map some ++ List.replicate (nl - np) none) with
  | nx e =>
    dsimp only [toF, SP]
    split
    · rename_i h; simp only [FP, h, true_and]
    · rename_i h; simp only [FP, h, false_and]
  | _ => rfl
end
end M3

/-! MWb -/
set_option Elab.async false
set_option linter.all false
set_option maxRecDepth 100000
set_option maxHeartbeats 400000
namespace M3
open PySem PySem.Spec PyProof.Rows L2
/-! ### operations on whole numbers -/
section
variable {Q : D → Prop} {i j : Int} {d : D}
theorem OP_some {α : Type} {a : α} {Q : α → Prop} : OP (some a) Q = Q a := rfl
theorem OP_map {α β : Type} {o : Option α} {f : α → β} {Q : β → Prop} : OP (o.map f) Q = OP o fun a => Q (f a) := by cases o <;> rfl
theorem OP_ite {α : Type} {c : Prop} [Decidable c] {o : Option α} {Q : α → Prop} : OP (if c then o else none) Q = (c ∧ OP o Q) := by
  split
  · rename_i h; simp only [h, true_and]
  · rename_i h; simp only [h, false_and]; rfl
theorem OP_add : OP (D.add (.int i) (.int j)) Q = Q (.int (i + j)) := rfl
theorem OP_sub : OP (D.sub (.int i) (.int j)) Q = Q (.int (i - j)) := rfl
theorem OP_mul : OP (D.mul (.int i) (.int j)) Q = ((i.natAbs < bigN ∧ j.natAbs < bigN) ∧ Q (.int (i * j))) := by
  show OP (if i.natAbs < bigN ∧ j.natAbs < bigN then some (D.int (i * j)) else none) Q = _
  rw [OP_ite]; rfl
theorem OP_fdiv : OP (D.fdiv (.int i) (.int j)) Q = ((j ≠ 0 ∧ j.natAbs < divN) ∧ Q (.int (i.fdiv j))) := OP_ite
theorem OP_fmod : OP (D.fmod (.int i) (.int j)) Q = (j ≠ 0 ∧ Q (.int (i.fmod j))) := OP_ite
theorem OP_pow : OP (D.pow (.int i) (.int j)) Q = ((0 ≤ j ∧ j ≤ 1000 ∧ i.natAbs < 2 ^ 1000) ∧ Q (.int (i ^ j.toNat))) := OP_ite
theorem OP_neg : OP (D.neg (.int i)) Q = Q (.int (-i)) := rfl
theorem OP_lt : OP (D.lt (.int i) (.int j)) Q = Q (.bl (decide (i < j))) := rfl
theorem OP_le : OP (D.le (.int i) (.int j)) Q = Q (.bl (decide (i ≤ j))) := rfl
theorem OP_gt : OP (D.gt (.int i) (.int j)) Q = Q (.bl (decide (j < i))) := rfl
theorem OP_ge : OP (D.ge (.int i) (.int j)) Q = Q (.bl (decide (j ≤ i))) := rfl
theorem OP_eqi : OP (D.eq (.int i) (.int j)) Q = Q (.bl (i == j)) := rfl
theorem OP_nei : OP (D.ne (.int i) (.int j)) Q = Q (.bl (!(i == j))) := rfl
theorem OP_bits : OP (fBits (.int i)) Q = Q (.int (Builtin.Int.intBits i : Nat)) := rfl
theorem OP_int : OP (fInt [.int i]) Q = Q (.int i) := rfl
theorem OP_intb {b : Bool} : OP (fInt [.bl b]) Q = Q (.int (if b then 1 else 0)) := rfl
theorem OP_tup {ds : List D} : OP (mkTup ds) Q = (ds.length ≤ lim ∧ Q (.tup ds)) := OP_ite
theorem OP_lst {ds : List D} : OP (mkLst ds) Q = (ds.length ≤ lim ∧ Q (.lst ds)) := OP_ite
theorem OP_lenl {ds : List D} : OP (fLen [.lst ds]) Q = Q (.int ds.length) := rfl
theorem OP_lent {ds : List D} : OP (fLen [.tup ds]) Q = Q (.int ds.length) := rfl
theorem OP_lenf {ds : List D} : OP (fLen [.fro ds]) Q = Q (.int ds.length) := rfl
theorem OP_abs : OP (fAbs [.int i]) Q = Q (.int i.natAbs) := by
  show Q (.int (if i < 0 then -i else i)) = _
  congr; split <;> omega
theorem OP_max2 : OP (fMax2 [.int i, .int j]) Q = Q (.int (max i j)) := by
  show Q (.int (if j > i then j else i)) = _
  rw [show (if j > i then j else i) = max i j by split <;> omega]
theorem OP_min2 : OP (fMin2 [.int i, .int j]) Q = Q (.int (min i j)) := by
  show Q (.int (if j < i then j else i)) = _
  rw [show (if j < i then j else i) = min i j by split <;> omega]
theorem OP_gcd : OP (fGcd [.int i, .int j]) Q = Q (.int ((Nat.gcd i.natAbs j.natAbs : Nat) : Int)) := rfl
theorem OP_ixl {l : List D} : OP (D.ix (.lst l) (.int i)) Q = OP (atI l i) Q := rfl
theorem OP_ixt {l : List D} : OP (D.ix (.tup l) (.int i)) Q = OP (atI l i) Q := rfl
theorem OP_ixf {l : List D} : OP (D.ix (.fro l) (.int i)) Q = OP (atI l i) Q := rfl
theorem atI_of {α : Type} {l : List α} {n : Nat} {a : α} (h : l[n]? = some a) : atI l (n : Int) = some a := by
  have hl : n < l.length := by
    rcases Nat.lt_or_ge n l.length with h' | h'
    · exact h'
    · rw [List.getElem?_eq_none h'] at h; cases h
  unfold atI ixN
  rw [List.getElem?_eq_getElem hl] at h
  simp [hl, Option.some.inj h]
theorem OP_cat {l m : List D} : OP (D.add (.lst l) (.lst m)) Q = (l.length + m.length ≤ lim ∧ Q (.lst (l ++ m))) := OP_ite
theorem OP_rep {l : List D} : OP (D.mul (.lst l) (.int i)) Q = ((l.length * i.toNat ≤ lim ∧ -1000000 ≤ i ∧ i ≤ 1000000) ∧ Q (.lst (List.replicate i.toNat l).flatten)) := OP_ite
theorem OP_subb {a b : Bool} : OP (D.sub (.bl a) (.bl b)) Q = Q (.int (b2i a - b2i b)) := rfl
theorem OP_gN {e : Sl} {n : Nat} {Q : Sl → Prop} : OP (gN n d e) Q = Q (e.set n (some d)) := rfl
theorem BQ_b {b : Bool} {F : Bool → Prop} : BQ (.bl b) F = F b := rfl
theorem BP_t {A B : Prop} : BP (.bl true) A B = A := rfl
theorem BP_f {A B : Prop} : BP (.bl false) A B = B := rfl
theorem BP_d {c : Prop} [Decidable c] {A B : Prop} : BP (.bl (decide c)) A B = ((c → A) ∧ (¬c → B)) := by
  by_cases h : c
  · simp only [h, decide_true, BP_t, not_true, true_imp_iff, false_imp_iff, and_true]
  · simp only [h, decide_false, BP_f, not_false_iff, true_imp_iff, false_imp_iff, true_and]
theorem BP_n {b : Bool} {A B : Prop} : BP (.bl !b) A B = BP (.bl b) B A := by cases b <;> rfl
end
end M3

/-! MB -/
set_option Elab.async false
set_option linter.all false
set_option maxRecDepth 100000
set_option maxHeartbeats 400000
namespace M3
open PySem PySem.Spec PyProof.Rows L2

/-! ### sizes -/
def Bd (n : Nat) (x : Int) : Prop := x.natAbs < 2 ^ n
theorem Bd.up {m n : Nat} {x : Int} (h : Bd m x) (k : m ≤ n) : Bd n x := Nat.lt_of_lt_of_le h (Nat.pow_le_pow_right (by decide) k)
theorem Bd.mul {m n : Nat} {x y : Int} (h : Bd m x) (k : Bd n y) : Bd (m + n) (x * y) := by
  unfold Bd at *
  rw [Int.natAbs_mul, Nat.pow_add]
  exact Nat.mul_lt_mul'' h k
theorem Bd.add {m n : Nat} {x y : Int} (h : Bd m x) (k : Bd n y) : Bd (m + n + 1) (x + y) := by
  unfold Bd at *
  have h1 : (2:Nat) ^ m ≤ 2 ^ (m + n) := Nat.pow_le_pow_right (by decide) (by omega)
  have h2 : (2:Nat) ^ n ≤ 2 ^ (m + n) := Nat.pow_le_pow_right (by decide) (by omega)
  rw [Nat.pow_succ]
  have := Int.natAbs_add_le x y
  omega
theorem Bd.neg {m : Nat} {x : Int} (h : Bd m x) : Bd m (-x) := by unfold Bd at *; rwa [Int.natAbs_neg]
theorem Bd.sub {m n : Nat} {x y : Int} (h : Bd m x) (k : Bd n y) : Bd (m + n + 1) (x - y) := by
  rw [Int.sub_eq_add_neg]; exact h.add k.neg
theorem Bd.self (x : Int) : Bd (x.natAbs.log2 + 1) x := Nat.lt_log2_self
theorem Bd.lt {n : Nat} {x y : Int} (h0 : 0 ≤ x) (h : x ≤ y) (k : Bd n y) : Bd n x := by
  unfold Bd at *; omega
theorem Bd.abs {n : Nat} {x : Int} (h : Bd n x) : Bd n (x.natAbs : Int) := by unfold Bd at *; simpa using h
theorem Bd.fdiv {m : Nat} {x y : Int} (h : Bd m x) : Bd (m + 1) (x.fdiv y) := by
  unfold Bd at *
  have h1 : (x.fdiv y).natAbs ≤ x.natAbs + 1 := by
    rcases Int.lt_trichotomy y 0 with hy | hy | hy
    · rw [← Int.neg_fdiv_neg, Int.fdiv_eq_ediv_of_nonneg _ (by omega)]
      have := Int.natAbs_ediv_le_natAbs (-x) (-y)
      omega
    · subst hy; rw [Int.fdiv_zero]; simp
    · rw [Int.fdiv_eq_ediv_of_nonneg _ (by omega)]
      have := Int.natAbs_ediv_le_natAbs x y
      omega
  have h2 : 0 < 2 ^ m := Nat.two_pow_pos m
  rw [Nat.pow_succ]
  omega
theorem Bd.fmod {m : Nat} {x y : Int} (hy : 0 < y) (k : Bd m y) : Bd m (x.fmod y) := by
  have h1 := Int.fmod_nonneg_of_pos x hy
  have h2 := Int.fmod_lt_of_pos x hy
  exact Bd.lt h1 (by omega) k
theorem Bd.big {n : Nat} {x : Int} (h : Bd n x) (k : n ≤ 400000) : x.natAbs < bigN := by rw [bigN_e]; exact Nat.lt_of_lt_of_le h (Nat.pow_le_pow_right (by decide) k)
theorem Bd.dv {n : Nat} {x : Int} (h : Bd n x) (k : n ≤ 8000) : x.natAbs < divN := by rw [divN_e]; exact Nat.lt_of_lt_of_le h (Nat.pow_le_pow_right (by decide) k)
/-! ### lists at hand -/
section
variable {α : Type} {a b c d : α} {l : List α}
theorem at0 : atI (a :: l) 0 = some a := atI_of (n := 0) rfl
theorem at1 : atI (a :: b :: l) 1 = some b := atI_of (n := 1) rfl
theorem at2 : atI (a :: b :: c :: l) 2 = some c := atI_of (n := 2) rfl
theorem at3 : atI (a :: b :: c :: d :: l) 3 = some d := atI_of (n := 3) rfl
theorem set_of {l : List D} {n : Nat} {d : D} (h : n < l.length) : setAt l (n : Int) d = some (l.set n d) := by
  unfold setAt ixN
  simp [h]
theorem set0 {a d : D} {l : List D} : setAt (a :: l) 0 d = some (d :: l) := set_of (n := 0) (by simp)
theorem set1 {a b d : D} {l : List D} : setAt (a :: b :: l) 1 d = some (a :: d :: l) := set_of (n := 1) (by simp)
theorem set2 {a b c d : D} {l : List D} : setAt (a :: b :: c :: l) 2 d = some (a :: b :: d :: l) := set_of (n := 2) (by simp)
theorem setD_l {l : List D} {i : Int} {d : D} : setD (.int i) d (some (some (.lst l))) = (setAt l i d).map .lst := rfl
end
example {s i : Int} (hs : Bd 40 s) (hi : Bd 100 i) : (s * 1140671 + 27644437 * i * i).natAbs < bigN ∧ i.natAbs < bigN := by ((refine And.intro ?_ ?_ <;> ((apply Bd.big; (case h => repeat' (with_reducible first | assumption | (apply Bd.add) | (apply Bd.sub) | (apply Bd.mul) | (apply Bd.neg) | (apply Bd.abs) | (apply Bd.fdiv) | exact Bd.self _)); all_goals decide +kernel))))
theorem BP_eq {i j : Int} {A B : Prop} : BP (.bl (i == j)) A B = ((i = j → A) ∧ (¬i = j → B)) := by
  rw [show (i == j) = decide (i = j) from rfl, BP_d]
theorem fmod_rng (x : Int) {y : Int} (h : 0 < y) : 0 ≤ x.fmod y ∧ x.fmod y < y := ⟨Int.fmod_nonneg_of_pos x h, Int.fmod_lt_of_pos x h⟩
theorem RP_varm {e : Sl} {i : Nat} {Q : D → Sl → Prop} : RP (mVar i e) Q = match e[i]? with | some (some d) => Q d e | _ => False := by
  unfold mVar
  split
  · rename_i h; first | rfl | (rw [h]; rfl)
  · rename_i h
    first
    | rfl
    | (split
       · rename_i h2; exact absurd h2 (h _)
       · rfl)
theorem RP_holem {e : Sl} {i : Nat} {Q : D → Sl → Prop} : RP (mHole i e) Q = match e[i]? with | some (some _) => Q .non e | _ => False := by
  unfold mHole
  split
  · rename_i h; first | rfl | (rw [h]; rfl)
  · rename_i h
    first
    | rfl
    | (split
       · rename_i h2; exact absurd h2 (h _)
       · rfl)
theorem is_non_np {b : Bool} {i : Int} {x : Str} {l : List D} : D.is false .non .non = some (.bl (true)) := rfl
theorem is_non_ng {b : Bool} {i : Int} {x : Str} {l : List D} : D.is true .non .non = some (.bl (false)) := rfl
theorem is_non_tp {b : Bool} {i : Int} {x : Str} {l : List D} : D.is false .non (.bl true) = some (.bl (false)) := rfl
theorem is_non_tg {b : Bool} {i : Int} {x : Str} {l : List D} : D.is true .non (.bl true) = some (.bl (true)) := rfl
theorem is_non_fp {b : Bool} {i : Int} {x : Str} {l : List D} : D.is false .non (.bl false) = some (.bl (false)) := rfl
theorem is_non_fg {b : Bool} {i : Int} {x : Str} {l : List D} : D.is true .non (.bl false) = some (.bl (true)) := rfl
theorem is_bl_np {b : Bool} {i : Int} {x : Str} {l : List D} : D.is false (.bl b) .non = some (.bl (false)) := rfl
theorem is_bl_ng {b : Bool} {i : Int} {x : Str} {l : List D} : D.is true (.bl b) .non = some (.bl (true)) := rfl
theorem is_bl_tp {b : Bool} {i : Int} {x : Str} {l : List D} : D.is false (.bl b) (.bl true) = some (.bl ((b == true))) := rfl
theorem is_bl_tg {b : Bool} {i : Int} {x : Str} {l : List D} : D.is true (.bl b) (.bl true) = some (.bl (!(b == true))) := rfl
theorem is_bl_fp {b : Bool} {i : Int} {x : Str} {l : List D} : D.is false (.bl b) (.bl false) = some (.bl ((b == false))) := rfl
theorem is_bl_fg {b : Bool} {i : Int} {x : Str} {l : List D} : D.is true (.bl b) (.bl false) = some (.bl (!(b == false))) := rfl
theorem is_int_np {b : Bool} {i : Int} {x : Str} {l : List D} : D.is false (.int i) .non = some (.bl (false)) := rfl
theorem is_int_ng {b : Bool} {i : Int} {x : Str} {l : List D} : D.is true (.int i) .non = some (.bl (true)) := rfl
theorem is_int_tp {b : Bool} {i : Int} {x : Str} {l : List D} : D.is false (.int i) (.bl true) = some (.bl (false)) := rfl
theorem is_int_tg {b : Bool} {i : Int} {x : Str} {l : List D} : D.is true (.int i) (.bl true) = some (.bl (true)) := rfl
theorem is_int_fp {b : Bool} {i : Int} {x : Str} {l : List D} : D.is false (.int i) (.bl false) = some (.bl (false)) := rfl
theorem is_int_fg {b : Bool} {i : Int} {x : Str} {l : List D} : D.is true (.int i) (.bl false) = some (.bl (true)) := rfl
theorem is_str_np {b : Bool} {i : Int} {x : Str} {l : List D} : D.is false (.str x) .non = some (.bl (false)) := rfl
theorem is_str_ng {b : Bool} {i : Int} {x : Str} {l : List D} : D.is true (.str x) .non = some (.bl (true)) := rfl
theorem is_str_tp {b : Bool} {i : Int} {x : Str} {l : List D} : D.is false (.str x) (.bl true) = some (.bl (false)) := rfl
theorem is_str_tg {b : Bool} {i : Int} {x : Str} {l : List D} : D.is true (.str x) (.bl true) = some (.bl (true)) := rfl
theorem is_str_fp {b : Bool} {i : Int} {x : Str} {l : List D} : D.is false (.str x) (.bl false) = some (.bl (false)) := rfl
theorem is_str_fg {b : Bool} {i : Int} {x : Str} {l : List D} : D.is true (.str x) (.bl false) = some (.bl (true)) := rfl
theorem is_lst_np {b : Bool} {i : Int} {x : Str} {l : List D} : D.is false (.lst l) .non = some (.bl (false)) := rfl
theorem is_lst_ng {b : Bool} {i : Int} {x : Str} {l : List D} : D.is true (.lst l) .non = some (.bl (true)) := rfl
theorem is_lst_tp {b : Bool} {i : Int} {x : Str} {l : List D} : D.is false (.lst l) (.bl true) = some (.bl (false)) := rfl
theorem is_lst_tg {b : Bool} {i : Int} {x : Str} {l : List D} : D.is true (.lst l) (.bl true) = some (.bl (true)) := rfl
theorem is_lst_fp {b : Bool} {i : Int} {x : Str} {l : List D} : D.is false (.lst l) (.bl false) = some (.bl (false)) := rfl
theorem is_lst_fg {b : Bool} {i : Int} {x : Str} {l : List D} : D.is true (.lst l) (.bl false) = some (.bl (true)) := rfl
theorem is_tup_np {b : Bool} {i : Int} {x : Str} {l : List D} : D.is false (.tup l) .non = some (.bl (false)) := rfl
theorem is_tup_ng {b : Bool} {i : Int} {x : Str} {l : List D} : D.is true (.tup l) .non = some (.bl (true)) := rfl
theorem is_tup_tp {b : Bool} {i : Int} {x : Str} {l : List D} : D.is false (.tup l) (.bl true) = some (.bl (false)) := rfl
theorem is_tup_tg {b : Bool} {i : Int} {x : Str} {l : List D} : D.is true (.tup l) (.bl true) = some (.bl (true)) := rfl
theorem is_tup_fp {b : Bool} {i : Int} {x : Str} {l : List D} : D.is false (.tup l) (.bl false) = some (.bl (false)) := rfl
theorem is_tup_fg {b : Bool} {i : Int} {x : Str} {l : List D} : D.is true (.tup l) (.bl false) = some (.bl (true)) := rfl
theorem isi_non_int {b : Bool} {i : Int} {x : Str} {l : List D} : fIsi [.non, .val (.ty "int")] = some (.bl false) := rfl
theorem isi_non_bool {b : Bool} {i : Int} {x : Str} {l : List D} : fIsi [.non, .val (.ty "bool")] = some (.bl false) := rfl
theorem isi_non_list {b : Bool} {i : Int} {x : Str} {l : List D} : fIsi [.non, .val (.ty "list")] = some (.bl false) := rfl
theorem isi_non_tuple {b : Bool} {i : Int} {x : Str} {l : List D} : fIsi [.non, .val (.ty "tuple")] = some (.bl false) := rfl
theorem isi_non_str {b : Bool} {i : Int} {x : Str} {l : List D} : fIsi [.non, .val (.ty "str")] = some (.bl false) := rfl
theorem isi_non_dict {b : Bool} {i : Int} {x : Str} {l : List D} : fIsi [.non, .val (.ty "dict")] = some (.bl false) := rfl
theorem isi_non_lt {b : Bool} {i : Int} {x : Str} {l : List D} : fIsi [.non, .tup [.val (.ty "list"), .val (.ty "tuple")]] = some (.bl false) := rfl
theorem isi_bl_int {b : Bool} {i : Int} {x : Str} {l : List D} : fIsi [(.bl b), .val (.ty "int")] = some (.bl true) := rfl
theorem isi_bl_bool {b : Bool} {i : Int} {x : Str} {l : List D} : fIsi [(.bl b), .val (.ty "bool")] = some (.bl true) := rfl
theorem isi_bl_list {b : Bool} {i : Int} {x : Str} {l : List D} : fIsi [(.bl b), .val (.ty "list")] = some (.bl false) := rfl
theorem isi_bl_tuple {b : Bool} {i : Int} {x : Str} {l : List D} : fIsi [(.bl b), .val (.ty "tuple")] = some (.bl false) := rfl
theorem isi_bl_str {b : Bool} {i : Int} {x : Str} {l : List D} : fIsi [(.bl b), .val (.ty "str")] = some (.bl false) := rfl
theorem isi_bl_dict {b : Bool} {i : Int} {x : Str} {l : List D} : fIsi [(.bl b), .val (.ty "dict")] = some (.bl false) := rfl
theorem isi_bl_lt {b : Bool} {i : Int} {x : Str} {l : List D} : fIsi [(.bl b), .tup [.val (.ty "list"), .val (.ty "tuple")]] = some (.bl false) := rfl
theorem isi_int_int {b : Bool} {i : Int} {x : Str} {l : List D} : fIsi [(.int i), .val (.ty "int")] = some (.bl true) := rfl
theorem isi_int_bool {b : Bool} {i : Int} {x : Str} {l : List D} : fIsi [(.int i), .val (.ty "bool")] = some (.bl false) := rfl
theorem isi_int_list {b : Bool} {i : Int} {x : Str} {l : List D} : fIsi [(.int i), .val (.ty "list")] = some (.bl false) := rfl
theorem isi_int_tuple {b : Bool} {i : Int} {x : Str} {l : List D} : fIsi [(.int i), .val (.ty "tuple")] = some (.bl false) := rfl
theorem isi_int_str {b : Bool} {i : Int} {x : Str} {l : List D} : fIsi [(.int i), .val (.ty "str")] = some (.bl false) := rfl
theorem isi_int_dict {b : Bool} {i : Int} {x : Str} {l : List D} : fIsi [(.int i), .val (.ty "dict")] = some (.bl false) := rfl
theorem isi_int_lt {b : Bool} {i : Int} {x : Str} {l : List D} : fIsi [(.int i), .tup [.val (.ty "list"), .val (.ty "tuple")]] = some (.bl false) := rfl
theorem isi_str_int {b : Bool} {i : Int} {x : Str} {l : List D} : fIsi [(.str x), .val (.ty "int")] = some (.bl false) := rfl
theorem isi_str_bool {b : Bool} {i : Int} {x : Str} {l : List D} : fIsi [(.str x), .val (.ty "bool")] = some (.bl false) := rfl
theorem isi_str_list {b : Bool} {i : Int} {x : Str} {l : List D} : fIsi [(.str x), .val (.ty "list")] = some (.bl false) := rfl
theorem isi_str_tuple {b : Bool} {i : Int} {x : Str} {l : List D} : fIsi [(.str x), .val (.ty "tuple")] = some (.bl false) := rfl
theorem isi_str_str {b : Bool} {i : Int} {x : Str} {l : List D} : fIsi [(.str x), .val (.ty "str")] = some (.bl true) := rfl
theorem isi_str_dict {b : Bool} {i : Int} {x : Str} {l : List D} : fIsi [(.str x), .val (.ty "dict")] = some (.bl false) := rfl
theorem isi_str_lt {b : Bool} {i : Int} {x : Str} {l : List D} : fIsi [(.str x), .tup [.val (.ty "list"), .val (.ty "tuple")]] = some (.bl false) := rfl
theorem isi_lst_int {b : Bool} {i : Int} {x : Str} {l : List D} : fIsi [(.lst l), .val (.ty "int")] = some (.bl false) := rfl
theorem isi_lst_bool {b : Bool} {i : Int} {x : Str} {l : List D} : fIsi [(.lst l), .val (.ty "bool")] = some (.bl false) := rfl
theorem isi_lst_list {b : Bool} {i : Int} {x : Str} {l : List D} : fIsi [(.lst l), .val (.ty "list")] = some (.bl true) := rfl
theorem isi_lst_tuple {b : Bool} {i : Int} {x : Str} {l : List D} : fIsi [(.lst l), .val (.ty "tuple")] = some (.bl false) := rfl
theorem isi_lst_str {b : Bool} {i : Int} {x : Str} {l : List D} : fIsi [(.lst l), .val (.ty "str")] = some (.bl false) := rfl
theorem isi_lst_dict {b : Bool} {i : Int} {x : Str} {l : List D} : fIsi [(.lst l), .val (.ty "dict")] = some (.bl false) := rfl
theorem isi_lst_lt {b : Bool} {i : Int} {x : Str} {l : List D} : fIsi [(.lst l), .tup [.val (.ty "list"), .val (.ty "tuple")]] = some (.bl true) := rfl
theorem isi_tup_int {b : Bool} {i : Int} {x : Str} {l : List D} : fIsi [(.tup l), .val (.ty "int")] = some (.bl false) := rfl
theorem isi_tup_bool {b : Bool} {i : Int} {x : Str} {l : List D} : fIsi [(.tup l), .val (.ty "bool")] = some (.bl false) := rfl
theorem isi_tup_list {b : Bool} {i : Int} {x : Str} {l : List D} : fIsi [(.tup l), .val (.ty "list")] = some (.bl false) := rfl
theorem isi_tup_tuple {b : Bool} {i : Int} {x : Str} {l : List D} : fIsi [(.tup l), .val (.ty "tuple")] = some (.bl true) := rfl
theorem isi_tup_str {b : Bool} {i : Int} {x : Str} {l : List D} : fIsi [(.tup l), .val (.ty "str")] = some (.bl false) := rfl
theorem isi_tup_dict {b : Bool} {i : Int} {x : Str} {l : List D} : fIsi [(.tup l), .val (.ty "dict")] = some (.bl false) := rfl
theorem isi_tup_lt {b : Bool} {i : Int} {x : Str} {l : List D} : fIsi [(.tup l), .tup [.val (.ty "list"), .val (.ty "tuple")]] = some (.bl true) := rfl
end M3

/-! MT -/
set_option Elab.async false
set_option linter.all false
set_option maxRecDepth 100000
set_option maxHeartbeats 400000
namespace M3
open PySem PySem.Spec PyProof.Rows L2
/-- what the law's own call promises, from its mirror -/
theorem top_sp {K : Fg} {H : Hp} {a : Addr} {ns : List Int} {m : Fn} {E : XK} (hS : SqL K H a (ns.map V.int)) (h : FP (m [.fro (ns.map .int)]) fun d _ => d = .bl true) :
    spM K [] [0] 0 1 m [.ref a] H (fun v _ => v = .bl true) E := by
  have e0 : ∀ H : Hp, hid H (msk [[]] []) = H := fun H => hid_nil
  refine ⟨[.fro (ns.map .int)], [[]], [], rfl, rfl, rfl, List.nodup_nil, fun a m => (by cases m), fun i hi => ?_, ?_⟩
  · have : i = 0 := by omega
    subst this
    refine ⟨_, _, rfl, rfl, rfl, ?_⟩
    rw [e0]
    exact ⟨a, ns.map V.int, rfl, hS, ints_map _⟩
  · cases q : m [.fro (ns.map .int)] with
    | ok d e =>
      rw [q] at h
      cases (h : d = .bl true)
      intro v H' fp _ _ _ o _
      exact o.2
    | exc c x => rw [q] at h; exact h.elim
    | bad => rw [q] at h; exact h.elim
theorem callerA_G {k : Nat} (h : Room k callerA) : RoomG k callerA := ⟨h, rfl⟩
/-- the head's end: the law's call, from the promise of its def -/
theorem law_callG {Pg : Program} {w : World} {K : Fg} {mg mb : Str → Option Value} {CX : CXT} {k : Nat} {fa a : Addr} {fd : FuncData} {x : Str} {sp : Sp} {s1 : Shared} {vs : List Value} {ns : List Int}
    (kin : K.In s1.heap) (gns : s1.heap.Ns mainGlobals mg) (bns : s1.heap.Ns builtinsNs mb) (bb : ∀ y : Str, y ≠ "__name__" → mb y = bootBuiltins y) (nol : s1.heap.NoLimit) (gen : s1.gens = #[])
    (at_a : s1.heap.get? a = some { cls := .type "list", data := .seq vs.toArray }) (hi : IntsAre vs ns) (len : ns.length ≤ sizeLine) (hr : Room k callerA)
    (F : ∀ base : Heap, K.In base → base.Ns mainGlobals mg → FnG Pg w K mg base CX k fa fd [x] sp) (hbind : ∀ (t : Shared) (u : Value), BindsTo t fd ⟨[u], []⟩ [(x, u)])
    (hsp : ∀ H : Hp, Only H → SqL K H a (ns.map V.int) → sp [.ref a] H (fun v _ => v = .bl true) fun _ _ _ => False) (hCX : ∀ H e t, CX [] H s1 (fun _ _ _ => False) e t → False) :
    codeAny (model Pg w) callerA (.call (.ref fa) ⟨[.ref a], []⟩) (fun r t => r = .ok (.ret (.bool true)) ∧ OldK s1.heap t.heap ∧ t.os = s1.os ∧ AllBare t.gens) s1 := by
  have rel := vals_ints hi
  have hlen := hi.length
  have go : ∀ H : Hp, Only H → SqL K H a (ns.map V.int) → HOk Pg w H s1.heap → (∀ b, H b ≠ none → b = a) → (H a ≠ none → K.lookup a = none) →
      codeAny (model Pg w) callerA (.call (.ref fa) ⟨[.ref a], []⟩) (fun r t => r = .ok (.ret (.bool true)) ∧ OldK s1.heap t.heap ∧ t.os = s1.os ∧ AllBare t.gens) s1 := by
    intro H only hS ok onlyA noK
    have free : ∀ {b : Addr} {o : Obj}, s1.heap.get? b = some o → ((b = a → False) ∨ H b = none) → H b = none := fun {b o} _ h => by
      rcases h with h | h
      · cases q : H b with
        | none => rfl
        | some u => exact (h (onlyA b (by rw [q]; simp))).elim
      · exact h
    have dictN : ∀ {b : Addr} {o : Obj} {es : Array DictEntry} {ep : Nat}, s1.heap.get? b = some o → o.data = .dict es ep → H b = none := fun {b o es ep} e d => free e (.inl fun z => by
      subst z
      rw [at_a] at e
      cases e
      have d' : Data.seq vs.toArray _ = Data.dict es ep := d
      cases d')
    have keep : ∀ {b : Addr} {m : Str → Option Value}, s1.heap.Ns b m → (hidT s1.heap H).Ns b m := fun {b m} ⟨o, es, ep, e, d, r⟩ => ⟨o, es, ep, hidT_get e (dictN e d), d, r⟩
    have kin' : K.In (hidT s1.heap H) := fun b o e => hidT_get (kin b o e) (by
      cases q : H b with
      | none => rfl
      | some u =>
        have z : b = a := onlyA b (by rw [q]; simp)
        subst z
        rw [noK (by rw [q]; simp)] at e
        cases e)
    obtain ⟨ml, l1, l2⟩ := nol
    have md : Mod K mg (hidT s1.heap H) := ⟨kin', keep gns, ⟨mb, keep bns, bb⟩, ⟨ml, keep l1, l2⟩⟩
    have e0 : Env0 Pg w K mg (hidT s1.heap H) callerA [] s1 H := ⟨rfl, md, fun b o e => of_hidT e, Nat.le_of_eq (hidT_size _ _), trivial, fun b hb => (by cases hb), ok, .of_eq gen⟩
    refine codeAny_mono ((F _ kin' (keep gns)).go (callerA_G hr) e0 (hbind s1 (.ref a)) (us := [.ref a]) (vs := [.ref a]) (.cons rfl .nil) (hsp H only hS)) fun r t z => ?_
    match r, z with
    | .error e, z => exact (hCX H e t z).elim
    | .ok .next, z => exact z.elim
    | .ok .brk, z => exact z.elim
    | .ok .cont, z => exact z.elim
    | .ok (.ret u), z =>
      obtain ⟨v, H', os, bare, un, ok', rv, q⟩ := z
      have q : v = .bl true := q
      subst q
      cases (show u = Value.bool true from rv)
      refine ⟨rfl, OldK.of_keep fun b o e => ?_, os, bare⟩
      rcases only b with n | ⟨ob, xs, n⟩
      · exact un.keep b o e n (by intro z; cases (show b ∈ ([] : List Addr) from z)) (by simp)
      · have e1 := (ok b _ n).1
        have e2 := (ok' b _ (un.frzs b ob _ n)).1
        rw [e] at e1
        cases e1
        exact e2
  cases hk : K.lookup a with
  | some o =>
    have e := kin a o hk
    rw [at_a] at e
    cases e
    exact go (fun _ => none) (fun _ => .inl rfl) (.inr ⟨_, vs.toArray, _, hk, rfl, rfl, rfl, by rw [List.size_toArray, hlen]; exact len, by simpa using rel⟩) (fun b u z => by cases (show (none : Option HO) = some u from z)) (fun b z => absurd rfl z) fun z => absurd rfl z
  | none =>
    let O : HO := .frz { cls := .type "list", data := .seq vs.toArray } (.lst (ns.map V.int))
    refine go (fun b => if b = a then some O else none) (fun b => ?_) (.inl (.inr ⟨_, if_pos rfl⟩)) (fun b u z => ?_) (fun b z => ?_) fun _ => hk
    · by_cases h : b = a
      · exact .inr ⟨_, _, if_pos h⟩
      · exact .inl (if_neg h)
    · by_cases h : b = a
      · subst h
        cases (if_pos rfl).symm.trans z
        exact ⟨at_a, by rw [List.length_map]; exact len, vs, _, rel, at_a⟩
      · cases (if_neg h).symm.trans z
    · by_cases h : b = a
      · exact h
      · exact absurd (if_neg h) z
theorem walk_ofG {l : PySem.W.OpenLaw} {n k : Nat} {q : Program} {loose : List Str} {XP : (Str → Option Value) → Heap → Prop} {YP : World → Heap → Prop} {d : DefRec} {K : Params → PySem.W.Frag} {CX : World → CXT} {sp : World → Sp} {x : Str}
    (most : l.most = some n) (n1 : n ≤ sizeLine) (hdf : d.params.defaults = []) (hr : Room k callerA) (kin : ∀ (w : World) (h : Heap), YP w h → (K w.params).In h)
    (F : ∀ (w : World) (mg : Str → Option Value) (fa : Addr) (h : Heap), (K w.params).In h → h.Ns mainGlobals mg → mg d.name = some (.ref fa) →
      ∃ fd : FuncData, (∀ (s : Shared) (u : Value), BindsTo s fd ⟨[u], []⟩ [(x, u)]) ∧ ∀ base : Heap, (K w.params).In base → base.Ns mainGlobals mg → FnG l.prog w (K w.params) mg base (CX w) k fa fd [x] (sp w))
    (hsp : ∀ (w : World) (H : Hp) (a : Addr) (ns : List Int), ns.length ≤ n → Only H → SqL (K w.params) H a (ns.map V.int) → sp w [.ref a] H (fun v _ => v = .bl true) fun _ _ _ => False)
    (hCX : ∀ (w : World) (H : Hp) (t : Shared) (e : Value) (t' : Shared), CX w [] H t (fun _ _ _ => False) e t' → False) : PySem.W.WalkO q loose XP YP l.row.toRowW d [] (fun f vs => PySem.call f vs) := by
  refine Att.attach_call most hdf fun w s0 s1 mg mb fa o pm cd doc a vs ns G Y ho hd hcd hmg at_a hi len gen => ?_
  obtain ⟨fd, hb, hF⟩ := F w mg fa _ (kin w _ Y) G.T.g hmg
  exact law_callG (kin w _ Y) G.T.g G.T.b G.T.builtins G.T.nolimit gen at_a hi (Nat.le_trans len n1) hr hF hb (fun H h1 h2 => hsp w H a ns len h1 h2) fun H e t => hCX w H s1 e t
end M3

/-! MK3 -/
set_option Elab.async false
set_option linter.all false
set_option maxRecDepth 100000
set_option maxHeartbeats 4000000
namespace M3
open PySem PySem.Spec PyProof.Rows L2

/-! ### what the law's run never reaches -/
def mBad : M := fun _ => .bad
def sBad : MSt := fun _ => .bad
section
variable {X : Cx} {P O O' Ol : List Nat} {W : WX} {c : Fc} {n : Nat} {b : Bool} {e : Expr} {st : Stmt}
theorem ms_bad : MS X c Ol O O' st sBad := ⟨fun _ _ _ => False, ⟨fun _ _ _ _ _ _ h => h.elim⟩, fun β F G env σ H D S z => z.elim⟩
theorem me_bad : ME X P O W n b e mBad := ⟨fun _ _ _ => False, ⟨fun _ _ _ _ _ _ h => h.elim⟩, fun β F G env σ H Q S z => z.elim⟩
theorem mo_bad : MO X P O W n b e mBad := ⟨fun _ _ _ => False, ⟨fun _ _ _ _ _ _ h => h.elim⟩, fun β F G env σ H Q S z => z.elim⟩
end

/-! ### x.pop(k), x an owned list of shared things -/
def popD (k : D) : Option (Option D) → Option (D × D)
  | some (some (.lst l)) => (match k with
    | .int j => if l.length ≤ lim then (ixN l.length j).bind fun q => (l[q]?).map fun d => (d, .lst (l.eraseIdx q)) else none
    | _ => none)
  | _ => none
def mPop (i : Nat) (m : M) : M := fun e => (mVar i e).bind fun d0 e => (liftO (isL d0) e).bind fun _ e => (m e).bind fun k e1 => (liftO (popD k e1[i]?) e1).bind fun r e1 => .ok r.1 (e1.set i (some r.2))
theorem popD_ok {k : D} {o : Option (Option D)} {r : D × D} (h : popD k o = some r) : ∃ l j q, o = some (some (.lst l)) ∧ k = .int j ∧ l.length ≤ lim ∧ ixN l.length j = some q ∧ l[q]? = some r.1 ∧ r.2 = .lst (l.eraseIdx q) := by
  unfold popD at h
  split at h
  · rename_i l
    split at h
    · rename_i j
      split at h
      · rename_i hl
        cases e : ixN l.length j with
        | none => rw [e] at h; cases h
        | some q =>
          rw [e] at h
          have h : (l[q]?).map (fun d => (d, D.lst (l.eraseIdx q))) = some r := h
          cases e2 : l[q]? with
          | none => rw [e2] at h; cases h
          | some d =>
            rw [e2] at h
            cases h
            exact ⟨l, j, q, rfl, rfl, hl, e, e2, rfl⟩
      · cases h
    · cases h
  · cases h
theorem Rps.erase {K : Fg} {H : Hp} : ∀ {l : List D} {xs : List V} (n : Nat), Rps K H l xs → Rps K H (l.eraseIdx n) (xs.eraseIdx n)
  | [], _, n, h => by rw [show _ = _ from h]; exact rfl
  | d :: l, _, 0, ⟨x, r, h1, h2, h3⟩ => by rw [h1]; exact h3
  | d :: l, _, n + 1, ⟨x, r, h1, h2, h3⟩ => by rw [h1]; exact ⟨x, _, rfl, h2, Rps.erase n h3⟩
section
variable {X : Cx} {P O : List Nat} {W : WX} {b : Bool} {e : Expr} {m : M}
theorem me_popAt (i : Nat) {x : Str} {np apos cpos : Pos} (ha : ME X P O W 0 b e m) (hO : O.getD i 0 = 1 := by rfl) (hx : X.N[i]? = some x := by rfl) (hvis : Vis X.env.scope x := by first | exact Or.inl rfl | exact Or.inr (Or.inl rfl) | exact Or.inr (Or.inr rfl))
    (hd : (x == ("__debug__" : Str)) = false := by decide) (hcd : (x == ("__classdict__" : Str)) = false := by decide)
    (hp : ∀ t u, PE X (.Name x np) t → PE X e u → PE X (.Call (.Attribute (.Name x np) "pop" apos) [e] [] cpos) (tBM X.K "list" rPopAt t (tCons u tNil)) := by exact fun t u h g => pe_bm PySem.F.plainAttrs_list PySem.F.slot_list_pop PySem.F.type_list_pop mt_popAt h (pa_cons g pa_nil)) :
    ME X P O W 0 false (.Call (.Attribute (.Name x np) "pop" apos) [e] [] cpos) (mPop i m) := by
  obtain ⟨ta, pa, ha⟩ := ha.run
  refine ⟨_, hp _ _ (pe_var hx hvis hd hcd) pa, fun β F G env σ H Q S z => ?_⟩
  unfold mPop at z
  cases ev : mVar i env with
  | bad => rw [ev] at z; exact z.elim
  | exc c x e1 =>
    exfalso
    unfold mVar at ev
    split at ev <;> cases ev
  | ok d0 e0 =>
    obtain ⟨he, h0⟩ := mVar_ok ev
    rw [h0] at ev
    rw [ev] at z
    clear h0
    cases el : isL d0 with
    | none =>
      replace z : Pst X P O W β F G σ H false env (fun d H' => ∀ v, Bor X.K (hid H' (msk F G)) H' 0 d v → Q v H') ((liftO (isL d0) env).bind fun _ e => (m e).bind fun k e1 => (liftO (popD k e1[i]?) e1).bind fun r e1 => .ok r.1 (e1.set i (some r.2))) := z
      rw [el] at z
      exact z.elim
    | some u =>
      replace z : Pst X P O W β F G σ H false env (fun d H' => ∀ v, Bor X.K (hid H' (msk F G)) H' 0 d v → Q v H') ((liftO (isL d0) env).bind fun _ e => (m e).bind fun k e1 => (liftO (popD k e1[i]?) e1).bind fun r e1 => .ok r.1 (e1.set i (some r.2))) := z
      rw [el] at z
      replace z : Pst X P O W β F G σ H false env (fun d H' => ∀ v, Bor X.K (hid H' (msk F G)) H' 0 d v → Q v H') ((m env).bind fun k e1 => (liftO (popD k e1[i]?) e1).bind fun r e1 => .ok r.1 (e1.set i (some r.2))) := z
      obtain ⟨w, hw, hown⟩ := S.slot i _ he
      refine ⟨w, hw, ?_, ha β F G env σ H _ S ?_⟩
      · rw [hO] at hown
        obtain ⟨p, xs, fps, rfl, _, ⟨l, rfl, h1, _⟩ | ⟨ks, l, rfl, h1, _⟩⟩ := hown
        · exact .inl ⟨rfl, xs, SqL.of h1⟩
        · cases el
      · cases ea : m env with
        | bad => rw [ea] at z; exact z
        | exc a x e => rw [ea] at z; exact z
        | ok d e1 =>
          rw [ea] at z
          replace z : Pst X P O W β F G σ H false env (fun d H' => ∀ v, Bor X.K (hid H' (msk F G)) H' 0 d v → Q v H') ((liftO (popD d e1[i]?) e1).bind fun r e1 => .ok r.1 (e1.set i (some r.2))) := z
          intro H1 S1 x1 p1 v r
          cases ep : popD d e1[i]? with
          | none => rw [ep] at z; exact z.elim
          | some rr =>
            rw [ep] at z
            obtain ⟨l, j, q, el1, rfl, hl, hj, hq, hr2⟩ := popD_ok ep
            obtain ⟨v1, hv1, own1⟩ := S1.slot i _ el1
            rw [hO] at own1
            obtain ⟨p', _, fps, rfl, hf, _⟩ := own1
            have pF : p' ∈ F.flatten := getD_mem_flat (i := i) (by rw [hf]; exact List.mem_cons_self)
            obtain ⟨p, xs, hp, hH, pm, rl, upd'⟩ := S1.set1 hO el1
            rw [hv1] at hp
            cases hp
            rw [hw] at hv1
            cases hv1
            obtain ⟨y, hy, ry⟩ := rl.get hq
            have hs := ixN_seq hj
            have hlim : l.length ≤ 1000000 := hl
            have npG : p' ∉ G := fun mG => (List.nodup_append.mp S1.nd).2.2 p' pF p' mG rfl
            have hh : hid (upd H1 p' (.lst (xs.eraseIdx q))) (msk F G) = hid H1 (msk F G) := hid_chg fun a k => upd_ne fun z => k (z ▸ pm)
            have r0 : v = .int j := r.rp hid_le
            subst r0
            refine ⟨p', xs, j, q, y, rfl, rfl, hH, by omega, by omega, by rw [rl.len]; exact hs.1, hy, ?_⟩
            have z : ∀ H', Stt X.K P O β F G (e1.set i (some rr.2)) σ H' → Fw F G H H' → (false = true → e1.set i (some rr.2) = env ∧ Ex H H') → ∀ v, Bor X.K (hid H' (msk F G)) H' 0 rr.1 v → Q v H' := z
            refine z _ (by rw [hr2]; exact upd' _ _ (rl.erase q)) (x1.trn ⟨by rw [hh]; exact Ex.rfl' _, fun a m => upd_ne fun t : a = p' => npG (by rw [← t]; exact m)⟩) (fun h => by cases h) y ?_
            rw [hh]
            exact ry
end

/-! ### x, y = (e, a), each owned to its depth -/
def sParO (i j : Nat) (ma mb : M) : MSt := fun e => (ma e).toS fun d1 e1 => (mb e1).toS fun d2 e2 => .nx ((e2.set i (some d1)).set j (some d2))
theorem par_ev (i j : Nat) {X : Cx} {c : Fc} {Ol O : List Nat} {n1 n2 : Nat} {b1 b2 : Bool} {ta tb : TE} {ma mb : M} {β : Bc} {F : List (List Addr)} {G : List Addr} {env : Sl} {σ : L2.St} {H : Hp} {Dn : Ends}
    (ha : ∀ β F G env σ H Q, Stt X.K c.P O β F G env σ H → PstO X c.P O c.W β F G σ H n1 b1 env Q (ma env) → ta σ H Q) (hb : ∀ β F G env σ H Q, Stt X.K c.P O β F G env σ H → PstO X c.P O c.W β F G σ H n2 b2 env Q (mb env) → tb σ H Q)
    (hi : (decide (i < O.length) && !c.P.contains i) = true) (hj : (decide (j < O.length) && !c.P.contains j) = true) (S : Stt X.K c.P O β F G env σ H) (z : PstS X c ((O.set i n1).set j n2) Ol β G Dn (sParO i j ma mb env)) {Q : List V → Hp → Prop}
    (hQ : ∀ v1 v2 H2, (∀ H3, Ex H2 H3 → Dn.nx ((σ.set i (some v1)).set j (some v2)) H3) → Q [v1, v2] H2) : tCons ta (tCons tb tNil) σ H Q := by
  rw [Bool.and_eq_true] at hi hj
  refine ha β F G env σ H _ S ?_
  unfold sParO at z
  cases q1 : ma env with
  | bad => rw [q1] at z; exact z
  | exc cc xx e1 => rw [q1] at z; exact fun dx v H1 S1 _ k1 k2 => z dx v σ H1 O F S1 k1 k2
  | ok d1 e1 =>
    rw [q1] at z
    intro v1 H1 fp1 S1 x1 p1 o1
    refine hb β F (fp1 ++ G) e1 σ H1 _ S1 ?_
    have hR : ∀ t ∈ β.R, t ∈ G := fun t m => (S.rr t m).1
    replace z : PstS X c ((O.set i n1).set j n2) Ol β G Dn ((mb e1).toS fun d2 e2 => .nx ((e2.set i (some d1)).set j (some d2))) := z
    cases q2 : mb e1 with
    | bad => rw [q2] at z; exact z
    | exc cc xx e2 =>
      rw [q2] at z
      intro dx v H2 S2 x2 k1 k2
      exact z dx v σ H2 O F (S2.dropG (List.sublist_append_right fp1 G) hR) k1 (Rp.ex (hid_dropG fun t m => List.mem_append_right _ m) _ k2)
    | ok d2 e2 =>
      rw [q2] at z
      intro v2 H2 fp2 S2' x2 p2 o2'
      refine hQ v1 v2 H2 fun H3 x3 => ?_
      have S2 := S2'.ext x3
      have pr : ∀ t ∈ msk F (fp2 ++ (fp1 ++ G)), H3 t = H2 t := fun t m => by
        obtain ⟨o, ho⟩ := S2'.pres t m
        rw [ho]; exact x3 _ _ ho
      have o2 := o2'.frame (hid_ex x3) _ fun t m => pr t (List.mem_append_right _ (List.mem_append_left _ m))
      have pm : (fp2 ++ (fp1 ++ G)).Perm (fp1 ++ (fp2 ++ G)) := by
        rw [← List.append_assoc, ← List.append_assoc]
        exact List.perm_append_comm.append_right G
      have o1' : Own X.K (hid H3 (msk F (fp1 ++ (fp2 ++ G)))) H3 n1 d1 v1 fp1 := by
        rw [← hid_perm pm]
        exact o1.frame (x2.ex.trn (hid_ex x3)) _ fun t m => (pr t (List.mem_append_right _ (List.mem_append_right _ (List.mem_append_left _ m)))).trans (x2.gs t (List.mem_append_left _ m))
      have S3 := Stt.store (fp := fp1) (S2.perm pm) (fun t m => List.mem_append_right _ (hR t m)) (ltO S2 (of_decide_eq_true hi.1)) (by simpa using hi.2) o1'
      refine z _ _ _ (Stt.store (fp := fp2) S3 hR (by rw [List.length_set]; exact ltO S2 (of_decide_eq_true hj.1)) (by simpa using hj.2) (o2.frame (hid_sub fun t m => ?_) _ fun t m => rfl))
      rcases List.mem_append.mp m with m | m
      · rcases flat_set_mem m with m | m
        · exact List.mem_append_left _ m
        · exact List.mem_append_right _ (List.mem_append_right _ (List.mem_append_left _ m))
      · rcases List.mem_append.mp m with m | m
        · exact List.mem_append_right _ (List.mem_append_left _ m)
        · exact List.mem_append_right _ (List.mem_append_right _ (List.mem_append_right _ m))
theorem ms_parO (i j : Nat) {X : Cx} {c : Fc} {Ol O O' : List Nat} {n1 n2 : Nat} {b1 b2 : Bool} {e a : Expr} {ma mb : M} {x y : Str} {px py pt pos : Pos} {kt k2 pt2} (hc : X.calm = true) (hN : X.N.Nodup) (ha : MO X c.P O c.W n1 b1 e ma) (hb : MO X c.P O c.W n2 b2 a mb) (hO : O' = (O.set i n1).set j n2 := by rfl)
    (hi : (decide (i < O.length) && !c.P.contains i) = true := by rfl) (hj : (decide (j < O.length) && !c.P.contains j) = true := by rfl) (hij : i ≠ j := by decide) (hx : X.N[i]? = some x := by rfl) (hy : X.N[j]? = some y := by rfl)
    (hxl : X.env.scope.names.lookup x = some .local := by rfl) (hyl : X.env.scope.names.lookup y = some .local := by rfl)
    (hw : swappedStores [.Tuple [.Name x px, .Name y py] kt pt] (.Tuple [e, a] k2 pt2) X.env = pure (some [x, y]) := by rfl)
    (hs : swapsWithSole [.Tuple [.Name x px, .Name y py] kt pt] (.Tuple [e, a] k2 pt2) pos.line X.env = pure false := by rfl)
    (h1 : starEach (e :: [a]) X.env = (false, eval e X.env) :: starEach [a] X.env := by rfl) (h2 : starEach (a :: []) X.env = (false, eval a X.env) :: starEach [] X.env := by rfl) :
    MS X c Ol O O' (.Assign [.Tuple [.Name x px, .Name y py] kt pt] (.Tuple [e, a] k2 pt2) pos) (sParO i j ma mb) := by
  obtain ⟨ta, pa, ha⟩ := ha.run
  obtain ⟨tb, pb, hb⟩ := hb.run
  subst hO
  refine ⟨_, ps_par hc hN hx hy hij hxl hyl (pa_cons pa (pa_cons pb pa_nil h2) h1) hw hs, fun β F G env σ H Dn S z => ?_⟩
  exact par_ev i j ha hb hi hj S z fun v1 v2 H2 h => ⟨v1, v2, rfl, h H2 (Ex.rfl' _)⟩
theorem ms_parT (i j : Nat) {X : Cx} {c : Fc} {Ol O O' : List Nat} {n1 n2 : Nat} {b1 b2 : Bool} {e a : Expr} {ma mb : M} {x y : Str} {px py pt pos : Pos} {kt k2 pt2} (hc : X.calm = true) (hN : X.N.Nodup) (ha : MO X c.P O c.W n1 b1 e ma) (hb : MO X c.P O c.W n2 b2 a mb) (hO : O' = (O.set i n1).set j n2 := by rfl)
    (hi : (decide (i < O.length) && !c.P.contains i) = true := by rfl) (hj : (decide (j < O.length) && !c.P.contains j) = true := by rfl) (hx : X.N[i]? = some x := by rfl) (hy : X.N[j]? = some y := by rfl)
    (hxl : Loc X.env.scope x := by first | exact Or.inl rfl | exact Or.inr rfl) (hyl : Loc X.env.scope y := by first | exact Or.inl rfl | exact Or.inr rfl)
    (hxf : X.fn x = true ∨ X.env.scope.names.lookup x = some .local := by first | exact .inl rfl | exact .inr rfl) (hyf : X.fn y = true ∨ X.env.scope.names.lookup y = some .local := by first | exact .inl rfl | exact .inr rfl)
    (hs : swapsWithSole [.Tuple [.Name x px, .Name y py] kt pt] (.Tuple [e, a] k2 pt2) pos.line X.env = pure false := by rfl) (hw : swappedStores [.Tuple [.Name x px, .Name y py] kt pt] (.Tuple [e, a] k2 pt2) X.env = pure none := by rfl)
    (h0 : (assignEach [.Tuple [.Name x px, .Name y py] kt pt] X.env).map (·.2) = [assign (.Tuple [.Name x px, .Name y py] kt pt) X.env] := by rfl)
    (h1 : starEach (e :: [a]) X.env = (false, eval e X.env) :: starEach [a] X.env := by rfl) (h2 : starEach (a :: []) X.env = (false, eval a X.env) :: starEach [] X.env := by rfl)
    (hn : (assignEach [.Name x px, .Name y py] X.env).length = 2 := by rfl) (hst : (assignEach [.Name x px, .Name y py] X.env).findIdx? (·.1) = none := by rfl)
    (h3 : (assignEach [.Name x px, .Name y py] X.env).map (·.2) = assign (.Name x px) X.env :: (assignEach [.Name y py] X.env).map (·.2) := by rfl) (h4 : (assignEach [.Name y py] X.env).map (·.2) = assign (.Name y py) X.env :: (assignEach [] X.env).map (·.2) := by rfl) :
    MS X c Ol O O' (.Assign [.Tuple [.Name x px, .Name y py] kt pt] (.Tuple [e, a] k2 pt2) pos) (sParO i j ma mb) := by
  obtain ⟨ta, pa, ha⟩ := ha.run
  obtain ⟨tb, pb, hb⟩ := hb.run
  subst hO
  refine ⟨_, ps_asg (pe_tup (pa_cons pa (pa_cons pb pa_nil h2) h1)) (pg_tup hc (pgs_cons (pg_name hN hx hxl hxf) (pgs_cons (pg_name hN hy hyl hyf) pgs_nil h4) h3) hn hst) hs hw h0, fun β F G env σ H Dn S z => ?_⟩
  unfold tAsg tTup
  refine par_ev i j ha hb hi hj S z ?_
  refine fun v1 v2 H2 h => ⟨by show 2 ≤ sizeLine; decide, fun p hp => ?_⟩
  exact ⟨p, [v1, v2], rfl, .inl (.inl upd_same), rfl, v1, [v2], rfl, v2, [], rfl, rfl, h _ (Ex.new hp)⟩
/-! ### stores into x[a][k], one behind another -/
def TQ (X : Cx) (c : Fc) (O : List Nat) (β : Bc) (F : List (List Addr)) (G : List Addr) (H : Hp) (Q : L2.St → Hp → Prop) : SRs → Prop
  | .nx e => ∀ σ' H', Stt X.K c.P O β F G e σ' H' → Ex (hid H (msk F G)) (hid H' (msk F G)) → Q σ' H'
  | _ => False
structure MTS (X : Cx) (c : Fc) (O : List Nat) (t : Expr) (f : D → MSt) : Prop where
  run : ∃ g : TG, PG X t g ∧ ∀ β F G env σ H d v Q, Stt X.K c.P O β F G env σ H → Rp X.K (hid H (msk F G)) d v → TQ X c O β F G H Q (f d env) → g v σ H Q
structure MTSs (X : Cx) (c : Fc) (O : List Nat) (ts : List Expr) (f : List D → MSt) : Prop where
  run : ∃ g : TGs, PGs X ts g ∧ ∀ β F G env σ H ds vs Q, Stt X.K c.P O β F G env σ H → Rps X.K (hid H (msk F G)) ds vs → TQ X c O β F G H Q (f ds env) → g vs σ H Q
def uNil : List D → MSt := fun ds e => match ds with | [] => .nx e | _ => .bad
def uCons (f : D → MSt) (r : List D → MSt) : List D → MSt := fun ds e => match ds with | d :: l => (match f d e with | .nx e1 => r l e1 | _ => .bad) | [] => .bad
def uT (n : Nat) (f : List D → MSt) : D → MSt := fun d e => match d with | .tup l => if l.length = n then f l e else .bad | _ => .bad
def uSub2 (i : Nat) (ma mk : M) : D → MSt := fun d e1 => (mVar i e1).nox.toS fun _ e1 => (ma e1).nox.toS fun a e2 => (liftO (rowAt a e2[i]?) e2).toS fun w e2 => (mk e2).nox.toS fun k e3 =>
  stO i ((setD k d (some (some (.lst w.2.2)))).map fun m => .lst (w.1.set w.2.1 m)) e3
def sStr (f : D → MSt) (m : M) : MSt := fun e => (m e).toS fun d e1 => match f d e1 with | .nx e2 => .nx e2 | _ => .bad
section
variable {X : Cx} {c : Fc} {O Ol : List Nat} {pos : Pos}
theorem mtss_nil : MTSs X c O [] uNil := by
  refine ⟨_, pgs_nil, fun β F G env σ H ds vs Q S r q => ?_⟩
  cases ds with
  | nil => exact ⟨r, q σ H S (Ex.rfl' _)⟩
  | cons d l => exact q.elim
theorem mtss_cons {t : Expr} {ts : List Expr} {f : D → MSt} {fr : List D → MSt} (h1 : MTS X c O t f) (h2 : MTSs X c O ts fr) (hs : (assignEach (t :: ts) X.env).map (·.2) = assign t X.env :: (assignEach ts X.env).map (·.2) := by rfl) : MTSs X c O (t :: ts) (uCons f fr) := by
  obtain ⟨g, p1, h1⟩ := h1.run
  obtain ⟨gr, p2, h2⟩ := h2.run
  refine ⟨_, pgs_cons p1 p2 hs, fun β F G env σ H ds vs Q S r q => ?_⟩
  cases ds with
  | nil => exact q.elim
  | cons d l =>
    obtain ⟨v, rest, rfl, r1, r2⟩ := r
    replace q : TQ X c O β F G H Q (match f d env with | .nx e1 => fr l e1 | _ => .bad) := q
    refine ⟨v, rest, rfl, h1 β F G env σ H d v _ S r1 ?_⟩
    cases hf : f d env with
    | nx e1 =>
      rw [hf] at q
      intro σ1 H1 S1 x1
      refine h2 β F G e1 σ1 H1 l rest _ S1 (Rps.ex x1 _ r2) ?_
      replace q : TQ X c O β F G H Q (fr l e1) := q
      cases hg : fr l e1 with
      | nx e2 =>
        rw [hg] at q
        exact fun σ2 H2 S2 x2 => q σ2 H2 S2 (x1.trn x2)
      | _ => rw [hg] at q; exact q.elim
    | _ => rw [hf] at q; exact q.elim
theorem mts_tup {ts : List Expr} {k n : Nat} {f : List D → MSt} (hc : X.calm = true) (h : MTSs X c O ts f) (hn : (assignEach ts X.env).length = n := by rfl) (hst : (assignEach ts X.env).findIdx? (·.1) = none := by rfl) : MTS X c O (.Tuple ts k pos) (uT n f) := by
  obtain ⟨g, p, h⟩ := h.run
  refine ⟨_, pg_tup hc p hn hst, fun β F G env σ H d v Q S r q => ?_⟩
  cases d with
  | tup l =>
    obtain ⟨a, xs, rfl, h1, h2⟩ := r
    unfold uT at q
    dsimp only at q
    split at q
    · rename_i hn
      exact ⟨a, xs, rfl, (ex_p hid_le h1).t, by rw [h2.len]; exact hn, h β F G env σ H l xs Q S h2 q⟩
    · exact q.elim
  | _ => exact q.elim
theorem ms_str {tg e : Expr} {f : D → MSt} {b : Bool} {m : M} (hg : MTS X c O tg f) (ha : ME X c.P O c.W 0 b e m) (hs : swapsWithSole [tg] e pos.line X.env = pure false := by rfl) (hw : swappedStores [tg] e X.env = pure none := by rfl)
    (h1 : (assignEach [tg] X.env).map (·.2) = [assign tg X.env] := by rfl) : MS X c Ol O O (.Assign [tg] e pos) (sStr f m) := by
  obtain ⟨t, p, h⟩ := ha.run
  obtain ⟨g, pg, hg⟩ := hg.run
  refine ⟨_, ps_asg p pg hs hw h1, fun β F G env σ H Dn S z => h β F G env σ H _ S (z.bind fun d e1 H1 S1 q v r => ?_)⟩
  refine hg β F G e1 σ H1 d v _ S1 r ?_
  cases hf : f d e1 with
  | nx e2 =>
    rw [hf] at q
    exact fun σ' H' S' _ => q σ' H' F S'
  | _ => rw [hf] at q; exact q.elim
theorem row_in {K : Fg} {P O : List Nat} {β : Bc} {F : List (List Addr)} {G : List Addr} {env : Sl} {σ : L2.St} {H : Hp} {i k : Nat} {l m : List D} {p r : Addr} {xs : List V} (S : Stt K P O β F G env σ H) (hO : O.getD i 0 = 2) (he : env[i]? = some (some (.lst l))) (hk : l[k]? = some (.lst m))
    (hp : σ[i]? = some (some (.ref p))) (hH : H p = some (.lst xs)) (hx : xs[k]? = some (.ref r)) : r ∈ msk F G := by
  obtain ⟨v, hv, h⟩ := S.slot i _ he
  rw [hO] at h
  rw [hp] at hv
  cases hv
  obtain ⟨p', xs', fps, e0, hf, h⟩ := h
  cases e0
  rcases h with ⟨l2, e, h1, h2⟩ | ⟨_, _, e, _⟩
  · cases e
    rw [hH] at h1
    cases h1
    obtain ⟨x, f, e1, e2, q, ys, fps2, e3, hf2, h3⟩ := h2.get hk
    rw [hx] at e1
    cases e1
    cases e3
    refine List.mem_append_left _ (getD_mem_flat (i := i) ?_)
    rw [hf]
    exact List.mem_cons_of_mem _ (mem_flat_of (List.mem_of_getElem? e2) (by rw [hf2]; exact List.mem_cons_self))
  · cases e
theorem mts_sub2 (i : Nat) {x : Str} {g k : Expr} {ma mk : M} {kpos gpos np : Pos} {n n2 : Nat} {b2 b3 : Bool} (ha : ME X c.P O c.W n b2 g ma) (hk : ME X c.P O c.W n2 b3 k mk) (hb3 : b3 = true := by rfl) (hO : O.getD i 0 = 2 := by rfl) (hx : X.N[i]? = some x := by rfl) (hvis : Vis X.env.scope x := by first | exact Or.inl rfl | exact Or.inr (Or.inl rfl) | exact Or.inr (Or.inr rfl))
    (hd : (x == ("__debug__" : Str)) = false := by decide) (hcd : (x == ("__classdict__" : Str)) = false := by decide)
    (hns : ∀ t u w, PE X (.Name x np) t → PE X g u → PE X k w → PG X (.Subscript (.Subscript (.Name x np) g gpos) k kpos) (gSub (tOp (rIxL X.K) t u) w rSetL) := by exact fun t u w h g k => pg_sub (pe_ix ix_list h g (fun _ _ => rfl)) k set_list) :
    MTS X c O (.Subscript (.Subscript (.Name x np) g gpos) k kpos) (uSub2 i ma mk) := by
  obtain ⟨ta, pa, ha⟩ := ha.run
  obtain ⟨tk, pk, hk⟩ := hk.run
  refine ⟨_, hns _ _ _ (pe_var hx hvis hd hcd) pa pk, fun β F G e1 σ H1 d v Q S1 r q => ?_⟩
  unfold uSub2 at q
  cases ev : mVar i e1 with
  | bad => rw [ev] at q; exact q.elim
  | exc _ _ _ => rw [ev] at q; exact q.elim
  | ok d0 e0 =>
    obtain ⟨he, h0⟩ := mVar_ok ev
    rw [h0] at ev
    rw [ev] at q
    clear h0
    replace q : TQ X c O β F G H1 Q ((ma e1).nox.toS fun a e2 => (liftO (rowAt a e2[i]?) e2).toS fun w e2 => (mk e2).nox.toS fun k e3 => stO i ((setD k d (some (some (.lst w.2.2)))).map fun m => .lst (w.1.set w.2.1 m)) e3) := q
    obtain ⟨w, hw, _⟩ := S1.slot i _ he
    refine ⟨w, hw, ha β F G e1 σ H1 _ S1 ?_⟩
    cases ea : ma e1 with
    | bad => rw [ea] at q; exact q
    | exc a x e => rw [ea] at q; exact q.elim
    | ok a2 e2 =>
      rw [ea] at q
      intro H2 S2 x2 p2 ya rya
      replace q : TQ X c O β F G H1 Q ((liftO (rowAt a2 e2[i]?) e2).toS fun w e2 => (mk e2).nox.toS fun k e3 => stO i ((setD k d (some (some (.lst w.2.2)))).map fun m => .lst (w.1.set w.2.1 m)) e3) := q
      cases hr : rowAt a2 e2[i]? with
      | none => rw [hr] at q; exact q.elim
      | some w3 =>
        obtain ⟨l, j, m⟩ := w3
        rw [hr] at q
        replace q : TQ X c O β F G H1 Q ((mk e2).nox.toS fun k e3 => stO i ((setD k d (some (some (.lst m)))).map fun m => .lst (l.set j m)) e3) := q
        obtain ⟨aa, el, rfl, ej, em⟩ := rowAt_ok hr
        obtain ⟨p, xs, r2, ys, hp, hH, hl, hx2, hH2, npq, rl, _⟩ := S2.set2 hO el em
        rw [hw] at hp
        cases hp
        have hix : atI xs aa = some (.ref r2) := by
          unfold atI
          rw [hl, ej]; exact hx2
        refine ⟨p, xs, aa, .ref r2, rfl, rya.rp hid_le, SqL.of hH, hix, hk β F G e2 σ H2 _ S2 ?_⟩
        cases ek : mk e2 with
        | bad => rw [ek] at q; exact q
        | exc a x e => rw [ek] at q; exact q.elim
        | ok k2 e3 =>
          rw [ek] at q
          intro H3 S3 x3 p3 yk ryk
          obtain ⟨e32, x3'⟩ := p3 hb3
          subst e32
          replace q : TQ X c O β F G H1 Q (stO i ((setD k2 d (some (some (.lst m)))).map fun m => .lst (l.set j m)) e3) := q
          cases es : setD k2 d (some (some (.lst m))) with
          | none => rw [es] at q; exact q.elim
          | some m' =>
            rw [es] at q
            obtain ⟨m0, kk, jj, e0, rfl, ej2, rfl⟩ := setD_ok es
            cases e0
            obtain ⟨p', xs', q', ys', hp', hH', hl', hx', hH2', _, rl', upd'⟩ := S3.set2 hO el em
            rw [hw] at hp'
            cases hp'
            have e1 : xs' = xs := by
              have h := x3' _ _ hH
              rw [hH'] at h
              cases h; rfl
            subst e1
            rw [hx2] at hx'
            cases hx'
            have pm : r2 ∈ msk F G := row_in S3 hO el em hw hH' hx2
            refine ⟨r2, ys', kk, jj, rfl, ryk.rp hid_le, hH2', by rw [rl'.len]; exact ej2, ?_⟩
            replace q : ∀ σ' H', Stt X.K c.P O β F G (e3.set i (some (.lst (l.set j (.lst (m.set jj d)))))) σ' H' → Ex (hid H1 (msk F G)) (hid H' (msk F G)) → Q σ' H' := q
            refine q σ _ (upd' _ _ (rl'.set jj (Rp.ex (x2.trn x3).ex d r))) ((x2.trn x3).ex.trn ?_)
            rw [hid_chg fun a k => upd_ne fun z => k (z ▸ pm)]
            exact Ex.rfl' _
end

/-! ### list(range(n)) -/
def mLR (m : M) : M := fun e => (m e).bind fun d e1 => match d with | .int j => if 0 ≤ j ∧ j ≤ 1000000 then .ok (.lst (rngD 0 j.toNat)) e1 else .bad | _ => .bad
theorem rps_rg {K : Fg} {H : Hp} (j : Int) : Rps K H (rngD 0 j.toNat) (rgV 0 j) := by
  unfold rngD rgV
  rw [Int.sub_zero]
  generalize List.range j.toNat = l
  induction l with
  | nil => exact rfl
  | cons n l ih => exact ⟨_, _, rfl, rfl, ih⟩
theorem mo_lr {X : Cx} {P O : List Nat} {W : WX} {a : Expr} {b : Bool} {m : M} {p1 p2 pos1 pos2 : Pos} (hc : X.calm = true) (ha : ME X P O W 0 b a m) (hml : X.mg "list" = none) (hmr : X.mg "range" = none) (hgl : Gl X "list" := by rfl) (hgr : Gl X "range" := by rfl)
    (na : starEach [a] X.env = (false, eval a X.env) :: starEach [] X.env := by rfl) (nb : starEach [.Call (.Name "range" p2) [a] [] pos2] X.env = (false, eval (.Call (.Name "range" p2) [a] [] pos2) X.env) :: starEach [] X.env := by rfl) :
    MO X P O W 1 b (.Call (.Name "list" p1) [.Call (.Name "range" p2) [a] [] pos2] [] pos1) (mLR m) := by
  obtain ⟨t, p, h⟩ := ha.run
  refine ⟨_, pe_listRg hc hgl hml (prg_1 hgr hmr p na) nb, fun β F G env σ H Q S z => h β F G env σ H _ S ?_⟩
  unfold mLR at z
  cases q : m env with
  | bad => rw [q] at z; exact z
  | exc c x e => rw [q] at z; exact z
  | ok d e =>
    rw [q] at z
    intro H1 S1 x1 p1 v r
    cases d with
    | int j =>
      replace z : PstO X P O W β F G σ H 1 b env Q (if 0 ≤ j ∧ j ≤ 1000000 then .ok (.lst (rngD 0 j.toNat)) e else .bad) := z
      split at z
      · rename_i hj
        have r0 : v = .int j := r.rp hid_le
        subst r0
        refine ⟨j, rfl, RgOk.of_le (by omega) (by omega) (by omega) (by omega), fun a ha => ?_⟩
        exact NewL.of (m := mBad) S1 x1 p1 z a _ ha (rps_rg j)
      · exact z.elim
    | _ => exact z.elim

theorem me_gint {X : Cx} {P O : List Nat} {W : WX} {x : Str} {j : Int} {pos : Pos} (h : ∃ t, X.mg x = some (.int j t)) (hg : Gl X x := by rfl) (hd : (x == ("__debug__" : Str)) = false := by decide) : ME X P O W 0 true (.Name x pos) (mC (.int j)) := by
  obtain ⟨t, h⟩ := h
  exact me_glob (v := .int j) hg h ⟨t, rfl⟩ rfl hd

/-- a tuple of targets in a block: the written part named from outside -/
theorem mg_tupB {X : Cx} {P O is : List Nat} {ts : List Expr} {k : Nat} {g : TGs} {f : List D → Sl → Option Sl} {n : Nat} {pos : Pos} (K : Fg) (hK : X.K = K) (hc : X.calm = true) (h : MGs X P O is ts g f) (hn : (assignEach ts X.env).length = n := by rfl) (hst : (assignEach ts X.env).findIdx? (·.1) = none := by rfl) : MG X P O is (.Tuple ts k pos) (gTup K n g) (gT n f) := by
  subst hK
  exact mg_tup hc h hn hst
end M3

/-! MW3 -/
set_option Elab.async false
set_option linter.all false
set_option maxRecDepth 100000
set_option maxHeartbeats 400000
namespace M3
open PySem PySem.Spec PyProof.Rows L2
/-- only the going on -/
def KN (N : Sl → Prop) : KS := ⟨N, fun _ _ => False, fun _ => False, fun _ => False⟩
section
variable {e : Sl} {Q : D → Sl → Prop} {k : KS} {i j n : Nat} {m ma mb mk : M} {N : Sl → Prop}
theorem RP_pop : RP (mPop i m e) Q = RP (mVar i e) fun d0 e => OP (isL d0) fun _ => RP (m e) fun key e1 => OP (popD key e1[i]?) fun r => Q r.1 (e1.set i (some r.2)) := by
  unfold mPop; simp only [RP_bind, RP_lift, RP_ok]
theorem RP_lr : RP (mLR m e) Q = RP (m e) fun d e1 => match d with | .int x => (0 ≤ x ∧ x ≤ 1000000) ∧ Q (.lst (rngD 0 x.toNat)) e1 | _ => False := by
  unfold mLR; rw [RP_bind]; congr; funext d e1
  cases d with
  | int x =>
    dsimp only
    split
    · rename_i h; simp only [RP, h, true_and]
    · rename_i h; simp only [RP, h, false_and]
  | _ => rfl
theorem SP_parO : SP (sParO i j ma mb e) k = RP (ma e) fun d1 e1 => RP (mb e1) fun d2 e2 => k.nx ((e2.set i (some d1)).set j (some d2)) := by
  unfold sParO; simp only [SP_toS]; rfl
theorem SP_str {f : D → MSt} : SP (sStr f m e) k = RP (m e) fun d e1 => SP (f d e1) (KN k.nx) := by
  unfold sStr; rw [SP_toS]; congr; funext d e1
  cases f d e1 <;> rfl
theorem SP_uT {f : List D → MSt} {l : List D} : SP (uT n f (.tup l) e) k = (l.length = n ∧ SP (f l e) k) := by
  unfold uT
  dsimp only
  split
  · rename_i h; simp only [h, true_and]
  · rename_i h; simp only [h, false_and]; rfl
theorem SP_uN : SP (uNil [] e) k = k.nx e := rfl
theorem SP_uC {f : D → MSt} {r : List D → MSt} {d : D} {l : List D} : SP (uCons f r (d :: l) e) (KN N) = SP (f d e) (KN fun e1 => SP (r l e1) (KN N)) := by
  unfold uCons
  dsimp only
  cases f d e <;> rfl
theorem SP_uS {d : D} : SP (uSub2 i ma mk d e) (KN N) = RP (mVar i e) fun _ e1 => RP (ma e1) fun a e2 => OP (rowAt a e2[i]?) fun w => RP (mk e2) fun key e3 => OP ((setD key d (some (some (.lst w.2.2)))).map fun m => D.lst (w.1.set w.2.1 m)) fun z => N (e3.set i (some z)) := by
  unfold uSub2; simp only [SP_toS, SP_stO, RP_lift, RP_nox]; rfl
end

section
variable {e : Sl} {Q : Sl → Prop} {n : Nat}
theorem OP_gT {f : List D → Sl → Option Sl} {l : List D} : OP (gT n f (.tup l) e) Q = (l.length = n ∧ OP (f l e) Q) := by
  unfold gT
  dsimp only
  split
  · rename_i h; simp only [h, true_and]
  · rename_i h; simp only [h, false_and]; rfl
theorem OP_gC {f : D → Sl → Option Sl} {r : List D → Sl → Option Sl} {d : D} {l : List D} : OP (gsCons f r (d :: l) e) Q = OP (f d e) fun e1 => OP (r l e1) Q := by
  unfold gsCons
  dsimp only
  cases f d e <;> rfl
theorem OP_gE : OP (gsNil [] e) Q = Q e := rfl
end
end M3

/-! MD -/
set_option Elab.async false
set_option linter.all false
set_option maxRecDepth 100000
set_option maxHeartbeats 4000000
namespace M3
open PySem PySem.Spec PyProof.Rows L2

/-! ### in, not in -/
def kIn (k : Key) (ks : List Key) : Bool := ks.any fun j => decide (j = k)
def D.mem : D → D → Option Bool
  | d, .lst l => (match D.shaped d, D.shaped (.lst l) with | some p, some (.list ps) => some (ps.any fun z => PyData.eqv z p) | _, _ => none)
  | .int i, .tup l => (D.ints l).map fun ns => ns.any fun j => j == i
  | .int i, .dct ks _ => some (kIn (.inl i) ks)
  | _, _ => none
def D.isin (d e : D) : Option D := (D.mem d e).map .bl
def D.notin (d e : D) : Option D := (D.mem d e).map fun b => .bl !b
theorem valV_zip {k : Key} : ∀ {ks : List Key} {xs : List V}, xs.length = ks.length → (valV (ks.zip xs) k).isSome = kIn k ks
  | [], [], _ => rfl
  | [], _ :: _, h => by simp at h
  | _ :: _, [], h => by simp at h
  | j :: ks, x :: xs, h => by
    have ih := valV_zip (k := k) (ks := ks) (xs := xs) (by simpa using h)
    rw [List.zip_cons_cons]
    unfold kIn at ih ⊢
    rw [List.any_cons]
    by_cases e : j = k
    · rw [valV_pos (p := (j, x)) e, decide_eq_true e]
      rfl
    · rw [valV_neg (p := (j, x)) e, decide_eq_false e, Bool.false_or, ih]
theorem inV_ints (i : Int) (ns : List Int) : inV (.int i) (ns.map V.int) = ns.any fun j => j == i := by
  unfold inV
  rw [List.any_map]
  rfl
theorem flat_ints (ns : List Int) : (ns.map V.int).all flatV = true := by
  rw [List.all_map, List.all_eq_true]
  intro _ _; rfl
section
variable {X : Cx}
theorem op_inK (hu : X.A.units + 1 < cLine) : OpR X (compareOp .In) (fun x y H Q => ∃ a o, y = .ref a ∧ DGet H a x o ∧ Q (.bl o.isSome) H) := by
  intro pins s σ H x y v u Q I rx ry h
  obtain ⟨a, o, rfl, g, q⟩ := h
  cases ry
  exact d_in hu I g rx fun s3 I3 => ⟨.bl o.isSome, H, I3, rfl, q⟩
theorem op_ninK (hu : X.A.units + 1 < cLine) : OpR X (compareOp .NotIn) (fun x y H Q => ∃ a o, y = .ref a ∧ DGet H a x o ∧ Q (.bl (!o.isSome)) H) := by
  intro pins s σ H x y v u Q I rx ry h
  obtain ⟨a, o, rfl, g, q⟩ := h
  cases ry
  exact d_notIn hu I g rx fun s3 I3 => ⟨.bl (!o.isSome), H, I3, rfl, q⟩
theorem mem_cases {K : Fg} {H : Hp} {d1 d2 : D} {v1 v2 : V} {b : Bool} (hf : D.mem d1 d2 = some b) (r1 : Rp K H d1 v1) (r2 : Rp K H d2 v2) :
    (∃ p ps, Dp K H v1 p ∧ Dp K H v2 (.list ps) ∧ SeqAt.shaped p = true ∧ SeqAt.shaped (.list ps) = true ∧ b = ps.any fun z => PyData.eqv z p) ∨
    (∃ p xs, v2 = .ref p ∧ SqT K H p xs ∧ flatV v1 = true ∧ xs.all flatV = true ∧ b = inV v1 xs) ∨ (∃ a o, v2 = .ref a ∧ DGet H a v1 o ∧ b = o.isSome) := by
  cases d2 with
  | lst l =>
    have hf : (match D.shaped d1, D.shaped (.lst l) with | some p, some (.list ps) => some (ps.any fun z => PyData.eqv z p) | _, _ => none) = some b := by cases d1 <;> exact hf
    cases e1 : D.shaped d1 with
    | none => rw [e1] at hf; cases hf
    | some p =>
      cases e2 : D.shaped (.lst l) with
      | none => rw [e1, e2] at hf; cases hf
      | some q =>
        rw [e1, e2] at hf
        cases q <;> first | cases hf | skip
        have h1 := D.shaped_dp e1 r1
        have h2 := D.shaped_dp e2 r2
        exact .inl ⟨_, _, h1.1, h2.1, h1.2, h2.2, rfl⟩
  | tup l =>
    cases d1 <;> first | cases hf | skip
    rename_i i
    have hf : (D.ints l).map (fun ns => ns.any fun j => j == i) = some b := hf
    cases hi : D.ints l with
    | none => rw [hi] at hf; cases hf
    | some ns =>
      rw [hi] at hf
      cases hf
      obtain ⟨a, xs, rfl, h1, h2⟩ := r2
      have ex := D.ints_rps hi h2
      subst ex
      obtain rfl := (r1 : v1 = _)
      exact .inr (.inl ⟨a, _, rfl, h1.t, rfl, flat_ints ns, (inV_ints i ns).symm⟩)
  | dct ks l =>
    cases d1 <;> first | (cases hf; done) | skip
    rename_i i
    cases hf
    obtain ⟨a, xs, rfl, h1, h2, h3⟩ := r2
    obtain rfl := (r1 : v1 = _)
    exact .inr (.inr ⟨a, _, rfl, DGet.k (k := .inl i) h1, (valV_zip (by rw [h3.len, h2])).symm⟩)
  | _ => cases d1 <;> cases hf
theorem oIn (hr : X.A.units + 100 < cLine) : OpS X (compareOp .In) D.isin := by
  refine ⟨_, (op_inD (by omega)).or (op_in_seq.or (op_inK (by omega))), fun H d1 d2 v1 v2 d Q hf r1 r2 q => ?_⟩
  unfold D.isin at hf
  cases e : D.mem d1 d2 with
  | none => rw [e] at hf; cases hf
  | some b =>
    rw [e] at hf
    cases hf
    rcases mem_cases e r1 r2 with ⟨p, ps, h1, h2, h3, h4, rfl⟩ | ⟨p, xs, h1, h2, h3, h4, rfl⟩ | ⟨a, o, h1, h2, rfl⟩
    · exact .inl ⟨p, ps, h1, h2, h3, h4, q _ rfl⟩
    · exact .inr (.inl ⟨p, xs, h1, .inr h2, h3, h4, q _ rfl⟩)
    · exact .inr (.inr ⟨a, o, h1, h2, q _ rfl⟩)
theorem oNotIn (hr : X.A.units + 100 < cLine) : OpS X (compareOp .NotIn) D.notin := by
  refine ⟨_, (op_notInD (by omega)).or (op_notIn_seq.or (op_ninK (by omega))), fun H d1 d2 v1 v2 d Q hf r1 r2 q => ?_⟩
  unfold D.notin at hf
  cases e : D.mem d1 d2 with
  | none => rw [e] at hf; cases hf
  | some b =>
    rw [e] at hf
    cases hf
    rcases mem_cases e r1 r2 with ⟨p, ps, h1, h2, h3, h4, rfl⟩ | ⟨p, xs, h1, h2, h3, h4, rfl⟩ | ⟨a, o, h1, h2, rfl⟩
    · exact .inl ⟨p, ps, h1, h2, h3, h4, q _ rfl⟩
    · exact .inr (.inl ⟨p, xs, h1, .inr h2, h3, h4, q _ rfl⟩)
    · exact .inr (.inr ⟨a, o, h1, h2, q _ rfl⟩)

/-! ### repr -/
def shwD (d : D) : Option D := match D.shaped d with | some p => if p.showable = true ∧ p.shown.length ≤ lim then some (.str p.shown) else none | none => none
def fRepr : List D → Option D
  | [.lst l] => shwD (.lst l)
  | [.tup l] => shwD (.tup l)
  | _ => none
theorem call_reprP {k : Nat} (hr : RoomG k X.A) : CallR X (.builtin "repr") (fun xs H Q => ∃ a p, xs = [.ref a] ∧ Dp X.K H (.ref a) p ∧ SeqAt.shaped p = true ∧ p.showable = true ∧ p.shown.length ≤ lim ∧ Q (.str p.shown) H) := by
  intro pins s σ H xs us Q I r h
  obtain ⟨a, p, rfl, dp, sh, ps, pl, q⟩ := h
  obtain ⟨u, rfl, ru⟩ := vals1 r
  obtain ⟨as, rd⟩ := Dp.reads I p (.ref a) u dp ru
  obtain rfl : u = Value.ref a := ru
  have sh' : (p.canLay0 && decide (p.depth ≤ 64)) = true := sh
  rw [Bool.and_eq_true, decide_eq_true_eq] at sh'
  have hu := hr.units5
  refine repr_of_reads' rd ps (PyData.noDict_hsm (PyData.hasDict_of_canLay p sh'.1)) hr.grd (by omega) (fun _ _ e => e) (fun h' t tk kp => ?_) (lim_le pl)
  exact ⟨.str _, H, I.kept (t' := tk) kp, ⟨_, rfl⟩, q⟩
theorem cRepr {k : Nat} (hr : RoomG k X.A) : CallS X (.builtin "repr") fRepr := by
  refine ⟨_, call_reprP hr, fun H ds vs d Q hf hr q => ?_⟩
  have one : ∀ {d0 : D} {v : V}, (∃ a, v = .ref a) → shwD d0 = some d → Rp X.K H d0 v → (∃ a p, [v] = [.ref a] ∧ Dp X.K H (.ref a) p ∧ SeqAt.shaped p = true ∧ p.showable = true ∧ p.shown.length ≤ lim ∧ Q (.str p.shown) H) := by
    intro d0 v ⟨a, hv⟩ e r
    subst hv
    unfold shwD at e
    cases e1 : D.shaped d0 with
    | none => rw [e1] at e; cases e
    | some p =>
      rw [e1] at e
      dsimp only at e
      split at e
      · rename_i hp
        cases e
        have h1 := D.shaped_dp e1 r
        exact ⟨a, p, rfl, h1.1, h1.2, hp.1, hp.2, q _ rfl⟩
      · cases e
  unfold fRepr at hf
  split at hf
  · obtain ⟨v, rfl, hv⟩ := hr.sgl
    exact one (let ⟨a, _, h, _⟩ := hv; ⟨a, h⟩) hf hv
  · obtain ⟨v, rfl, hv⟩ := hr.sgl
    exact one (let ⟨a, _, h, _⟩ := hv; ⟨a, h⟩) hf hv
  · cases hf
end

/-! ### dicts with whole numbers as keys -/
def dct1 (k v : D) : Option D := match k with | .int i => some (.dct [.inl i] [v]) | _ => none
def mDct1 (mk mv : M) : M := fun e => (mk e).nox.bind fun k e1 => (mv e1).nox.bind fun v e2 => liftO (dct1 k v) e2
section
variable {X : Cx} {P O O' Ol : List Nat} {W : WX} {c : Fc} {n : Nat} {b b1 b2 : Bool} {e ke ve : Expr} {mk mv : M} {pos : Pos}
/-- {k: v} -/
theorem mo_dct1 (hk : ME X P O W 0 true ke mk) (hv : ME X P O W 0 true ve mv) : MO X P O W 1 true (.Dict [some ke] [ve] pos) (mDct1 mk mv) := by
  obtain ⟨tk, pk, hk⟩ := hk.run
  obtain ⟨tv, pv, hv⟩ := hv.run
  refine ⟨_, pe_disp (pps_cons pk pv pps_nil) rfl rfl (by simp) (by show 1 ≤ 15; decide), fun β F G env σ H Q S z p hp => ?_⟩
  have np := S.fresh hp
  show tk σ (upd H p (.dK [])) _
  refine hk β F (p :: G) env σ _ _ (S.newG hp) ?_
  unfold mDct1 at z
  cases e1 : mk env with
  | bad => rw [e1] at z; exact z.elim
  | exc a x ee => rw [e1] at z; exact z.elim
  | ok k env1 =>
    rw [e1] at z
    intro H1 S1 x1 p1 v r1
    obtain ⟨q1, g1⟩ := p1 rfl
    subst q1
    refine hv β F (p :: G) env1 σ H1 _ S1 ?_
    have z : PstO X P O W β F G σ H 1 true env1 Q ((mv env1).nox.bind fun v e2 => liftO (dct1 k v) e2) := z
    cases e2 : mv env1 with
    | bad => rw [e2] at z; exact z.elim
    | exc a x ee => rw [e2] at z; exact z.elim
    | ok d2 env2 =>
      rw [e2] at z
      have z : PstO X P O W β F G σ H 1 true env1 Q (liftO (dct1 k d2) env2) := z
      intro H2 S2 x2 p2 w r2
      obtain ⟨q2, g2⟩ := p2 rfl
      subst q2
      obtain ⟨i, rfl⟩ : ∃ i, k = .int i := by
        cases k with
        | int i => exact ⟨i, rfl⟩
        | _ => exact z.elim
      obtain rfl : v = .int i := r1
      have at1 : H2 p = some (.dK []) := by rw [x2.gs p List.mem_cons_self, x1.gs p List.mem_cons_self, upd_same]
      have at0 : ∀ {a : Addr} {o : HO}, H a = some o → a ≠ p := fun h t => by rw [t, hp] at h; cases h
      refine ⟨at1, [(.inl i, w)], rfl, by show 1 ≤ 15; decide, ?_⟩
      show Q (.ref p) (upd H2 p (.dK [(.inl i, w)]))
      have pR : p ∉ β.R := fun m => np (List.mem_append_right _ (S.rr p m).1)
      have hs : hid (upd H2 p (.dK [(.inl i, w)])) (msk F (p :: G)) = hid H2 (msk F (p :: G)) := hid_updG List.mem_cons_self
      refine z (.ref p) _ [p] (S2.updG List.mem_cons_self pR) ⟨?_, fun a m => ?_⟩ (fun _ => ⟨rfl, fun a o h => ?_⟩) ⟨p, [w], [[]], rfl, rfl, .inr ⟨_, _, rfl, upd_same, rfl, ⟨⟨rfl, ?_⟩, trivial⟩⟩⟩
      · have h1 := x1.ex.trn x2.ex
        rw [hid_newG S hp] at h1
        show Ex _ (hid (upd H2 p (.dK [(.inl i, w)])) (msk F (p :: G)))
        rw [hs]; exact h1
      · have ap : a ≠ p := fun t => np (by rw [← t]; exact List.mem_append_right _ m)
        rw [upd_ne ap, x2.gs a (List.mem_cons_of_mem _ m), x1.gs a (List.mem_cons_of_mem _ m), upd_ne ap]
      · rw [upd_ne (at0 h)]
        exact g2 a o (g1 a o (by rw [upd_ne (at0 h)]; exact h))
      · show Rp X.K (hid (upd H2 p (.dK [(.inl i, w)])) (msk F (p :: G))) d2 w
        rw [hs]; exact r2
/-- x[k] = e, x an owned dict without the key -/
def setK (k d : M3.D) : Option (Option M3.D) → Option M3.D
  | some (some (.dct ks l)) => (match k with | .int i => if ks.length < lim ∧ kIn (.inl i) ks = false then some (.dct (ks ++ [.inl i]) (l ++ [d])) else none | _ => none)
  | _ => none
def sSubK (i : Nat) (mk mv : M) : MSt := fun e => (mv e).toS fun d e1 => (mVar i e1).toS fun _ e1 => (mk e1).toS fun k e2 => stO i (setK k d e2[i]?) e2
theorem setK_ok {k d r : M3.D} {o : Option (Option M3.D)} (h : setK k d o = some r) : ∃ ks l j, o = some (some (.dct ks l)) ∧ k = .int j ∧ ks.length < lim ∧ kIn (.inl j) ks = false ∧ r = .dct (ks ++ [.inl j]) (l ++ [d]) := by
  unfold setK at h
  split at h
  · split at h
    · split at h
      · rename_i h1
        cases h
        exact ⟨_, _, _, rfl, rfl, h1.1, h1.2, rfl⟩
      · cases h
    · cases h
  · cases h
theorem putK_zip {ks : List Key} {xs : List V} {k : Key} {y : V} (hl : xs.length = ks.length) (hk : kIn k ks = false) : putK (ks.zip xs) k y = (ks ++ [k]).zip (xs ++ [y]) := by
  rw [putK_new _ (by
    have h := valV_zip (k := k) hl
    rw [hk] at h
    cases q : valV (ks.zip xs) k with
    | none => rfl
    | some z => rw [q] at h; cases h), List.zip_append hl.symm]
  rfl
theorem ms_subK (i : Nat) {x : Str} {k : Expr} {mk mv : M} {kpos np : Pos} (hu : X.A.units + 1 < cLine) (hv : ME X c.P O c.W 0 b1 e mv) (hk : ME X c.P O c.W n b2 k mk) (hO : O.getD i 0 = 1 := by rfl) (hx : X.N[i]? = some x := by rfl) (hvis : Vis X.env.scope x := by first | exact Or.inl rfl | exact Or.inr (Or.inl rfl) | exact Or.inr (Or.inr rfl))
    (hd : (x == ("__debug__" : Str)) = false := by decide) (hcd : (x == ("__classdict__" : Str)) = false := by decide)
    (hs : swapsWithSole [.Subscript (.Name x np) k kpos] e pos.line X.env = pure false := by rfl) (hw : swappedStores [.Subscript (.Name x np) k kpos] e X.env = pure none := by rfl)
    (h1 : (assignEach [.Subscript (.Name x np) k kpos] X.env).map (·.2) = [assign (.Subscript (.Name x np) k kpos) X.env] := by rfl) (hns : ∀ r, PSet X r → ∀ t u, PE X (.Name x np) t → PE X k u → PG X (.Subscript (.Name x np) k kpos) (gSub t u r) := by exact fun r hr t u h g => pg_sub h g hr) : MS X c Ol O O (.Assign [.Subscript (.Name x np) k kpos] e pos) (sSubK i mk mv) := by
  obtain ⟨tv, pv, hv⟩ := hv.run
  obtain ⟨tk, pk, hk⟩ := hk.run
  refine ⟨_, ps_asg pv (hns _ (set_dict hu) _ _ (pe_var hx hvis hd hcd) pk) hs hw h1, fun β F G env σ H D S z => hv β F G env σ H _ S (z.bind fun d e1 H1 S1 q v r => ?_)⟩
  obtain ⟨d0, he, q⟩ := toS_var q
  obtain ⟨w, hw, _⟩ := S1.slot i _ he
  refine ⟨w, hw, hk β F G e1 σ H1 _ S1 ?_⟩
  have keep : Rp X.K (hid H1 (msk F G)) d v := r
  cases ek : mk e1 with
  | bad => rw [ek] at q; exact q
  | exc a x e => rw [ek] at q; exact fun dx v H1 S1 _ h1 h2 => q dx v σ H1 O F S1 h1 h2
  | ok k2 e2 =>
    rw [ek] at q
    intro H2 S2 x2 p2 y ry
    obtain ⟨r', hr', q⟩ := stO_ok q
    obtain ⟨ks, l, j, el, rfl, hlim, hno, rfl⟩ := setK_ok hr'
    obtain ⟨p, xs, hp, hH, _, hkl, rl, upd'⟩ := S2.setD hO el
    rw [hw] at hp
    cases hp
    have hxl : xs.length = ks.length := by rw [rl.len, hkl]
    have yv : y = .int j := ry.rp hid_le
    subst yv
    refine ⟨p, _, rfl, DPut.k (k := .inl j) hH ?_, q σ _ F ?_⟩
    · rw [List.length_zip, hxl, Nat.min_self]
      exact lim_lt hlim
    · rw [putK_zip hxl hno]
      exact upd' _ _ _ (by rw [List.length_append, List.length_append, hkl]; rfl) (rl.app (.one (Rp.ex x2.ex d keep)))
end
end M3

/-! MD2 -/
set_option Elab.async false
set_option linter.all false
set_option maxRecDepth 100000
set_option maxHeartbeats 4000000
namespace M3
open PySem PySem.Spec PyProof.Rows L2
section
variable {X : Cx} {P O O' Ol : List Nat} {W : WX} {c : Fc} {n : Nat} {b b1 b2 : Bool} {e ke ve : Expr} {m mk mv : M} {pos : Pos}
/-- x[a].append(e), x an owned list of owned lists -/
def sApp2 (i : Nat) (ma m : M) : MSt := fun e => (mVar i e).toS fun _ e => (ma e).toS fun a e1 => (liftO (rowAt a e1[i]?) e1).toS fun _ e1 => (m e1).toS fun d e2 => (liftO (rowAt a e2[i]?) e2).toS fun w e2 =>
  stO i ((appD d (some (some (.lst w.2.2)))).map fun m => .lst (w.1.set w.2.1 m)) e2
theorem ms_app2 (i : Nat) {x : Str} {g : Expr} {ma : M} {np apos gpos cpos : Pos} {n2 : Nat} (ha : ME X c.P O c.W n2 b1 g ma) (he : ME X c.P O c.W 0 true e m) (hO : O.getD i 0 = 2 := by rfl) (hx : X.N[i]? = some x := by rfl) (hvis : Vis X.env.scope x := by first | exact Or.inl rfl | exact Or.inr (Or.inl rfl) | exact Or.inr (Or.inr rfl))
    (hd : (x == ("__debug__" : Str)) = false := by decide) (hcd : (x == ("__classdict__" : Str)) = false := by decide)
    (hp : ∀ t u w, PE X (.Name x np) t → PE X g u → PE X e w → PS X (.Expr (.Call (.Attribute (.Subscript (.Name x np) g gpos) "append" apos) [e] [] cpos) pos) (tDrop (tBM X.K "list" rAppend (tOp (rIxL X.K) t u) (tCons w tNil))) := by exact fun t u w h g k => ps_expr (pe_bm PySem.F.plainAttrs_list PySem.F.slot_list_append PySem.F.type_list_append mt_append (pe_ix ix_list h g (fun _ _ => rfl)) (pa_cons k pa_nil))) :
    MS X c Ol O O (.Expr (.Call (.Attribute (.Subscript (.Name x np) g gpos) "append" apos) [e] [] cpos) pos) (sApp2 i ma m) := by
  obtain ⟨ta, pa, ha⟩ := ha.run
  obtain ⟨te, pe, he⟩ := he.run
  refine ⟨_, hp _ _ _ (pe_var hx hvis hd hcd) pa pe, fun β F G env σ H D S z => ?_⟩
  obtain ⟨d0, hd0, q0⟩ := toS_var z
  obtain ⟨w, hw, hown⟩ := S.slot i _ hd0
  refine ⟨w, hw, ha β F G env σ H _ S ?_⟩
  cases ea : ma env with
  | bad => rw [ea] at q0; exact q0
  | exc a x e => rw [ea] at q0; exact fun dx v H1 S1 _ h1 h2 => q0 dx v σ H1 O F S1 h1 h2
  | ok a2 e1 =>
    rw [ea] at q0
    intro H1 S1 x1 p1 ya rya
    obtain ⟨⟨l, j, m0⟩, hr, q3⟩ := toS_lift q0
    clear q0
    obtain ⟨aa, el, rfl, ej, em⟩ := rowAt_ok hr
    obtain ⟨p, xs, r2, ys, hp, hH, hl, hx2, hH2, npq, rl, _⟩ := S1.set2 hO el em
    rw [hw] at hp
    cases hp
    have hix : atI xs aa = some (.ref r2) := by
      unfold atI
      rw [hl, ej]; exact hx2
    refine ⟨p, xs, aa, .ref r2, rfl, rya.rp hid_le, SqL.of hH, hix, .inl ⟨rfl, ys, SqL.of hH2⟩, he β F G e1 σ H1 _ S1 ?_⟩
    cases ek : m e1 with
    | bad => rw [ek] at q3; exact q3
    | exc a x e => rw [ek] at q3; exact fun dx v H1 S1 _ h1 h2 => q3 dx v σ H1 O F S1 h1 h2
    | ok d e2 =>
      rw [ek] at q3
      intro H2 S2 x2 p2 v rv
      obtain ⟨e32, x3'⟩ := p2 rfl
      subst e32
      obtain ⟨⟨l', j', m1⟩, hr', q4⟩ := toS_lift q3
      clear q3
      rw [hr] at hr'
      cases hr'
      obtain ⟨r', hr', q5⟩ := stO_ok q4
      clear q4
      cases es : appD d (some (some (.lst m0))) with
      | none => rw [es] at hr'; cases hr'
      | some m' =>
        rw [es] at hr'
        cases hr'
        obtain ⟨m2, e0, hlim, rfl⟩ := appD_ok es
        cases e0
        obtain ⟨p', xs', q', ys', hp', hH', hl', hx', hH2', _, rl', upd'⟩ := S2.set2 hO el em
        rw [hw] at hp'
        cases hp'
        have e1 : xs' = xs := by
          have h := x3' _ _ hH
          rw [hH'] at h
          cases h; rfl
        subst e1
        rw [hx2] at hx'
        cases hx'
        exact ⟨r2, ys', v, rfl, rfl, hH2', by rw [rl'.len]; exact lim_lt hlim, q5 σ _ F (upd' _ _ (rl'.app (.one rv)))⟩
end
/-! ### an owned thing lent to a call that answers something flat -/
def isFl : D → Bool
  | .non => true
  | .bl _ => true
  | .int _ => true
  | .str _ => true
  | _ => false
theorem isFl_rp {K : Fg} {H H' : Hp} : ∀ {d : D} {v : V}, isFl d = true → Rp K H d v → Rp K H' d v
  | .non, _, _, h => h
  | .bl _, _, _, h => h
  | .int _, _, _, h => h
  | .str _, _, _, h => h
  | .lst _, _, h, _ => by cases h
  | .tup _, _, h, _ => by cases h
  | .dct _ _, _, h, _ => by cases h
  | .fro _, _, h, _ => by cases h
  | .val _, _, h, _ => by cases h
def mFl (m : M) : M := fun e => (m e).nox.bind fun d e1 => if isFl d = true then .ok d e1 else .bad
theorem me_lend (i : Nat) {X : Cx} {P O : List Nat} {W : WX} {e : Expr} {m : M} (h : ME X P (O.set i 0) W 0 true e m) (hi : (decide (i < O.length) && !P.contains i) = true := by rfl) : ME X P O W 0 true e (mFl m) := by
  obtain ⟨t, p, h⟩ := h.run
  rw [Bool.and_eq_true] at hi
  refine ⟨t, p, fun β F G env σ H Q S z => h β (F.set i []) G env σ H Q (S.frz (by rw [← S.olen]; exact of_decide_eq_true hi.1) (by simpa using hi.2)) ?_⟩
  unfold mFl at z
  cases e1 : m env with
  | bad => rw [e1] at z; exact z.elim
  | exc a x ee => rw [e1] at z; exact z.elim
  | ok d env1 =>
    rw [e1] at z
    have z : Pst X P O W β F G σ H true env (fun d H' => ∀ v, Bor X.K (hid H' (msk F G)) H' 0 d v → Q v H') (if isFl d = true then .ok d env1 else .bad) := z
    intro H1 S1 x1 p1 v r
    obtain ⟨q1, g1⟩ := p1 rfl
    subst q1
    split at z
    · rename_i hd
      exact z H1 (S.ext g1) (Fw.of S g1) (fun _ => ⟨rfl, g1⟩) v (isFl_rp hd r)
    · exact z.elim
end M3

/-! MV -/
set_option Elab.async false
set_option linter.all false
set_option maxRecDepth 100000
set_option maxHeartbeats 400000
namespace M3
open PySem PySem.Spec PyProof.Rows L2

/-! ### readings of the newer mirrors -/
section
variable {e : Sl} {Q : D → Sl → Prop} {k : KS} {i j n : Nat} {m ma mb mk mv : M}
theorem RP_fl : RP (mFl m e) Q = RP (m e) fun d e1 => isFl d = true ∧ Q d e1 := by
  unfold mFl; rw [RP_bind, RP_nox]; congr; funext d e1
  split
  · rename_i h; simp only [RP, h, true_and]
  · rename_i h; simp only [RP, Bool.eq_false_iff.mpr h, Bool.false_eq_true, false_and]
theorem RP_dct1 : RP (mDct1 mk mv e) Q = RP (mk e) fun a e1 => RP (mv e1) fun v e2 => OP (dct1 a v) fun d => Q d e2 := by
  unfold mDct1; simp only [RP_bind, RP_nox, RP_lift]
theorem SP_subK : SP (sSubK i mk mv e) k = RP (mv e) fun d e1 => RP (mVar i e1) fun _ e1 => RP (mk e1) fun key e2 => OP (setK key d e2[i]?) fun z => k.nx (e2.set i (some z)) := by
  unfold sSubK; simp only [SP_toS, SP_stO]
theorem SP_sub2 : SP (sSub2 i ma mk mv e) k = RP (mv e) fun d e1 => RP (mVar i e1) fun _ e1 => RP (ma e1) fun a e2 => OP (rowAt a e2[i]?) fun w => RP (mk e2) fun key e3 => OP ((setD key d (some (some (.lst w.2.2)))).map fun m => D.lst (w.1.set w.2.1 m)) fun z => k.nx (e3.set i (some z)) := by
  unfold sSub2; simp only [SP_toS, SP_stO, RP_lift]
theorem SP_app2 : SP (sApp2 i ma m e) k = RP (mVar i e) fun _ e => RP (ma e) fun a e1 => OP (rowAt a e1[i]?) fun _ => RP (m e1) fun d e2 => OP (rowAt a e2[i]?) fun w => OP ((appD d (some (some (.lst w.2.2)))).map fun m => D.lst (w.1.set w.2.1 m)) fun z => k.nx (e2.set i (some z)) := by
  unfold sApp2; simp only [SP_toS, SP_stO, RP_lift]
theorem RP_3 {f g : D → D → Option D} : RP (m3 f g ma mb m e) Q = RP (ma e) fun x e1 => RP (mb e1) fun y e2 => OP (f x y) fun z => BP z (RP (m e2) fun w e3 => OP (g y w) fun v => Q v e3) (Q (.bl false) e2) := by
  unfold m3; simp only [RP_bind, RP_lift]
  congr; funext x e1; congr; funext y e2; congr; funext z
  cases z with
  | bl b => cases b <;> simp only [RP_bind, RP_lift, BP, RP_ok] <;> rfl
  | _ => rfl
/-- of a list that is made new, that is walked, that is counted off -/
def LsP (d : D) (Q : D → Prop) : Prop := match d with | .lst l => Q (.lst l) | _ => False
def SrcP (d : D) (Q : List D → Prop) : Prop := match d with | .lst l => Q l | .tup l => Q l | _ => False
def EnP (ds : List D) (Q : List D → Prop) : Prop := match ds with | [.lst l] => Q (enumD 0 l) | _ => False
theorem RP_asL : RP (asL m e) Q = RP (m e) fun d e1 => LsP d fun z => Q z e1 := by
  unfold asL; rw [RP_bind]; congr; funext d e1; cases d <;> rfl
theorem RP_src2 {QL : List D → Sl → Prop} : RP (iSrc m e) QL = RP (m e) fun d e1 => SrcP d fun l => QL l e1 := by
  unfold iSrc; rw [RP_bind]; congr; funext d e1; cases d <;> rfl
theorem RP_en2 {ms : Mi (List D)} {QL : List D → Sl → Prop} : RP (iEn ms e) QL = RP (ms e) fun ds e1 => EnP ds fun l => QL l e1 := by
  rw [RP_en]
  first
  | rfl
  | (congr; funext ds e1; unfold EnP; split <;> first | rfl | (split <;> first | rfl | (rename_i h _ _ h2; exact absurd h2 (h _))))
theorem LsP_l {l : List D} {R : D → Prop} : LsP (.lst l) R = R (.lst l) := rfl
theorem SrcP_l {l : List D} {R : List D → Prop} : SrcP (.lst l) R = R l := rfl
theorem SrcP_t {l : List D} {R : List D → Prop} : SrcP (.tup l) R = R l := rfl
theorem EnP_l {l : List D} {R : List D → Prop} : EnP [.lst l] R = R (enumD 0 l) := rfl
theorem wpE_n : wpE e [] = e := rfl
theorem wpE_c {v : Nat} {vs : List Nat} : wpE e (v :: vs) = (wpE e vs).set v none := rfl
theorem rst_n {e2 : Sl} : rstE e e2 [] = e2 := rfl
theorem rst_c {e2 : Sl} {v : Nat} {vs : List Nat} : rstE e e2 (v :: vs) = (rstE e e2 vs).set v (e.getD v none) := rfl
end
section
variable {own : List Nat} {f : D → Sl → Option Sl} {tst el : M} {E : Sl} {Q : List D → Sl → Prop}
/-- a comprehension by an invariant -/
theorem RP_lcI {ds : List D} (I : Nat → List D → Sl → Prop) (h0 : I 0 [] E)
    (hs : ∀ (i : Nat) (hi : i < ds.length) (acc : List D) (e : Sl), I i acc e → OP (f ds[i] e) fun e1 => RP (tst e1) fun c e2 => BP c (RP (el e2) fun y e3 => I (i + 1) (acc ++ [y]) (wpE e3 own)) (I (i + 1) acc (wpE e2 own)))
    (hd : ∀ acc e, I ds.length acc e → Q acc e) : RP (lcL own f tst el ds E) Q := by
  have h : ∀ (n i : Nat) (acc : List D) (e : Sl), n + i = ds.length → I i acc e → RP (lcL own f tst el (ds.drop i) e) fun l e' => Q (acc ++ l) e' := by
    intro n
    induction n with
    | zero =>
      intro i acc e hn hI
      rw [List.drop_eq_nil_of_le (by omega), RP_lcn, List.append_nil]
      have : i = ds.length := by omega
      subst this
      exact hd acc e hI
    | succ n ih =>
      intro i acc e hn hI
      have hlt : i < ds.length := by omega
      rw [List.drop_eq_getElem_cons hlt, RP_lcc]
      refine (hs i hlt acc e hI).mono fun e1 h => h.mono fun c e2 h => ?_
      cases c with
      | bl t =>
        cases t with
        | true =>
          refine RP.mono h fun y e3 h => (ih (i + 1) (acc ++ [y]) _ (by omega) h).mono fun l e' h => ?_
          rw [List.append_assoc] at h
          exact h
        | false => exact ih (i + 1) acc _ (by omega) h
      | _ => exact h
  have := h ds.length 0 [] E (by omega) h0
  rw [List.drop_zero] at this
  exact this
/-- .. that changes nothing -/
theorem RP_lcP {α : Type} {xs : List α} {c : α → D} (p : α → Bool) (g : α → D)
    (hs : ∀ x ∈ xs, OP (f (c x) E) fun e1 => RP (tst e1) fun t e2 => t = .bl (p x) ∧ (p x = false → wpE e2 own = E) ∧ (p x = true → RP (el e2) fun y e3 => y = g x ∧ wpE e3 own = E))
    (q : Q ((xs.filter p).map g) E) : RP (lcL own f tst el (xs.map c) E) Q := by
  induction xs generalizing Q with
  | nil => exact q
  | cons x xs ih =>
    rw [List.map_cons, RP_lcc]
    refine (hs x List.mem_cons_self).mono fun e1 h => h.mono fun t e2 ⟨h1, h2, h3⟩ => ?_
    subst h1
    cases hp : p x with
    | true =>
      rw [List.filter_cons_of_pos hp] at q
      refine (h3 hp).mono fun y e3 ⟨h4, h5⟩ => ?_
      subst h4
      rw [h5]
      exact ih (fun z hz => hs z (List.mem_cons_of_mem _ hz)) q
    | false =>
      rw [List.filter_cons_of_neg (by rw [hp]; decide)] at q
      rw [h2 hp]
      exact ih (fun z hz => hs z (List.mem_cons_of_mem _ hz)) q
/-- .. without a test -/
theorem RP_lcG {α : Type} {xs : List α} {c : α → D} (g : α → D) (hs : ∀ x ∈ xs, OP (f (c x) E) fun e1 => RP (el e1) fun y e3 => y = g x ∧ wpE e3 own = E)
    (q : Q (xs.map g) E) : RP (lcL own f mYes el (xs.map c) E) Q := by
  refine RP_lcP (fun _ => true) g (fun x hx => (hs x hx).mono fun e1 h => ?_) ?_
  · rw [RP_yes]
    exact ⟨rfl, fun z => absurd z (by decide), fun _ => h⟩
  · rw [List.filter_eq_self.mpr fun _ _ => rfl]
    exact q
end
/-! ### what is walked -/
theorem rngD0 (n : Nat) : rngD 0 n = (List.range n).map fun k : Nat => D.int (k : Int) := by
  unfold rngD
  refine List.map_congr_left fun k _ => ?_
  rw [Int.zero_add]
/-- a for over a range, over a mapped list -/
theorem SP_forM {α : Type} {xs : List α} {c : α → D} {f : D → Sl → Option Sl} {s : MSt} {e : Sl} {k : KS} (I : Nat → Sl → Prop) (h0 : I 0 e)
    (hs : ∀ (i : Nat) (hi : i < xs.length) (e : Sl), I i e → OP (f (c xs[i]) e) fun e1 => SP (s e1) ⟨fun e2 => I (i + 1) e2, k.rt, k.nx, fun e2 => I (i + 1) e2⟩)
    (hd : ∀ e, I xs.length e → k.nx e) : SP (forL f s (xs.map c) e) k := by
  refine SP_forI I h0 (fun i hi e hI => ?_) fun e hI => hd e (by rwa [List.length_map] at hI)
  rw [List.length_map] at hi
  rw [List.getElem_map]
  exact hs i hi e hI
theorem SP_forR {n : Nat} {f : D → Sl → Option Sl} {s : MSt} {e : Sl} {k : KS} (I : Nat → Sl → Prop) (h0 : I 0 e)
    (hs : ∀ (i : Nat), i < n → ∀ (e : Sl), I i e → OP (f (.int (i : Int)) e) fun e1 => SP (s e1) ⟨fun e2 => I (i + 1) e2, k.rt, k.nx, fun e2 => I (i + 1) e2⟩)
    (hd : ∀ e, I n e → k.nx e) : SP (forL f s (rngD 0 n) e) k := by
  rw [rngD0]
  refine SP_forM I h0 (fun i hi e hI => ?_) fun e hI => hd e (by rwa [List.length_range] at hI)
  rw [List.length_range] at hi
  rw [List.getElem_range]
  exact hs i hi e hI
theorem rngD_get {n i : Nat} (h : i < (rngD 0 n).length) : (rngD 0 n)[i] = D.int (i : Int) := by simp [rngD]
theorem enumD_zip : ∀ (l : List D) (k : Nat), enumD k l = (l.zipIdx k).map fun p => .tup [.int (p.2 : Int), p.1]
  | [], _ => rfl
  | d :: l, k => by
    rw [List.zipIdx_cons, List.map_cons, ← enumD_zip l (k + 1)]
    rfl
theorem rOk_n {n : Nat} (h : n ≤ 1000000000) : rOk (n : Int) := by constructor <;> omega
theorem filter_none {α : Type} {p : α → Bool} {xs : List α} (h : ∀ x ∈ xs, p x = false) : xs.filter p = [] := List.filter_eq_nil_iff.mpr fun x hx => by rw [h x hx]; decide

/-! ### tables -/
def rowD (r : List Int) : D := .lst (r.map .int)
def tabD (T : List (List Int)) : D := .lst (T.map rowD)
def plD (l : List Nat) : D := .lst (l.map fun k : Nat => D.int (k : Int))
def ent (T : List (List Int)) (i j : Nat) : Int := (T.getD i []).getD j 0
section
variable {Q : D → Prop} {i j : Nat}
theorem OP_at {α : Type} {l : List α} {c : α → D} {d : α} (h : i < l.length) : OP (atI (l.map c) (i : Int)) Q = Q (c (l.getD i d)) := by
  rw [show atI (l.map c) (i : Int) = some (c (l.getD i d)) from atI_of (by rw [List.getElem?_map, List.getElem?_eq_getElem h, List.getD_eq_getElem?_getD, List.getElem?_eq_getElem h]; rfl)]
  rfl
theorem OP_tab {T : List (List Int)} (h : i < T.length) : OP (D.ix (tabD T) (.int (i : Int))) Q = Q (rowD (T.getD i [])) := OP_at h
theorem OP_row {r : List Int} (h : j < r.length) : OP (D.ix (rowD r) (.int (j : Int))) Q = Q (.int (r.getD j 0)) := OP_at h
theorem OP_pl {l : List Nat} (h : j < l.length) : OP (D.ix (plD l) (.int (j : Int))) Q = Q (.int ((l.getD j 0 : Nat) : Int)) := OP_at (c := fun k : Nat => D.int (k : Int)) h
theorem pys_ints : ∀ ns : List Int, D.pys (ns.map D.int) = some (ns.map PyData.int)
  | [] => rfl
  | n :: ns => by
    show (match D.py (.int n), D.pys (ns.map D.int) with | some a, some r => some (a :: r) | _, _ => none) = _
    rw [pys_ints ns]
    rfl
theorem lay_ints : ∀ ns : List Int, PyData.canLayAll0 (ns.map .int) = true
  | [] => by simp [PyData.canLayAll0]
  | n :: ns => by simp [PyData.canLayAll0, PyData.canLay0, lay_ints ns]
theorem depth_ints : ∀ ns : List Int, PyData.depthAll (ns.map .int) = 0
  | [] => by simp [PyData.depthAll]
  | n :: ns => by simp [PyData.depthAll, PyData.depth, depth_ints ns]
theorem shaped_ints (ns : List Int) : D.shaped (.lst (ns.map .int)) = some (.list (ns.map .int)) := by
  unfold D.shaped D.py
  rw [pys_ints]
  have : SeqAt.shaped (.list (ns.map .int)) = true := by
    show ((PyData.list (ns.map .int)).canLay0 && decide ((PyData.list (ns.map .int)).depth ≤ 64)) = true
    simp [PyData.canLay0, lay_ints, PyData.depth, depth_ints]
  simp [this]
theorem shaped_row (r : List Int) : D.shaped (rowD r) = some (.list (r.map .int)) := shaped_ints r
theorem pys_rows : ∀ T : List (List Int), D.pys (T.map rowD) = some (T.map fun r => .list (r.map .int))
  | [] => rfl
  | r :: T => by
    show (match D.py (rowD r), D.pys (T.map rowD) with | some a, some r => some (a :: r) | _, _ => none) = _
    rw [pys_rows T]
    show (match (D.pys (r.map D.int)).map PyData.list, _ with | some a, some r => some (a :: r) | _, _ => none) = _
    rw [pys_ints]
    rfl
theorem lay_rows : ∀ T : List (List Int), PyData.canLayAll0 (T.map fun r => .list (r.map .int)) = true
  | [] => by simp [PyData.canLayAll0]
  | r :: T => by simp [PyData.canLayAll0, PyData.canLay0, lay_ints, lay_rows T]
theorem depth_rows : ∀ T : List (List Int), PyData.depthAll (T.map fun r => .list (r.map .int)) ≤ 1
  | [] => by simp [PyData.depthAll]
  | r :: T => by
    have h := depth_rows T
    simp only [List.map_cons, PyData.depthAll, PyData.depth, depth_ints]
    exact Nat.max_le.mpr ⟨by omega, h⟩
theorem shaped_tab (T : List (List Int)) : D.shaped (tabD T) = some (.list (T.map fun r => .list (r.map .int))) := by
  unfold tabD D.shaped D.py
  rw [pys_rows]
  have h := depth_rows T
  have : SeqAt.shaped (.list (T.map fun r => .list (r.map .int))) = true := by
    show ((PyData.list (T.map fun r => .list (r.map .int))).canLay0 && decide ((PyData.list (T.map fun r => .list (r.map .int))).depth ≤ 64)) = true
    rw [Bool.and_eq_true]
    refine ⟨by simp only [PyData.canLay0, lay_rows], decide_eq_true ?_⟩
    simp only [PyData.depth]
    omega
  simp [this]
theorem shaped_nil : D.shaped (.lst []) = some (.list []) := shaped_ints []
theorem beq_nil {l : List D} {ps : List PyData} (h : D.shaped (.lst l) = some (.list ps)) : D.beq (.lst l) (.lst []) = some ps.isEmpty := by
  show D.beqS _ _ = _
  unfold D.beqS
  rw [h, shaped_nil]
  cases ps <;> rfl
theorem OP_nei0 {ns : List Int} : OP (D.ne (.lst (ns.map .int)) (.lst [])) Q = Q (.bl (!ns.isEmpty)) := by
  unfold D.ne
  rw [beq_nil (shaped_ints ns)]
  cases ns <;> rfl
theorem OP_eqi0 {ns : List Int} : OP (D.eq (.lst (ns.map .int)) (.lst [])) Q = Q (.bl ns.isEmpty) := by
  unfold D.eq
  rw [beq_nil (shaped_ints ns)]
  cases ns <;> rfl
theorem OP_eq00 : OP (D.eq (.lst []) (.lst [])) Q = Q (.bl true) := rfl
theorem OP_ne00 : OP (D.ne (.lst []) (.lst [])) Q = Q (.bl false) := rfl
theorem OP_eqs {x y : Str} : OP (D.eq (.str x) (.str y)) Q = Q (.bl (decide (x = y))) := rfl
theorem eqv_any (i : Int) : ∀ ns : List Int, ((ns.map PyData.int).any fun z => PyData.eqv z (.int i)) = ns.contains i
  | [] => rfl
  | n :: ns => by
    rw [List.map_cons, List.any_cons, eqv_any i ns, List.contains_cons]
    show ((n == i) || _) = _
    rw [show (n == i) = (i == n) by
      by_cases h : n = i
      · subst h; rfl
      · rw [beq_eq_false_iff_ne.mpr h, beq_eq_false_iff_ne.mpr fun z => h z.symm]]
theorem mem_ints (i : Int) (ns : List Int) : D.mem (.int i) (.lst (ns.map .int)) = some (ns.contains i) := by
  show (match D.shaped (.int i), D.shaped (.lst (ns.map .int)) with | some p, some (.list ps) => some (ps.any fun z => PyData.eqv z p) | _, _ => none) = _
  rw [shaped_ints, show D.shaped (.int i) = some (.int i) by
    unfold D.shaped D.py
    have : SeqAt.shaped (.int i) = true := by
      show ((PyData.int i).canLay0 && decide ((PyData.int i).depth ≤ 64)) = true
      simp [PyData.canLay0, PyData.depth]
    simp [this]]
  dsimp only
  rw [eqv_any]
theorem pl_ints (l : List Nat) : l.map (fun k : Nat => D.int (k : Int)) = (l.map fun k : Nat => (k : Int)).map D.int := by rw [List.map_map]; rfl
theorem mem_pl (i : Nat) (l : List Nat) : D.mem (.int (i : Int)) (plD l) = some (decide (i ∈ l)) := by
  unfold plD
  rw [pl_ints, mem_ints]
  congr 1
  rw [Bool.eq_iff_iff]
  simp only [List.contains_iff_mem, List.mem_map, decide_eq_true_eq]
  constructor
  · rintro ⟨a, h1, h2⟩
    have : a = i := by omega
    rw [← this]; exact h1
  · intro h
    exact ⟨i, h, rfl⟩
theorem OP_inpl {l : List Nat} : OP (D.isin (.int (i : Int)) (plD l)) Q = Q (.bl (decide (i ∈ l))) := by
  unfold D.isin; rw [mem_pl]; rfl
theorem OP_ninpl {l : List Nat} : OP (D.notin (.int (i : Int)) (plD l)) Q = Q (.bl !decide (i ∈ l)) := by
  unfold D.notin; rw [mem_pl]; rfl
/-- dicts of players -/
def kNs (l : List Nat) : List Key := l.map fun k : Nat => (Sum.inl (k : Int) : Key)
theorem kIn_ns (i : Nat) (l : List Nat) : kIn (.inl (i : Int)) (kNs l) = decide (i ∈ l) := by
  unfold kIn kNs
  rw [List.any_map, Bool.eq_iff_iff]
  simp only [List.any_eq_true, Function.comp_apply, decide_eq_true_eq]
  constructor
  · rintro ⟨x, hx, e⟩
    have e := Sum.inl.inj e
    have : x = i := by omega
    rw [← this]; exact hx
  · intro h
    exact ⟨i, h, rfl⟩
theorem OP_indk {l : List Nat} {xs : List D} : OP (D.isin (.int (i : Int)) (.dct (kNs l) xs)) Q = Q (.bl (decide (i ∈ l))) := by
  unfold D.isin
  rw [show D.mem (.int (i : Int)) (.dct (kNs l) xs) = some (kIn (.inl (i : Int)) (kNs l)) from rfl, kIn_ns]; rfl
theorem OP_nindk {l : List Nat} {xs : List D} : OP (D.notin (.int (i : Int)) (.dct (kNs l) xs)) Q = Q (.bl !decide (i ∈ l)) := by
  unfold D.notin
  rw [show D.mem (.int (i : Int)) (.dct (kNs l) xs) = some (kIn (.inl (i : Int)) (kNs l)) from rfl, kIn_ns]; rfl
theorem OP_setK {l : List Nat} {xs : List D} {d : D} : OP (setK (.int (i : Int)) d (some (some (.dct (kNs l) xs)))) Q = ((l.length < lim ∧ i ∉ l) ∧ Q (.dct (kNs (l ++ [i])) (xs ++ [d]))) := by
  show OP (if (kNs l).length < lim ∧ kIn (.inl (i : Int)) (kNs l) = false then some (D.dct (kNs l ++ [.inl (i : Int)]) (xs ++ [d])) else none) Q = _
  rw [OP_ite, kIn_ns]
  have e1 : (kNs l).length = l.length := by simp [kNs]
  have e2 : kNs l ++ [.inl (i : Int)] = kNs (l ++ [i]) := by simp [kNs]
  rw [e1, e2]
  simp only [decide_eq_false_iff_not]
  rfl
theorem LsP_pl {l : List Nat} {R : D → Prop} : LsP (plD l) R = R (plD l) := rfl
theorem SrcP_pl {l : List Nat} {R : List D → Prop} : SrcP (plD l) R = R (l.map fun k : Nat => D.int (k : Int)) := rfl
theorem SrcP_row {r : List Int} {R : List D → Prop} : SrcP (rowD r) R = R (r.map .int) := rfl
theorem SrcP_tab {T : List (List Int)} {R : List D → Prop} : SrcP (tabD T) R = R (T.map rowD) := rfl
theorem EnP_row {r : List Int} {R : List D → Prop} : EnP [rowD r] R = R (enumD 0 (r.map .int)) := rfl
theorem EnP_tab {T : List (List Int)} {R : List D → Prop} : EnP [tabD T] R = R (enumD 0 (T.map rowD)) := rfl
theorem OP_dct1 {z : Int} {v : D} : OP (dct1 (.int z) v) Q = Q (.dct [.inl z] [v]) := rfl
theorem OP_nepl {l : List Nat} : OP (D.ne (plD l) (.lst [])) Q = Q (.bl !l.isEmpty) := by
  unfold plD
  rw [pl_ints, OP_nei0]
  cases l <;> rfl
theorem OP_eqpl {l : List Nat} : OP (D.eq (plD l) (.lst [])) Q = Q (.bl l.isEmpty) := by
  unfold plD
  rw [pl_ints, OP_eqi0]
  cases l <;> rfl
theorem OP_isLp {l : List Nat} {R : Unit → Prop} : OP (isL (plD l)) R = R () := rfl
theorem OP_pop0 {l : List Nat} {x : Nat} {R : D × D → Prop} : OP (popD (.int 0) (some (some (plD (x :: l))))) R = (l.length + 1 ≤ lim ∧ R (.int (x : Int), plD l)) := by
  show OP (if ((x :: l).map fun k : Nat => D.int (k : Int)).length ≤ lim then (ixN ((x :: l).map fun k : Nat => D.int (k : Int)).length 0).bind fun q => (((x :: l).map fun k : Nat => D.int (k : Int))[q]?).map fun d => (d, D.lst (((x :: l).map fun k : Nat => D.int (k : Int)).eraseIdx q)) else none) R = _
  rw [OP_ite, List.length_map, List.length_cons]
  have : ixN (l.length + 1) 0 = some 0 := by
    unfold ixN
    simp
  rw [this]
  rfl
theorem OP_apppl {l : List Nat} {x : Nat} : OP (appD (.int (x : Int)) (some (some (plD l)))) Q = (l.length < lim ∧ Q (plD (l ++ [x]))) := by
  show OP (if (l.map fun k : Nat => D.int (k : Int)).length < lim then some (D.lst ((l.map fun k : Nat => D.int (k : Int)) ++ [.int (x : Int)])) else none) Q = _
  rw [OP_ite, List.length_map]
  unfold plD
  rw [List.map_append]
  rfl
theorem OP_appl {l : List D} {d : D} : OP (appD d (some (some (.lst l)))) Q = (l.length < lim ∧ Q (.lst (l ++ [d]))) := OP_ite
theorem OP_lenpl {l : List Nat} : OP (fLen [plD l]) Q = Q (.int (l.length : Int)) := by
  show Q (.int ((l.map fun k : Nat => D.int (k : Int)).length : Int)) = _
  rw [List.length_map]
theorem OP_lentab {T : List (List Int)} : OP (fLen [tabD T]) Q = Q (.int (T.length : Int)) := by
  show Q (.int ((T.map rowD).length : Int)) = _
  rw [List.length_map]
/-! repr -/
theorem show_rows : ∀ T : List (List Int), (∀ r ∈ T, ∀ x ∈ r, x.natAbs < 10 ^ 12) → PyData.showableAll (T.map fun r => .list (r.map .int)) = true
  | [], _ => by simp [PyData.showableAll]
  | r :: T, h => by
    have hr : ∀ l : List Int, (∀ x ∈ l, x.natAbs < 10 ^ 12) → PyData.showableAll (l.map .int) = true := by
      intro l
      induction l with
      | nil => intro _; simp [PyData.showableAll]
      | cons x l ih =>
        intro h
        have hx := h x List.mem_cons_self
        have : x.natAbs.log2 < 1920 := Nat.lt_trans (log2_of (a := 40) (Nat.lt_of_lt_of_le hx (by decide)) (by decide)) (by decide)
        simp [PyData.showableAll, PyData.showable, this, ih fun y hy => h y (List.mem_cons_of_mem _ hy)]
    simp [PyData.showableAll, PyData.showable, hr r (h r List.mem_cons_self), show_rows T fun r' hr' => h r' (List.mem_cons_of_mem _ hr')]
theorem short_rows : ∀ T : List (List Int), (∀ r ∈ T, ∀ x ∈ r, x.natAbs < 10 ^ 12) → PyData.intsShortAll 13 (T.map fun r => .list (r.map .int)) = true
  | [], _ => rfl
  | r :: T, h => by
    simp only [List.map_cons, PyData.intsShortAll, PyData.intsShort, Bool.and_eq_true]
    exact ⟨PyData.intsShortAll_ints r (h r List.mem_cons_self), short_rows T fun r' hr' => h r' (List.mem_cons_of_mem _ hr')⟩
theorem wt_ints : ∀ r : List Int, (∀ x ∈ r, x.natAbs < 10 ^ 12) → PyData.weightAll (r.map .int) ≤ 41 * r.length
  | [], _ => by simp [PyData.weightAll]
  | x :: r, h => by
    have ih := wt_ints r fun y hy => h y (List.mem_cons_of_mem _ hy)
    have hx := h x List.mem_cons_self
    have h1 : x.natAbs.log2 < 40 := log2_of (Nat.lt_of_lt_of_le hx (by decide)) (by decide)
    have h2 : PyData.weight (.int x) ≤ 40 := by
      simp only [PyData.weight]
      split <;> omega
    simp only [List.map_cons, PyData.weightAll, List.length_cons]
    omega
theorem wt_rows (m : Nat) : ∀ T : List (List Int), (∀ r ∈ T, r.length ≤ m ∧ ∀ x ∈ r, x.natAbs < 10 ^ 12) → PyData.weightAll (T.map fun r => .list (r.map .int)) ≤ (41 * m + 1) * T.length
  | [], _ => by simp [PyData.weightAll]
  | r :: T, h => by
    have ih := wt_rows m T fun y hy => h y (List.mem_cons_of_mem _ hy)
    have h1 := wt_ints r (h r List.mem_cons_self).2
    have h2 := (h r List.mem_cons_self).1
    have h3 : (41 * m + 1) * (T.length + 1) = (41 * m + 1) * T.length + (41 * m + 1) := Nat.mul_succ _ _
    simp only [List.map_cons, PyData.weightAll, PyData.weight, List.length_cons]
    rw [h3]
    omega
/-- repr of a table -/
theorem rep_tab {T : List (List Int)} (hn : T.length ≤ 30) (h : ∀ r ∈ T, r.length ≤ 30 ∧ ∀ x ∈ r, x.natAbs < 10 ^ 12) : ∃ x, shwD (tabD T) = some (.str x) := by
  unfold shwD
  rw [shaped_tab]
  dsimp only
  rw [if_pos]
  · exact ⟨_, rfl⟩
  · refine ⟨show_rows T fun r hr => (h r hr).2, ?_⟩
    have l1 : (PyData.list (T.map fun r => .list (r.map .int))).leavesShort 13 = true := PyData.leavesShort_of_canLay0 13 _ (lay_rows T) (short_rows T fun r hr => (h r hr).2)
    have l2 := PyData.shown_le 13 (by decide) _ l1
    have l3 := wt_rows 30 T h
    have l4 : (PyData.list (T.map fun r => .list (r.map .int))).weight ≤ (41 * 30 + 1) * 30 := by
      show PyData.weightAll _ ≤ _
      exact Nat.le_trans l3 (Nat.mul_le_mul_left _ hn)
    have l5 : (13 + 2) * (PyData.list (T.map fun r => .list (r.map .int))).weight ≤ 15 * 36930 := Nat.mul_le_mul_left 15 l4
    show _ ≤ 1000000
    omega
theorem OP_rep1 {l : List D} {x : Str} (h : shwD (.lst l) = some (.str x)) : OP (fRepr [.lst l]) Q = Q (.str x) := by
  show OP (shwD (.lst l)) Q = _
  rw [h]; rfl
end
theorem SP_seqI {s1 s2 : MSt} {e : Sl} {k : KS} (h : ∀ N : Sl → Prop, (∀ e1, SP (s2 e1) k → N e1) → SP (s1 e) ⟨N, k.rt, k.bk, k.ct⟩) : SP (sSeq s1 s2 e) k := by
  rw [SP_seq]
  exact h _ fun _ h => h
end M3

/-! GR -/
set_option Elab.async false
set_option linter.all false
set_option maxRecDepth 100000
set_option maxHeartbeats 400000
namespace M3
/-! ### coming from one to another by steps -/
inductive Rch (n : Nat) (g : Nat → Nat → Bool) (a : Nat) : Nat → Prop
  | refl : Rch n g a a
  | step {b c : Nat} : Rch n g a b → c < n → g b c = true → Rch n g a c
section
variable {n : Nat} {g : Nat → Nat → Bool} {a b c : Nat}
theorem Rch.lt (ha : a < n) (h : Rch n g a b) : b < n := by
  cases h with
  | refl => exact ha
  | step _ h _ => exact h
theorem Rch.trans (h : Rch n g a b) (k : Rch n g b c) : Rch n g a c := by
  induction k with
  | refl => exact h
  | step _ h1 h2 ih => exact ih.step h1 h2
theorem len_le_of_nodup : ∀ (n : Nat) {l : List Nat}, l.Nodup → (∀ x ∈ l, x < n) → l.length ≤ n
  | 0, l, _, h => by
    cases l with
    | nil => exact Nat.le_refl _
    | cons x l => exact absurd (h x List.mem_cons_self) (by omega)
  | n + 1, l, hn, h => by
    by_cases hm : n ∈ l
    · have h1 := len_le_of_nodup n (hn.erase n) fun x hx => by
        have h2 := (hn.mem_erase_iff).mp hx
        have := h x h2.2
        omega
      rw [List.length_erase_of_mem hm] at h1
      have : 0 < l.length := List.length_pos_of_mem hm
      omega
    · have := len_le_of_nodup n hn fun x hx => by
        have h1 := h x hx
        have : x ≠ n := fun z => hm (z ▸ hx)
        omega
      omega
theorem countP_lt {α : Type} {p q : α → Bool} : ∀ {l : List α}, (∀ x ∈ l, p x = true → q x = true) → (∃ x ∈ l, q x = true ∧ p x = false) → l.countP p < l.countP q
  | [], _, h => by obtain ⟨x, hx, _⟩ := h; cases hx
  | y :: l, hpq, h => by
    have le : l.countP p ≤ l.countP q := List.countP_mono_left fun x hx hp => hpq x (List.mem_cons_of_mem _ hx) hp
    obtain ⟨x, hx, h1, h2⟩ := h
    rw [List.countP_cons, List.countP_cons]
    rcases List.mem_cons.mp hx with rfl | hx
    · rw [h1, h2]
      simp
      omega
    · have ih := countP_lt (l := l) (fun x hx => hpq x (List.mem_cons_of_mem _ hx)) ⟨x, hx, h1, h2⟩
      have h3 := hpq y List.mem_cons_self
      by_cases hy : p y = true
      · rw [hy, h3 hy]; simp; exact ih
      · have hy' : p y = false := by simpa using hy
        rw [hy']
        simp
        omega
/-! .. by rounds -/
def nxt (n : Nat) (g : Nat → Nat → Bool) (l : List Nat) : List Nat := (List.range n).filter fun o => decide (o ∈ l) || !(l.filter fun h => g h o).isEmpty
def nears (n : Nat) (g : Nat → Nat → Bool) (a : Nat) : Nat → List Nat
  | 0 => [a]
  | k + 1 => nxt n g (nears n g a k)
def comes (n : Nat) (g : Nat → Nat → Bool) (a : Nat) : List Nat := nears n g a n
theorem mem_nxt {l : List Nat} : b ∈ nxt n g l ↔ b < n ∧ (b ∈ l ∨ ∃ h ∈ l, g h b = true) := by
  unfold nxt
  rw [List.mem_filter, List.mem_range, Bool.or_eq_true, decide_eq_true_eq]
  refine and_congr_right fun _ => or_congr_right ?_
  constructor
  · intro h
    cases e : l.filter fun h => g h b with
    | nil => rw [e] at h; cases h
    | cons x r =>
      have : x ∈ l.filter fun h => g h b := by rw [e]; exact List.mem_cons_self
      exact ⟨x, (List.mem_filter.mp this).1, (List.mem_filter.mp this).2⟩
  · rintro ⟨x, h1, h2⟩
    have : x ∈ l.filter fun h => g h b := List.mem_filter.mpr ⟨h1, h2⟩
    cases e : l.filter fun h => g h b with
    | nil => rw [e] at this; cases this
    | cons x r => rfl
theorem nears_lt (ha : a < n) : ∀ k, ∀ x ∈ nears n g a k, x < n
  | 0, x, h => by
    have : x = a := by simpa [nears] using h
    omega
  | k + 1, x, h => (mem_nxt.mp h).1
theorem nears_mono (ha : a < n) {k : Nat} {x : Nat} (h : x ∈ nears n g a k) : x ∈ nears n g a (k + 1) := mem_nxt.mpr ⟨nears_lt ha k x h, .inl h⟩
theorem nears_sound (ha : a < n) : ∀ k, ∀ x ∈ nears n g a k, Rch n g a x
  | 0, x, h => by
    have : x = a := by simpa [nears] using h
    rw [this]; exact .refl
  | k + 1, x, h => by
    obtain ⟨h1, h2 | ⟨y, h2, h3⟩⟩ := mem_nxt.mp h
    · exact nears_sound ha k x h2
    · exact (nears_sound ha k y h2).step h1 h3
def NCl (n : Nat) (g : Nat → Nat → Bool) (l : List Nat) : Prop := ∀ b ∈ l, ∀ c, c < n → g b c = true → c ∈ l
theorem nears_count (ha : a < n) : ∀ k, NCl n g (nears n g a k) ∨ k + 1 ≤ (List.range n).countP fun x => decide (x ∈ nears n g a k)
  | 0 => by
    right
    have : 0 < (List.range n).countP fun x => decide (x ∈ nears n g a 0) := List.countP_pos_iff.mpr ⟨a, List.mem_range.mpr ha, by simp [nears]⟩
    omega
  | k + 1 => by
    rcases nears_count ha k with h | h
    · left
      intro b hb c hc hg
      obtain ⟨_, h2 | ⟨y, h2, h3⟩⟩ := mem_nxt.mp hb
      · exact nears_mono ha (h b h2 c hc hg)
      · exact nears_mono ha (h b (h y h2 b (nears_lt ha _ b hb) h3) c hc hg)
    · by_cases hcl : NCl n g (nears n g a k)
      · left
        intro b hb c hc hg
        obtain ⟨_, h2 | ⟨y, h2, h3⟩⟩ := mem_nxt.mp hb
        · exact nears_mono ha (hcl b h2 c hc hg)
        · exact nears_mono ha (hcl b (hcl y h2 b (nears_lt ha _ b hb) h3) c hc hg)
      · right
        unfold NCl at hcl
        simp only [Classical.not_forall] at hcl
        obtain ⟨b, hb, c, hc, hg, hnc⟩ := hcl
        have := countP_lt (l := List.range n) (p := fun x => decide (x ∈ nears n g a k)) (q := fun x => decide (x ∈ nears n g a (k + 1))) (fun x _ h => by
          simp only [decide_eq_true_eq] at h ⊢
          exact nears_mono ha h) ⟨c, List.mem_range.mpr hc, by simp only [decide_eq_true_eq]; exact mem_nxt.mpr ⟨hc, .inr ⟨b, hb, hg⟩⟩, decide_eq_false hnc⟩
        omega
theorem nears_cl (ha : a < n) : NCl n g (comes n g a) := by
  rcases nears_count (g := g) ha n with h | h
  · exact h
  · have := List.countP_le_length (p := fun x => decide (x ∈ nears n g a n)) (l := List.range n)
    rw [List.length_range] at this
    omega
theorem start_mem (ha : a < n) : ∀ k, a ∈ nears n g a k
  | 0 => by simp [nears]
  | k + 1 => nears_mono ha (start_mem ha k)
theorem mem_comes (ha : a < n) : b ∈ comes n g a ↔ Rch n g a b := by
  constructor
  · exact nears_sound ha n b
  · intro h
    induction h with
    | refl => exact start_mem ha n
    | step _ h1 h2 ih => exact nears_cl ha _ ih _ h1 h2
/-! ### coming breadth first: each one reached with the place of the one ahead and the number of steps -/
abbrev BE := List (Nat × Nat × Nat)
def nd (E : BE) (i : Nat) : Nat := (E.getD i (0, 0, 0)).1
def pr (E : BE) (i : Nat) : Nat := (E.getD i (0, 0, 0)).2.1
def lv (E : BE) (i : Nat) : Nat := (E.getD i (0, 0, 0)).2.2
def nds (E : BE) : List Nat := E.map (·.1)
section
variable {E : BE} {x : Nat × Nat × Nat} {i j m k : Nat}
theorem getD_app_lt {α : Type} {l : List α} {x d : α} {i : Nat} (h : i < l.length) : (l ++ [x]).getD i d = l.getD i d := by
  rw [List.getD_eq_getElem?_getD, List.getD_eq_getElem?_getD, List.getElem?_append_left h]
theorem getD_app_eq {α : Type} {l : List α} {x d : α} : (l ++ [x]).getD l.length d = x := by
  rw [List.getD_eq_getElem?_getD, List.getElem?_append_right (Nat.le_refl _)]; simp
theorem nd_app (h : i < E.length) : nd (E ++ [x]) i = nd E i := by unfold nd; rw [getD_app_lt h]
theorem pr_app (h : i < E.length) : pr (E ++ [x]) i = pr E i := by unfold pr; rw [getD_app_lt h]
theorem lv_app (h : i < E.length) : lv (E ++ [x]) i = lv E i := by unfold lv; rw [getD_app_lt h]
theorem nd_new : nd (E ++ [x]) E.length = x.1 := by unfold nd; rw [getD_app_eq]
theorem pr_new : pr (E ++ [x]) E.length = x.2.1 := by unfold pr; rw [getD_app_eq]
theorem lv_new : lv (E ++ [x]) E.length = x.2.2 := by unfold lv; rw [getD_app_eq]
theorem nd_mem (h : i < E.length) : nd E i ∈ nds E := by
  unfold nd nds
  rw [List.getD_eq_getElem?_getD, List.getElem?_eq_getElem h]
  exact List.mem_map.mpr ⟨_, List.getElem_mem h, rfl⟩
theorem mem_nds {v : Nat} : v ∈ nds E ↔ ∃ i, i < E.length ∧ nd E i = v := by
  constructor
  · intro h
    obtain ⟨e, he, rfl⟩ := List.mem_map.mp h
    obtain ⟨i, hi, rfl⟩ := List.mem_iff_getElem.mp he
    exact ⟨i, hi, by unfold nd; rw [List.getD_eq_getElem?_getD, List.getElem?_eq_getElem hi]; rfl⟩
  · rintro ⟨i, hi, rfl⟩
    exact nd_mem hi
/-- within the search: m the place of the one that is looked at, k the next one looked for -/
structure BS (n : Nat) (g : Nat → Nat → Bool) (a m k : Nat) (E : BE) : Prop where
  nd0 : nd E 0 = a
  lv0 : lv E 0 = 0
  pos : 0 < E.length
  nod : (nds E).Nodup
  lt : ∀ v ∈ nds E, v < n
  par : ∀ i, 0 < i → i < E.length → pr E i < i ∧ g (nd E (pr E i)) (nd E i) = true ∧ lv E i = lv E (pr E i) + 1
  mono : ∀ i j, i ≤ j → j < E.length → lv E i ≤ lv E j
  top : ∀ j, j < E.length → m < E.length → lv E j ≤ lv E m + 1
  don : ∀ i, i < m → ∀ c, c < n → g (nd E i) c = true → ∃ j, j < E.length ∧ nd E j = c ∧ lv E j ≤ lv E i + 1
  cur : ∀ c, c < k → g (nd E m) c = true → ∃ j, j < E.length ∧ nd E j = c ∧ lv E j ≤ lv E m + 1
  ml : m ≤ E.length
theorem BS.start (ha : a < n) : BS n g a 0 0 [(a, 0, 0)] := by
  refine ⟨rfl, rfl, by simp, by simp [nds], fun v hv => by simp [nds] at hv; omega, fun i h1 h2 => by simp at h2; omega, fun i j h1 h2 => ?_, fun j hj _ => ?_, fun i hi => absurd hi (by omega), fun c hc => absurd hc (by omega), by simp⟩
  · simp at h2
    have e1 : i = 0 := by omega
    have e2 : j = 0 := h2
    rw [e1, e2]
    exact Nat.le_refl _
  · simp at hj
    rw [hj]
    exact Nat.le_succ _
theorem BS.skip (h : BS n g a m k E) (hm : m < E.length) (hk : g (nd E m) k = true → k ∈ nds E) : BS n g a m (k + 1) E :=
  ⟨h.nd0, h.lv0, h.pos, h.nod, h.lt, h.par, h.mono, h.top, h.don, fun c hc hg => by
    by_cases e : c = k
    · subst e
      obtain ⟨j, hj, rfl⟩ := mem_nds.mp (hk hg)
      exact ⟨j, hj, rfl, h.top j hj hm⟩
    · exact h.cur c (by omega) hg, h.ml⟩
theorem BS.add (h : BS n g a m k E) (hm : m < E.length) (hk : g (nd E m) k = true) (hn : k ∉ nds E) (hl : k < n) : BS n g a m (k + 1) (E ++ [(k, m, lv E m + 1)]) := by
  have len : (E ++ [(k, m, lv E m + 1)]).length = E.length + 1 := by simp
  have old : ∀ {P : Nat → Prop}, (∀ i, i < E.length → P i) → P E.length → ∀ i, i < (E ++ [(k, m, lv E m + 1)]).length → P i := fun {P} h1 h2 i hi => by
    rw [len] at hi
    by_cases e : i = E.length
    · rw [e]; exact h2
    · exact h1 i (by omega)
  refine ⟨by rw [nd_app h.pos]; exact h.nd0, by rw [lv_app h.pos]; exact h.lv0, by rw [len]; omega, ?_, ?_, ?_, ?_, ?_, ?_, ?_, by rw [len]; have := h.ml; omega⟩
  · unfold nds
    rw [List.map_append]
    refine List.nodup_append.mpr ⟨h.nod, by simp, fun x hx y hy e => ?_⟩
    simp at hy
    rw [e, hy] at hx
    exact hn hx
  · intro v hv
    unfold nds at hv
    rw [List.map_append, List.mem_append] at hv
    rcases hv with hv | hv
    · exact h.lt v hv
    · simp at hv; omega
  · intro i h0 hi
    rw [len] at hi
    by_cases e : i = E.length
    · subst e
      rw [pr_new, nd_new, lv_new, nd_app hm, lv_app hm]
      exact ⟨hm, hk, rfl⟩
    · have hi' : i < E.length := by omega
      have h1 := h.par i h0 hi'
      rw [pr_app hi', nd_app hi', lv_app hi', nd_app (by omega), lv_app (by omega)]
      exact h1
  · intro i j hij hj
    rw [len] at hj
    by_cases e : j = E.length
    · subst e
      rw [lv_new]
      by_cases e2 : i = E.length
      · subst e2; rw [lv_new]; exact Nat.le_refl _
      · rw [lv_app (by omega)]
        exact h.top i (by omega) hm
    · rw [lv_app (by omega), lv_app (by omega)]
      exact h.mono i j hij (by omega)
  · intro j hj _
    rw [lv_app hm]
    revert j
    refine old (fun j hj => ?_) ?_
    · rw [lv_app hj]; exact h.top j hj hm
    · rw [lv_new]; exact Nat.le_refl _
  · intro i hi c hc hg
    have hi' : i < E.length := by omega
    rw [nd_app hi'] at hg
    obtain ⟨j, h1, h2, h3⟩ := h.don i hi c hc hg
    exact ⟨j, by rw [len]; omega, by rw [nd_app h1]; exact h2, by rw [lv_app h1, lv_app hi']; exact h3⟩
  · intro c hc hg
    rw [nd_app hm] at hg
    rw [lv_app hm]
    by_cases e : c = k
    · subst e
      exact ⟨E.length, by rw [len]; omega, by rw [nd_new], by rw [lv_new]; exact Nat.le_refl _⟩
    · obtain ⟨j, h1, h2, h3⟩ := h.cur c (by omega) hg
      exact ⟨j, by rw [len]; omega, by rw [nd_app h1]; exact h2, by rw [lv_app h1]; exact h3⟩
theorem BS.next (h : BS n g a m n E) (hm : m < E.length) : BS n g a (m + 1) 0 E :=
  ⟨h.nd0, h.lv0, h.pos, h.nod, h.lt, h.par, h.mono, fun j hj h1 => Nat.le_trans (h.top j hj hm) (Nat.succ_le_succ (h.mono m (m + 1) (by omega) h1)), fun i hi c hc hg => by
    by_cases e : i = m
    · subst e; exact h.cur c hc hg
    · exact h.don i (by omega) c hc hg, fun c hc => absurd hc (by omega), by omega⟩
theorem BS.len (h : BS n g a m k E) : E.length ≤ n := by
  have := len_le_of_nodup n h.nod h.lt
  unfold nds at this
  rwa [List.length_map] at this
/-- the end: those reached are those one comes to -/
theorem BS.rch (h : BS n g a E.length 0 E) {b : Nat} : b ∈ nds E ↔ Rch n g a b := by
  constructor
  · intro hb
    obtain ⟨i, hi, rfl⟩ := mem_nds.mp hb
    clear hb
    induction i using Nat.strongRecOn with
    | _ i ih =>
      by_cases h0 : i = 0
      · subst h0; rw [h.nd0]; exact .refl
      · have h1 := h.par i (by omega) hi
        exact (ih (pr E i) h1.1 (by omega)).step (h.lt _ (nd_mem hi)) h1.2.1
  · intro hr
    induction hr with
    | refl => rw [← h.nd0]; exact nd_mem h.pos
    | step _ h1 h2 ih =>
      obtain ⟨i, hi, rfl⟩ := mem_nds.mp ih
      obtain ⟨j, hj, rfl, _⟩ := h.don i hi _ h1 h2
      exact nd_mem hj
end
end
end M3

/-! W -/
set_option Elab.async false
set_option linter.all false
set_option maxRecDepth 100000
set_option maxHeartbeats 4000000
namespace M3
open PySem PySem.Spec PyProof.Rows L2
def topS (i : Nat) : Stmt := PySem.Challenge.pw_whobetter_k43_beside_and_cut.main.body.getD i (.Pass ⟨0, 0, 0, 0⟩)
abbrev s_is_whole : Stmt := topS 6
abbrev N_is_whole : List Str := ["value"]
theorem sc_is_whole : FnScope N_is_whole ["value"] (defScope s_is_whole) := ⟨rfl, rfl, rfl, by decide +kernel, rfl, by decide +kernel, by decide +kernel⟩
abbrev s_is_count : Stmt := topS 10
abbrev N_is_count : List Str := ["value"]
theorem sc_is_count : FnScope N_is_count ["value"] (defScope s_is_count) := ⟨rfl, rfl, rfl, by decide +kernel, rfl, by decide +kernel, by decide +kernel⟩
abbrev s_is_below : Stmt := topS 11
abbrev N_is_below : List Str := ["value", "bound"]
theorem sc_is_below : FnScope N_is_below ["value", "bound"] (defScope s_is_below) := ⟨rfl, rfl, rfl, by decide +kernel, rfl, by decide +kernel, by decide +kernel⟩
abbrev s_is_size : Stmt := topS 12
abbrev N_is_size : List Str := ["value"]
theorem sc_is_size : FnScope N_is_size ["value"] (defScope s_is_size) := ⟨rfl, rfl, rfl, by decide +kernel, rfl, by decide +kernel, by decide +kernel⟩
abbrev s_is_row_of : Stmt := topS 13
abbrev N_is_row_of : List Str := ["size", "value", "count"]
theorem sc_is_row_of : FnScope N_is_row_of ["size", "value"] (defScope s_is_row_of) := ⟨rfl, rfl, rfl, by decide +kernel, rfl, by decide +kernel, by decide +kernel⟩
abbrev s_is_table : Stmt := topS 14
abbrev N_is_table : List Str := ["value", "row", "player"]
theorem sc_is_table : FnScope N_is_table ["value"] (defScope s_is_table) := ⟨rfl, rfl, rfl, by decide +kernel, rfl, by decide +kernel, by decide +kernel⟩
abbrev s_are_players_of : Stmt := topS 15
abbrev N_are_players_of : List Str := ["size", "value", "player", "at"]
theorem sc_are_players_of : FnScope N_are_players_of ["size", "value"] (defScope s_are_players_of) := ⟨rfl, rfl, rfl, by decide +kernel, rfl, by decide +kernel, by decide +kernel⟩
abbrev s_is_lot_of : Stmt := topS 16
abbrev N_is_lot_of : List Str := ["size", "value"]
theorem sc_is_lot_of : FnScope N_is_lot_of ["size", "value"] (defScope s_is_lot_of) := ⟨rfl, rfl, rfl, by decide +kernel, rfl, by decide +kernel, by decide +kernel⟩
abbrev s_check_table : Stmt := topS 17
abbrev N_check_table : List Str := ["table"]
theorem sc_check_table : FnScope N_check_table ["table"] (defScope s_check_table) := ⟨rfl, rfl, rfl, by decide +kernel, rfl, by decide +kernel, by decide +kernel⟩
abbrev s_check_player : Stmt := topS 18
abbrev N_check_player : List Str := ["size", "player"]
theorem sc_check_player : FnScope N_check_player ["size", "player"] (defScope s_check_player) := ⟨rfl, rfl, rfl, by decide +kernel, rfl, by decide +kernel, by decide +kernel⟩
abbrev s_check_pair : Stmt := topS 19
abbrev N_check_pair : List Str := ["size", "player", "other_player"]
theorem sc_check_pair : FnScope N_check_pair ["size", "player", "other_player"] (defScope s_check_pair) := ⟨rfl, rfl, rfl, by decide +kernel, rfl, by decide +kernel, by decide +kernel⟩
abbrev s_check_lot : Stmt := topS 20
abbrev N_check_lot : List Str := ["size", "lot"]
theorem sc_check_lot : FnScope N_check_lot ["size", "lot"] (defScope s_check_lot) := ⟨rfl, rfl, rfl, by decide +kernel, rfl, by decide +kernel, by decide +kernel⟩
abbrev s_come_to : Stmt := topS 22
abbrev N_come_to : List Str := ["table", "start", "ahead", "waiting", "player", "other", "points"]
theorem sc_come_to : FnScope N_come_to ["table", "start"] (defScope s_come_to) := ⟨rfl, rfl, rfl, by decide +kernel, rfl, by decide +kernel, by decide +kernel⟩
abbrev s_cut_to : Stmt := topS 24
abbrev N_cut_to : List Str := ["table", "lot", "other", "player"]
theorem sc_cut_to : FnScope N_cut_to ["table", "lot"] (defScope s_cut_to) := ⟨rfl, rfl, rfl, by decide +kernel, rfl, by decide +kernel, by decide +kernel⟩
abbrev s_cut : Stmt := topS 25
abbrev N_cut : List Str := ["table", "lot"]
theorem sc_cut : FnScope N_cut ["table", "lot"] (defScope s_cut) := ⟨rfl, rfl, rfl, by decide +kernel, rfl, by decide +kernel, by decide +kernel⟩
abbrev s_beside : Stmt := topS 26
abbrev N_beside : List Str := ["table", "player", "other_player", "down", "up"]
theorem sc_beside : FnScope N_beside ["table", "player", "other_player"] (defScope s_beside) := ⟨rfl, rfl, rfl, by decide +kernel, rfl, by decide +kernel, by decide +kernel⟩
abbrev s_law_hash : Stmt := topS 28
abbrev N_law_hash : List Str := ["seed", "index", "mixed"]
theorem sc_law_hash : FnScope N_law_hash ["seed", "index"] (defScope s_law_hash) := ⟨rfl, rfl, rfl, by decide +kernel, rfl, by decide +kernel, by decide +kernel⟩
abbrev s_law_random : Stmt := topS 29
abbrev N_law_random : List Str := ["generator", "bound", "drawn", "turn"]
theorem sc_law_random : FnScope N_law_random ["generator", "bound"] (defScope s_law_random) := ⟨rfl, rfl, rfl, by decide +kernel, rfl, by decide +kernel, by decide +kernel⟩
abbrev s_law_cell : Stmt := topS 30
abbrev N_law_cell : List Str := ["script", "index"]
theorem sc_law_cell : FnScope N_law_cell ["script", "index"] (defScope s_law_cell) := ⟨rfl, rfl, rfl, by decide +kernel, rfl, by decide +kernel, by decide +kernel⟩
abbrev s_law_generator : Stmt := topS 31
abbrev N_law_generator : List Str := ["script", "index", "seed"]
theorem sc_law_generator : FnScope N_law_generator ["script", "index"] (defScope s_law_generator) := ⟨rfl, rfl, rfl, by decide +kernel, rfl, by decide +kernel, by decide +kernel⟩
abbrev s_law_pick : Stmt := topS 32
abbrev N_law_pick : List Str := ["generator", "things"]
theorem sc_law_pick : FnScope N_law_pick ["generator", "things"] (defScope s_law_pick) := ⟨rfl, rfl, rfl, by decide +kernel, rfl, by decide +kernel, by decide +kernel⟩
abbrev s_law_same : Stmt := topS 33
abbrev N_law_same : List Str := ["told", "due", "at"]
theorem sc_law_same : FnScope N_law_same ["told", "due"] (defScope s_law_same) := ⟨rfl, rfl, rfl, by decide +kernel, rfl, by decide +kernel, by decide +kernel⟩
abbrev s_law_comes : Stmt := topS 34
abbrev N_law_comes : List Str := ["table", "player", "near", "turn", "other", "here"]
theorem sc_law_comes : FnScope N_law_comes ["table", "player"] (defScope s_law_comes) := ⟨rfl, rfl, rfl, by decide +kernel, rfl, by decide +kernel, by decide +kernel⟩
abbrev s_law_drawn_table : Stmt := topS 35
abbrev N_law_drawn_table : List Str := ["generator", "size", "most", "spare", "rows", "player", "row", "other"]
theorem sc_law_drawn_table : FnScope N_law_drawn_table ["generator", "size", "most", "spare"] (defScope s_law_drawn_table) := ⟨rfl, rfl, rfl, by decide +kernel, rfl, by decide +kernel, by decide +kernel⟩
abbrev s_law_word : Stmt := topS 36
abbrev N_law_word : List Str := ["table", "one", "other", "down", "up"]
theorem sc_law_word : FnScope N_law_word ["table", "one", "other"] (defScope s_law_word) := ⟨rfl, rfl, rfl, by decide +kernel, rfl, by decide +kernel, by decide +kernel⟩
abbrev s_law_case_right : Stmt := topS 37
abbrev N_law_case_right : List Str := ["script", "index", "generator", "size", "table", "kept", "one", "other", "turn", "lot", "player", "due", "told"]
theorem sc_law_case_right : FnScope N_law_case_right ["script", "index"] (defScope s_law_case_right) := ⟨rfl, rfl, rfl, by decide +kernel, rfl, by decide +kernel, by decide +kernel⟩
abbrev s_law : Stmt := topS 38
abbrev N_law : List Str := ["script"]
theorem sc_law : FnScope N_law ["script"] (defScope s_law) := ⟨rfl, rfl, rfl, by decide +kernel, rfl, by decide +kernel, by decide +kernel⟩
/-- where the defs stand -/
structure Ad where
  a_is_whole : Addr
  d_is_whole : FuncData
  a_is_count : Addr
  d_is_count : FuncData
  a_is_below : Addr
  d_is_below : FuncData
  a_is_size : Addr
  d_is_size : FuncData
  a_is_row_of : Addr
  d_is_row_of : FuncData
  a_is_table : Addr
  d_is_table : FuncData
  a_are_players_of : Addr
  d_are_players_of : FuncData
  a_is_lot_of : Addr
  d_is_lot_of : FuncData
  a_check_table : Addr
  d_check_table : FuncData
  a_check_player : Addr
  d_check_player : FuncData
  a_check_pair : Addr
  d_check_pair : FuncData
  a_check_lot : Addr
  d_check_lot : FuncData
  a_come_to : Addr
  d_come_to : FuncData
  a_cut_to : Addr
  d_cut_to : FuncData
  a_cut : Addr
  d_cut : FuncData
  a_beside : Addr
  d_beside : FuncData
  a_law_hash : Addr
  d_law_hash : FuncData
  a_law_random : Addr
  d_law_random : FuncData
  a_law_cell : Addr
  d_law_cell : FuncData
  a_law_generator : Addr
  d_law_generator : FuncData
  a_law_pick : Addr
  d_law_pick : FuncData
  a_law_same : Addr
  d_law_same : FuncData
  a_law_comes : Addr
  d_law_comes : FuncData
  a_law_drawn_table : Addr
  d_law_drawn_table : FuncData
  a_law_word : Addr
  d_law_word : FuncData
  a_law_case_right : Addr
  d_law_case_right : FuncData
  a_law : Addr
  d_law : FuncData
/-- what stands behind the top -/
structure GF (K : Fg) (mg : Str → Option Value) (A : Ad) : Prop where
  F_is_whole : Fun K "is_whole" "is_whole" s_is_whole A.a_is_whole A.d_is_whole
  g_is_whole : mg "is_whole" = some (.ref A.a_is_whole)
  b_is_whole : Binds K A.d_is_whole ["value"] []
  F_is_count : Fun K "is_count" "is_count" s_is_count A.a_is_count A.d_is_count
  g_is_count : mg "is_count" = some (.ref A.a_is_count)
  b_is_count : Binds K A.d_is_count ["value"] []
  F_is_below : Fun K "is_below" "is_below" s_is_below A.a_is_below A.d_is_below
  g_is_below : mg "is_below" = some (.ref A.a_is_below)
  b_is_below : Binds K A.d_is_below ["value", "bound"] []
  F_is_size : Fun K "is_size" "is_size" s_is_size A.a_is_size A.d_is_size
  g_is_size : mg "is_size" = some (.ref A.a_is_size)
  b_is_size : Binds K A.d_is_size ["value"] []
  F_is_row_of : Fun K "is_row_of" "is_row_of" s_is_row_of A.a_is_row_of A.d_is_row_of
  g_is_row_of : mg "is_row_of" = some (.ref A.a_is_row_of)
  b_is_row_of : Binds K A.d_is_row_of ["size", "value"] []
  F_is_table : Fun K "is_table" "is_table" s_is_table A.a_is_table A.d_is_table
  g_is_table : mg "is_table" = some (.ref A.a_is_table)
  b_is_table : Binds K A.d_is_table ["value"] []
  F_are_players_of : Fun K "are_players_of" "are_players_of" s_are_players_of A.a_are_players_of A.d_are_players_of
  g_are_players_of : mg "are_players_of" = some (.ref A.a_are_players_of)
  b_are_players_of : Binds K A.d_are_players_of ["size", "value"] []
  F_is_lot_of : Fun K "is_lot_of" "is_lot_of" s_is_lot_of A.a_is_lot_of A.d_is_lot_of
  g_is_lot_of : mg "is_lot_of" = some (.ref A.a_is_lot_of)
  b_is_lot_of : Binds K A.d_is_lot_of ["size", "value"] []
  F_check_table : Fun K "check_table" "check_table" s_check_table A.a_check_table A.d_check_table
  g_check_table : mg "check_table" = some (.ref A.a_check_table)
  b_check_table : Binds K A.d_check_table ["table"] []
  F_check_player : Fun K "check_player" "check_player" s_check_player A.a_check_player A.d_check_player
  g_check_player : mg "check_player" = some (.ref A.a_check_player)
  b_check_player : Binds K A.d_check_player ["size", "player"] []
  F_check_pair : Fun K "check_pair" "check_pair" s_check_pair A.a_check_pair A.d_check_pair
  g_check_pair : mg "check_pair" = some (.ref A.a_check_pair)
  b_check_pair : Binds K A.d_check_pair ["size", "player", "other_player"] []
  F_check_lot : Fun K "check_lot" "check_lot" s_check_lot A.a_check_lot A.d_check_lot
  g_check_lot : mg "check_lot" = some (.ref A.a_check_lot)
  b_check_lot : Binds K A.d_check_lot ["size", "lot"] []
  F_come_to : Fun K "come_to" "come_to" s_come_to A.a_come_to A.d_come_to
  g_come_to : mg "come_to" = some (.ref A.a_come_to)
  b_come_to : Binds K A.d_come_to ["table", "start"] []
  F_cut_to : Fun K "cut_to" "cut_to" s_cut_to A.a_cut_to A.d_cut_to
  g_cut_to : mg "cut_to" = some (.ref A.a_cut_to)
  b_cut_to : Binds K A.d_cut_to ["table", "lot"] []
  F_cut : Fun K "cut" "cut" s_cut A.a_cut A.d_cut
  g_cut : mg "cut" = some (.ref A.a_cut)
  b_cut : Binds K A.d_cut ["table", "lot"] []
  F_beside : Fun K "beside" "beside" s_beside A.a_beside A.d_beside
  g_beside : mg "beside" = some (.ref A.a_beside)
  b_beside : Binds K A.d_beside ["table", "player", "other_player"] []
  F_law_hash : Fun K "_law_hash" "_law_hash" s_law_hash A.a_law_hash A.d_law_hash
  g_law_hash : mg "_law_hash" = some (.ref A.a_law_hash)
  b_law_hash : Binds K A.d_law_hash ["seed", "index"] []
  F_law_random : Fun K "_law_random" "_law_random" s_law_random A.a_law_random A.d_law_random
  g_law_random : mg "_law_random" = some (.ref A.a_law_random)
  b_law_random : Binds K A.d_law_random ["generator", "bound"] []
  F_law_cell : Fun K "_law_cell" "_law_cell" s_law_cell A.a_law_cell A.d_law_cell
  g_law_cell : mg "_law_cell" = some (.ref A.a_law_cell)
  b_law_cell : Binds K A.d_law_cell ["script", "index"] []
  F_law_generator : Fun K "_law_generator" "_law_generator" s_law_generator A.a_law_generator A.d_law_generator
  g_law_generator : mg "_law_generator" = some (.ref A.a_law_generator)
  b_law_generator : Binds K A.d_law_generator ["script", "index"] []
  F_law_pick : Fun K "_law_pick" "_law_pick" s_law_pick A.a_law_pick A.d_law_pick
  g_law_pick : mg "_law_pick" = some (.ref A.a_law_pick)
  b_law_pick : Binds K A.d_law_pick ["generator", "things"] []
  F_law_same : Fun K "_law_same" "_law_same" s_law_same A.a_law_same A.d_law_same
  g_law_same : mg "_law_same" = some (.ref A.a_law_same)
  b_law_same : Binds K A.d_law_same ["told", "due"] []
  F_law_comes : Fun K "_law_comes" "_law_comes" s_law_comes A.a_law_comes A.d_law_comes
  g_law_comes : mg "_law_comes" = some (.ref A.a_law_comes)
  b_law_comes : Binds K A.d_law_comes ["table", "player"] []
  F_law_drawn_table : Fun K "_law_drawn_table" "_law_drawn_table" s_law_drawn_table A.a_law_drawn_table A.d_law_drawn_table
  g_law_drawn_table : mg "_law_drawn_table" = some (.ref A.a_law_drawn_table)
  b_law_drawn_table : Binds K A.d_law_drawn_table ["generator", "size", "most", "spare"] []
  F_law_word : Fun K "_law_word" "_law_word" s_law_word A.a_law_word A.d_law_word
  g_law_word : mg "_law_word" = some (.ref A.a_law_word)
  b_law_word : Binds K A.d_law_word ["table", "one", "other"] []
  F_law_case_right : Fun K "_law_case_right" "_law_case_right" s_law_case_right A.a_law_case_right A.d_law_case_right
  g_law_case_right : mg "_law_case_right" = some (.ref A.a_law_case_right)
  b_law_case_right : Binds K A.d_law_case_right ["script", "index"] []
  F_law : Fun K "law" "law" s_law A.a_law A.d_law
  g_law : mg "law" = some (.ref A.a_law)
  b_law : Binds K A.d_law ["script"] []
  n_bool : mg "bool" = none
  n_dict : mg "dict" = none
  n_enumerate : mg "enumerate" = none
  n_int : mg "int" = none
  n_isinstance : mg "isinstance" = none
  n_len : mg "len" = none
  n_list : mg "list" = none
  n_max : mg "max" = none
  n_range : mg "range" = none
  n_repr : mg "repr" = none
  n_str : mg "str" = none
  n_sum : mg "sum" = none
  n_tuple : mg "tuple" = none
  c_LARGEST : ∃ t, mg "LARGEST" = some (.int 16 t)
  c_MOST_TAKEN : ∃ t, mg "MOST_TAKEN" = some (.int 1000 t)
section
variable {Pg : Program} {w : World} {K : PySem.W.Frag} {mg : Str → Option Value} {base : Heap} {A : Ad}
def b_is_whole : MSt :=
 (sRet (mAnd (mf fIsi (mCons (mVar 0) (mCons (mC (.val (.ty "int"))) mNil))) (mNot (mf fIsi (mCons (mVar 0) (mCons (mC (.val (.ty "bool"))) mNil))))))
def m_is_whole : Fn := mFn 0 1 1 b_is_whole
theorem ok_is_whole (T : GF K mg A) : FnG Pg w K mg base (L2.CX Pg w) 1 A.a_is_whole A.d_is_whole ["value"] (spM K [] [0] 0 1 m_is_whole) := by
    exact fn_ok [] [0] [0] 0 1 T.F_is_whole sc_is_whole (fun cdv Ar outer s H E hr =>
 (mss_one (ms_ret rfl (me_and (me_cB cIsi (mab_cons (me_var 0) (mab_cons (me_ty (T := "int") T.n_int) mab_nil)) T.n_isinstance) (me_one (me_not (me_cB cIsi (mab_cons (me_var 0) (mab_cons (me_ty (T := "bool") T.n_bool) mab_nil)) T.n_isinstance)))))))
def b_is_count : MSt :=
 (sRet (mAnd (mCall m_is_whole [none] [] (mCons (mVar 0) mNil)) (m2 D.ge (mVar 0) (mC (.int 0)))))
def m_is_count : Fn := mFn 0 1 1 b_is_count
theorem ok_is_count (T : GF K mg A) : FnG Pg w K mg base (L2.CX Pg w) 2 A.a_is_count A.d_is_count ["value"] (spM K [] [0] 0 1 m_is_count) := by
    have G_is_whole := ok_is_whole (Pg := Pg) (w := w) (base := base) T
    exact fn_ok [] [0] [0] 0 1 T.F_is_count sc_is_count (fun cdv Ar outer s H E hr =>
 (mss_one (ms_ret rfl (me_and (MO.me (mo_call (dd := []) (dvs := []) G_is_whole (hr.mono (by decide)) T.g_is_whole T.F_is_whole.kp T.b_is_whole .nil (fun _ => rfl) (takes_of rfl rfl rfl rfl) (mai_cons (me_var 0) mai_nil))) (me_one (me_cmp oGe (me_var 0) me_int))))))
def b_is_below : MSt :=
 (sRet (mAnd (mCall m_is_count [none] [] (mCons (mVar 0) mNil)) (m2 D.lt (mVar 0) (mVar 1))))
def m_is_below : Fn := mFn 0 2 2 b_is_below
theorem ok_is_below (T : GF K mg A) : FnG Pg w K mg base (L2.CX Pg w) 3 A.a_is_below A.d_is_below ["value", "bound"] (spM K [] [0, 0] 0 2 m_is_below) := by
    have G_is_count := ok_is_count (Pg := Pg) (w := w) (base := base) T
    exact fn_ok [] [0, 0] [0, 0] 0 2 T.F_is_below sc_is_below (fun cdv Ar outer s H E hr =>
 (mss_one (ms_ret rfl (me_and (MO.me (mo_call (dd := []) (dvs := []) G_is_count (hr.mono (by decide)) T.g_is_count T.F_is_count.kp T.b_is_count .nil (fun _ => rfl) (takes_of rfl rfl rfl rfl) (mai_cons (me_var 0) mai_nil))) (me_one (me_cmp oLt (me_var 0) (me_var 1)))))))
def b_is_size : MSt :=
 (sRet (mAnd (mCall m_is_whole [none] [] (mCons (mVar 0) mNil)) (m3 D.le D.le (mC (.int 2)) (mVar 0) (mC (.int 16)))))
def m_is_size : Fn := mFn 0 1 1 b_is_size
theorem ok_is_size (T : GF K mg A) : FnG Pg w K mg base (L2.CX Pg w) 2 A.a_is_size A.d_is_size ["value"] (spM K [] [0] 0 1 m_is_size) := by
    have G_is_whole := ok_is_whole (Pg := Pg) (w := w) (base := base) T
    exact fn_ok [] [0] [0] 0 1 T.F_is_size sc_is_size (fun cdv Ar outer s H E hr =>
 (mss_one (ms_ret rfl (me_and (MO.me (mo_call (dd := []) (dvs := []) G_is_whole (hr.mono (by decide)) T.g_is_whole T.F_is_whole.kp T.b_is_whole .nil (fun _ => rfl) (takes_of rfl rfl rfl rfl) (mai_cons (me_var 0) mai_nil))) (me_one (me_chain oLe oLe me_int (me_var 0) (me_gint T.c_LARGEST)))))))
def b_is_row_of : MSt :=
 (sSeq (sIf (mOr (mNot (mB (mf fIsi (mCons (mVar 1) (mCons (mC (.val (.ty "list"))) mNil))))) (mB (m2 D.ne (mf fLen (mCons (mVar 1) mNil)) (mVar 0))))
 (sRet (mC (.bl false)))
 sNx)
 (sRet (m2 D.eq (mLc [2] (gN 2) (mNot (mB (mCall m_is_below [none, none] [] (mCons (mVar 2) (mCons (m2 D.add (mC (.int 1000)) (mC (.int 1))) mNil))))) (mVar 2) (iSrc (mVar 1))) (mf mkLst mNil))))
def m_is_row_of : Fn := mFn 0 3 2 b_is_row_of
theorem ok_is_row_of (T : GF K mg A) : FnG Pg w K mg base (L2.CX Pg w) 4 A.a_is_row_of A.d_is_row_of ["size", "value"] (spM K [] [0, 0, 0] 0 2 m_is_row_of) := by
    have G_is_below := ok_is_below (Pg := Pg) (w := w) (base := base) T
    exact fn_ok [] [0, 0, 0] [0, 0, 0] 0 2 T.F_is_row_of sc_is_row_of (fun cdv Ar outer s H E hr =>
 (mss_cons (ms_if (MW.mt (mw_or (mt_not (mt_val (me_cB cIsi (mab_cons (me_var 1) (mab_cons (me_ty (T := "list") T.n_list) mab_nil)) T.n_isinstance))) (mw_or1 (mt_cmp (oNe hr.units) (me_cB cLen (mab_cons (me_var 1) mab_nil) T.n_len) (me_var 0)))))
 (mss_one (ms_ret rfl me_bl))
 mss_nil)
 (mss_one (ms_ret rfl (me_cmp (oEq hr.units) (MO.me (mo_lc (own := [("count", 2)]) (vs := [2]) rfl sc_is_row_of.nd (blkOk_by (N := N_is_row_of) (sc := defScope s_is_row_of) (by decide +kernel)) (mi_seq (me_var 1)) (fun _ _ _ _ _ => (mg_name 2 sc_is_row_of.nd)) (fun _ _ _ _ _ => (mts_one (mt_not (mt_val (MO.me (mo_call (dd := []) (dvs := []) G_is_below (hr.mono (by decide)) T.g_is_below T.F_is_below.kp T.b_is_below .nil (fun _ => rfl) takes0 (mai_cons (me_var 2) (mai_cons (me_binG oAdd (me_gint T.c_MOST_TAKEN) me_int) mai_nil)))))))) (fun _ _ _ _ _ => (ME.mo (me_var 2))))) (me_lst ma_nil))))))
def b_is_table : MSt :=
 (sSeq (sIf (mOr (mNot (mB (mf fIsi (mCons (mVar 0) (mCons (mC (.val (.ty "list"))) mNil))))) (mNot (mB (mCall m_is_size [none] [] (mCons (mf fLen (mCons (mVar 0) mNil)) mNil)))))
 (sRet (mC (.bl false)))
 sNx)
 (sSeq (sIf (mB (m2 D.ne (mLc [1] (gN 1) (mNot (mB (mCall m_is_row_of [none, none] [] (mCons (mf fLen (mCons (mVar 0) mNil)) (mCons (mVar 1) mNil))))) (mVar 1) (iSrc (mVar 0))) (mf mkLst mNil)))
 (sRet (mC (.bl false)))
 sNx)
 (sRet (m2 D.eq (mLc [2, 1] (gT 2 (gsCons (gN 2) (gsCons (gN 1) gsNil))) (mB (m2 D.ne (m2 D.ix (mVar 1) (mVar 2)) (mC (.int 0)))) (mVar 2) (iEn (mCons (mVar 0) mNil))) (mf mkLst mNil)))))
def m_is_table : Fn := mFn 0 3 1 b_is_table
theorem ok_is_table (T : GF K mg A) : FnG Pg w K mg base (L2.CX Pg w) 5 A.a_is_table A.d_is_table ["value"] (spM K [] [0, 0, 0] 0 1 m_is_table) := by
    have G_is_size := ok_is_size (Pg := Pg) (w := w) (base := base) T
    have G_is_row_of := ok_is_row_of (Pg := Pg) (w := w) (base := base) T
    exact fn_ok [] [0, 0, 0] [0, 0, 0] 0 1 T.F_is_table sc_is_table (fun cdv Ar outer s H E hr =>
 (mss_cons (ms_if (MW.mt (mw_or (mt_not (mt_val (me_cB cIsi (mab_cons (me_var 0) (mab_cons (me_ty (T := "list") T.n_list) mab_nil)) T.n_isinstance))) (mw_or1 (mt_not (mt_val (MO.me (mo_call (dd := []) (dvs := []) G_is_size (hr.mono (by decide)) T.g_is_size T.F_is_size.kp T.b_is_size .nil (fun _ => rfl) (takes_of rfl rfl rfl rfl) (mai_cons (me_cB cLen (mab_cons (me_var 0) mab_nil) T.n_len) mai_nil))))))))
 (mss_one (ms_ret rfl me_bl))
 mss_nil)
 (mss_cons (ms_if (mt_cmp (oNe hr.units) (MO.me (mo_lc (own := [("row", 1)]) (vs := [1]) rfl sc_is_table.nd (blkOk_by (N := N_is_table) (sc := defScope s_is_table) (by decide +kernel)) (mi_seq (me_var 0)) (fun _ _ _ _ _ => (mg_name 1 sc_is_table.nd)) (fun _ _ _ _ _ => (mts_one (mt_not (mt_val (MO.me (mo_call (dd := []) (dvs := []) G_is_row_of (hr.mono (by decide)) T.g_is_row_of T.F_is_row_of.kp T.b_is_row_of .nil (fun _ => rfl) takes0 (mai_cons (me_cB cLen (mab_cons (me_var 0) mab_nil) T.n_len) (mai_cons (me_var 1) mai_nil)))))))) (fun _ _ _ _ _ => (ME.mo (me_var 1))))) (me_lst ma_nil))
 (mss_one (ms_ret rfl me_bl))
 mss_nil)
 (mss_one (ms_ret rfl (me_cmp (oEq hr.units) (MO.me (mo_lc (own := [("player", 2), ("row", 1)]) (vs := [2, 1]) rfl sc_is_table.nd (blkOk_by (N := N_is_table) (sc := defScope s_is_table) (by decide +kernel)) (mi_enum (ma_cons (me_var 0) ma_nil) T.n_enumerate) (fun _ _ _ _ _ => (mg_tupB K rfl rfl (mgs_cons (mg_name 2 sc_is_table.nd) (mgs_cons (mg_name 1 sc_is_table.nd) mgs_nil)))) (fun _ _ _ _ _ => (mts_one (mt_cmp (oNe hr.units) (me_ix (me_var 1) (me_var 2)) me_int))) (fun _ _ _ _ _ => (ME.mo (me_var 2))))) (me_lst ma_nil)))))))
def b_are_players_of : MSt :=
 (sSeq (sIf (mOr (mNot (mB (mf fIsi (mCons (mVar 1) (mCons (mC (.val (.ty "list"))) mNil))))) (mB (m2 D.ne (mLc [2] (gN 2) (mNot (mB (mCall m_is_below [none, none] [] (mCons (mVar 2) (mCons (mVar 0) mNil))))) (mVar 2) (iSrc (mVar 1))) (mf mkLst mNil))))
 (sRet (mC (.bl false)))
 sNx)
 (sRet (m2 D.eq (mLc [3] (gN 3) (mB (m2 D.ge (m2 D.ix (mVar 1) (m2 D.sub (mVar 3) (mC (.int 1)))) (m2 D.ix (mVar 1) (mVar 3)))) (mVar 3) (iR2 (mCons (mC (.int 1)) (mCons (mf fLen (mCons (mVar 1) mNil)) mNil)))) (mf mkLst mNil))))
def m_are_players_of : Fn := mFn 0 4 2 b_are_players_of
theorem ok_are_players_of (T : GF K mg A) : FnG Pg w K mg base (L2.CX Pg w) 4 A.a_are_players_of A.d_are_players_of ["size", "value"] (spM K [] [0, 0, 0, 0] 0 2 m_are_players_of) := by
    have G_is_below := ok_is_below (Pg := Pg) (w := w) (base := base) T
    exact fn_ok [] [0, 0, 0, 0] [0, 0, 0, 0] 0 2 T.F_are_players_of sc_are_players_of (fun cdv Ar outer s H E hr =>
 (mss_cons (ms_if (MW.mt (mw_or (mt_not (mt_val (me_cB cIsi (mab_cons (me_var 1) (mab_cons (me_ty (T := "list") T.n_list) mab_nil)) T.n_isinstance))) (mw_or1 (mt_cmp (oNe hr.units) (MO.me (mo_lc (own := [("player", 2)]) (vs := [2]) rfl sc_are_players_of.nd (blkOk_by (N := N_are_players_of) (sc := defScope s_are_players_of) (by decide +kernel)) (mi_seq (me_var 1)) (fun _ _ _ _ _ => (mg_name 2 sc_are_players_of.nd)) (fun _ _ _ _ _ => (mts_one (mt_not (mt_val (MO.me (mo_call (dd := []) (dvs := []) G_is_below (hr.mono (by decide)) T.g_is_below T.F_is_below.kp T.b_is_below .nil (fun _ => rfl) takes0 (mai_cons (me_var 2) (mai_cons (me_var 0) mai_nil)))))))) (fun _ _ _ _ _ => (ME.mo (me_var 2))))) (me_lst ma_nil)))))
 (mss_one (ms_ret rfl me_bl))
 mss_nil)
 (mss_one (ms_ret rfl (me_cmp (oEq hr.units) (MO.me (mo_lc (own := [("at", 3)]) (vs := [3]) rfl sc_are_players_of.nd (blkOk_by (N := N_are_players_of) (sc := defScope s_are_players_of) (by decide +kernel)) (mi_r2 (ma_cons me_int (ma_cons (me_cB cLen (mab_cons (me_var 1) mab_nil) T.n_len) ma_nil)) T.n_range) (fun _ _ _ _ _ => (mg_name 3 sc_are_players_of.nd)) (fun _ _ _ _ _ => (mts_one (mt_cmp oGe (me_ix (me_var 1) (me_bin oSub (me_var 3) me_int)) (me_ix (me_var 1) (me_var 3))))) (fun _ _ _ _ _ => (ME.mo (me_var 3))))) (me_lst ma_nil))))))
def b_is_lot_of : MSt :=
 (sRet (mAnd (mCall m_are_players_of [none, none] [] (mCons (mVar 0) (mCons (mVar 1) mNil))) (m3 D.lt D.lt (mC (.int 0)) (mf fLen (mCons (mVar 1) mNil)) (mVar 0))))
def m_is_lot_of : Fn := mFn 0 2 2 b_is_lot_of
theorem ok_is_lot_of (T : GF K mg A) : FnG Pg w K mg base (L2.CX Pg w) 5 A.a_is_lot_of A.d_is_lot_of ["size", "value"] (spM K [] [0, 0] 0 2 m_is_lot_of) := by
    have G_are_players_of := ok_are_players_of (Pg := Pg) (w := w) (base := base) T
    exact fn_ok [] [0, 0] [0, 0] 0 2 T.F_is_lot_of sc_is_lot_of (fun cdv Ar outer s H E hr =>
 (mss_one (ms_ret rfl (me_and (MO.me (mo_call (dd := []) (dvs := []) G_are_players_of (hr.mono (by decide)) T.g_are_players_of T.F_are_players_of.kp T.b_are_players_of .nil (fun _ => rfl) (takes_of rfl rfl rfl rfl) (mai_cons (me_var 0) (mai_cons (me_var 1) mai_nil)))) (me_one (me_chain oLt oLt me_int (me_cB cLen (mab_cons (me_var 1) mab_nil) T.n_len) (me_var 0)))))))
def b_check_table : MSt :=
 (sIf (mNot (mB (mCall m_is_table [none] [] (mCons (mVar 0) mNil))))
 sBad
 sNx)
def m_check_table : Fn := mFn 0 1 1 b_check_table
theorem ok_check_table (T : GF K mg A) : FnG Pg w K mg base (L2.CX Pg w) 6 A.a_check_table A.d_check_table ["table"] (spM K [] [0] 0 1 m_check_table) := by
    have G_is_table := ok_is_table (Pg := Pg) (w := w) (base := base) T
    exact fn_ok [] [0] [0] 0 1 T.F_check_table sc_check_table (fun cdv Ar outer s H E hr =>
 (mss_one (ms_if (mt_not (mt_val (MO.me (mo_call (dd := []) (dvs := []) G_is_table (hr.mono (by decide)) T.g_is_table T.F_is_table.kp T.b_is_table .nil (fun _ => rfl) (takes_of rfl rfl rfl rfl) (mai_cons (me_var 0) mai_nil)))))
 (mss_one ms_bad)
 mss_nil)))
def b_check_player : MSt :=
 (sIf (mNot (mB (mCall m_is_below [none, none] [] (mCons (mVar 1) (mCons (mVar 0) mNil)))))
 sBad
 sNx)
def m_check_player : Fn := mFn 0 2 2 b_check_player
theorem ok_check_player (T : GF K mg A) : FnG Pg w K mg base (L2.CX Pg w) 4 A.a_check_player A.d_check_player ["size", "player"] (spM K [] [0, 0] 0 2 m_check_player) := by
    have G_is_below := ok_is_below (Pg := Pg) (w := w) (base := base) T
    exact fn_ok [] [0, 0] [0, 0] 0 2 T.F_check_player sc_check_player (fun cdv Ar outer s H E hr =>
 (mss_one (ms_if (mt_not (mt_val (MO.me (mo_call (dd := []) (dvs := []) G_is_below (hr.mono (by decide)) T.g_is_below T.F_is_below.kp T.b_is_below .nil (fun _ => rfl) (takes_of rfl rfl rfl rfl) (mai_cons (me_var 1) (mai_cons (me_var 0) mai_nil))))))
 (mss_one ms_bad)
 mss_nil)))
def b_check_pair : MSt :=
 (sSeq (sDrop (mCall m_check_player [none, none] [] (mCons (mVar 0) (mCons (mVar 1) mNil))))
 (sSeq (sDrop (mCall m_check_player [none, none] [] (mCons (mVar 0) (mCons (mVar 2) mNil))))
 (sIf (mB (m2 D.eq (mVar 1) (mVar 2)))
 sBad
 sNx)))
def m_check_pair : Fn := mFn 0 3 3 b_check_pair
theorem ok_check_pair (T : GF K mg A) : FnG Pg w K mg base (L2.CX Pg w) 5 A.a_check_pair A.d_check_pair ["size", "player", "other_player"] (spM K [] [0, 0, 0] 0 3 m_check_pair) := by
    have G_check_player := ok_check_player (Pg := Pg) (w := w) (base := base) T
    exact fn_ok [] [0, 0, 0] [0, 0, 0] 0 3 T.F_check_pair sc_check_pair (fun cdv Ar outer s H E hr =>
 (mss_cons (ms_expr (MO.me (mo_call (dd := []) (dvs := []) G_check_player (hr.mono (by decide)) T.g_check_player T.F_check_player.kp T.b_check_player .nil (fun _ => rfl) (takes_of rfl rfl rfl rfl) (mai_cons (me_var 0) (mai_cons (me_var 1) mai_nil)))))
 (mss_cons (ms_expr (MO.me (mo_call (dd := []) (dvs := []) G_check_player (hr.mono (by decide)) T.g_check_player T.F_check_player.kp T.b_check_player .nil (fun _ => rfl) (takes_of rfl rfl rfl rfl) (mai_cons (me_var 0) (mai_cons (me_var 2) mai_nil)))))
 (mss_one (ms_if (mt_cmp (oEq hr.units) (me_var 1) (me_var 2))
 (mss_one ms_bad)
 mss_nil)))))
def b_check_lot : MSt :=
 (sIf (mNot (mB (mCall m_is_lot_of [none, none] [] (mCons (mVar 0) (mCons (mVar 1) mNil)))))
 sBad
 sNx)
def m_check_lot : Fn := mFn 0 2 2 b_check_lot
theorem ok_check_lot (T : GF K mg A) : FnG Pg w K mg base (L2.CX Pg w) 6 A.a_check_lot A.d_check_lot ["size", "lot"] (spM K [] [0, 0] 0 2 m_check_lot) := by
    have G_is_lot_of := ok_is_lot_of (Pg := Pg) (w := w) (base := base) T
    exact fn_ok [] [0, 0] [0, 0] 0 2 T.F_check_lot sc_check_lot (fun cdv Ar outer s H E hr =>
 (mss_one (ms_if (mt_not (mt_val (MO.me (mo_call (dd := []) (dvs := []) G_is_lot_of (hr.mono (by decide)) T.g_is_lot_of T.F_is_lot_of.kp T.b_is_lot_of .nil (fun _ => rfl) (takes_of rfl rfl rfl rfl) (mai_cons (me_var 0) (mai_cons (me_var 1) mai_nil))))))
 (mss_one ms_bad)
 mss_nil)))
def b_come_to : MSt :=
 (sSeq (sSet 2 (mDct1 (mVar 1) (mC .non)))
 (sSeq (sSet 3 (mf mkLst (mCons (mVar 1) mNil)))
 (sSeq (sWhl (mB (m2 D.ne (mVar 3) (mf mkLst mNil)))
 (sSeq (sSet 4 (mPop 3 (mC (.int 0))))
 (sFor (gT 2 (gsCons (gN 5) (gsCons (gN 6) gsNil))) (iEn (mCons (m2 D.ix (mVar 0) (mVar 4)) mNil))
 (sIf (mAnd (mB (m2 D.gt (mVar 6) (mC (.int 0)))) (mB (m2 D.notin (mVar 5) (mVar 2))))
 (sSeq (sSubK 2 (mVar 5) (mVar 4))
 (sApp 3 (mVar 5)))
 sNx))))
 (sRet (mVar 2)))))
def m_come_to : Fn := mFn 0 7 2 b_come_to
theorem ok_come_to (T : GF K mg A) : FnG Pg w K mg base (L2.CX Pg w) 1 A.a_come_to A.d_come_to ["table", "start"] (spM K [] [0, 0, 0, 0, 0, 0, 0] 0 2 m_come_to) := by
    exact fn_ok [] [0, 0, 0, 0, 0, 0, 0] [0, 0, 0, 1, 0, 0, 0] 0 2 T.F_come_to sc_come_to (fun cdv Ar outer s H E hr =>
 (mss_cons (ms_setO 2 sc_come_to.nd (mo_dct1 (me_var 1) me_non))
 (mss_cons (ms_setO 3 sc_come_to.nd (mo_lst (ma_cons (me_var 1) ma_nil)))
 (mss_cons (ms_while (passes_of rfl) (mt_cmp (oNe hr.units) (me_var 3) (me_lst ma_nil))
 (mss_cons (ms_set 4 sc_come_to.nd (me_popAt 3 me_int))
 (mss_one (ms_for (passes_of rfl) rfl (mi_enum (ma_cons (me_ix (me_var 0) (me_var 4)) ma_nil) T.n_enumerate) (mg_tup rfl (mgs_cons (mg_name 5 sc_come_to.nd) (mgs_cons (mg_name 6 sc_come_to.nd) mgs_nil)))
 (mss_one (ms_if (MW.mt (mw_and (mt_cmp oGt (me_var 6) me_int) (mw_and1 (mt_cmp (oNotIn hr.units5) (me_var 5) (me_var 2)))))
 (mss_cons (ms_subK 2 hr.units1 (me_var 4) (me_var 5))
 (mss_one (ms_app 3 (me_var 5))))
 mss_nil))))))
 (mss_one (MS.frz (O := [0, 0, 1, 1, 0, 0, 0]) 2 (ms_ret rfl (me_var 2))))))))
def b_cut_to : MSt :=
 (sRet (mLc [3] (gN 3) mYes (mLc [2] (gN 2) mYes (m2 D.ix (m2 D.ix (mVar 0) (mVar 3)) (mVar 2)) (iSrc (mVar 1))) (iSrc (mVar 1))))
def m_cut_to : Fn := mFn 2 4 2 b_cut_to
theorem ok_cut_to (T : GF K mg A) : FnG Pg w K mg base (L2.CX Pg w) 1 A.a_cut_to A.d_cut_to ["table", "lot"] (spM K [] [0, 0, 0, 0] 2 2 m_cut_to) := by
    exact fn_ok [] [0, 0, 0, 0] [0, 0, 0, 0] 2 2 T.F_cut_to sc_cut_to (fun cdv Ar outer s H E hr =>
 (mss_one (ms_retO rfl (mo_lc (own := [("player", 3)]) (vs := [3]) rfl sc_cut_to.nd (blkOk_by (N := N_cut_to) (sc := defScope s_cut_to) (by decide +kernel)) (mi_seq (me_var 1)) (fun _ _ _ _ _ => (mg_name 3 sc_cut_to.nd)) (fun _ _ _ _ _ => mts_nil) (fun _ _ _ _ _ => (mo_lc (own := [("other", 2)]) (vs := [2]) rfl sc_cut_to.nd (blkOk_by (N := N_cut_to) (by kernel_rfl)) (mi_seq (me_var 1)) (fun _ _ _ _ _ => (mg_name 2 sc_cut_to.nd)) (fun _ _ _ _ _ => mts_nil) (fun _ _ _ _ _ => (ME.mo (me_ix (me_ix (me_var 0) (me_var 3)) (me_var 2))))))))))
def b_cut : MSt :=
 (sSeq (sDrop (mCall m_check_table [none] [] (mCons (mVar 0) mNil)))
 (sSeq (sDrop (mCall m_check_lot [none, none] [] (mCons (mf fLen (mCons (mVar 0) mNil)) (mCons (mVar 1) mNil))))
 (sSeq (sIf (mB (m2 D.eq (mf fLen (mCons (mVar 1) mNil)) (mC (.int 1))))
 sBad
 sNx)
 (sRet (mCall m_cut_to [none, none] [] (mCons (mVar 0) (mCons (mVar 1) mNil)))))))
def m_cut : Fn := mFn 2 2 2 b_cut
theorem ok_cut (T : GF K mg A) : FnG Pg w K mg base (L2.CX Pg w) 7 A.a_cut A.d_cut ["table", "lot"] (spM K [] [0, 0] 2 2 m_cut) := by
    have G_check_table := ok_check_table (Pg := Pg) (w := w) (base := base) T
    have G_check_lot := ok_check_lot (Pg := Pg) (w := w) (base := base) T
    have G_cut_to := ok_cut_to (Pg := Pg) (w := w) (base := base) T
    exact fn_ok [] [0, 0] [0, 0] 2 2 T.F_cut sc_cut (fun cdv Ar outer s H E hr =>
 (mss_cons (ms_expr (MO.me (mo_call (dd := []) (dvs := []) G_check_table (hr.mono (by decide)) T.g_check_table T.F_check_table.kp T.b_check_table .nil (fun _ => rfl) (takes_of rfl rfl rfl rfl) (mai_cons (me_var 0) mai_nil))))
 (mss_cons (ms_expr (MO.me (mo_call (dd := []) (dvs := []) G_check_lot (hr.mono (by decide)) T.g_check_lot T.F_check_lot.kp T.b_check_lot .nil (fun _ => rfl) (takes_of rfl rfl rfl rfl) (mai_cons (me_cB cLen (mab_cons (me_var 0) mab_nil) T.n_len) (mai_cons (me_var 1) mai_nil)))))
 (mss_cons (ms_if (mt_cmp (oEq hr.units) (me_cB cLen (mab_cons (me_var 1) mab_nil) T.n_len) me_int)
 (mss_one ms_bad)
 mss_nil)
 (mss_one (ms_retO rfl (mo_call (dd := []) (dvs := []) G_cut_to (hr.mono (by decide)) T.g_cut_to T.F_cut_to.kp T.b_cut_to .nil (fun _ => rfl) (takes_of rfl rfl rfl rfl) (mai_cons (me_var 0) (mai_cons (me_var 1) mai_nil)))))))))
def b_beside : MSt :=
 (sSeq (sDrop (mCall m_check_table [none] [] (mCons (mVar 0) mNil)))
 (sSeq (sDrop (mCall m_check_pair [none, none, none] [] (mCons (mf fLen (mCons (mVar 0) mNil)) (mCons (mVar 1) (mCons (mVar 2) mNil)))))
 (sSeq (sSet 3 (m2 D.isin (mVar 2) (mCall m_come_to [none, none] [] (mCons (mVar 0) (mCons (mVar 1) mNil)))))
 (sSeq (sSet 4 (m2 D.isin (mVar 1) (mCall m_come_to [none, none] [] (mCons (mVar 0) (mCons (mVar 2) mNil)))))
 (sSeq (sIf (mAnd (mB (mVar 3)) (mB (mVar 4)))
 (sRet (mC (.str (PySem.Str.ofString "same"))))
 sNx)
 (sSeq (sIf (mB (mVar 3))
 (sRet (mC (.str (PySem.Str.ofString "above"))))
 sNx)
 (sRet (mIf (mB (mVar 4)) (mC (.str (PySem.Str.ofString "below"))) (mC (.str (PySem.Str.ofString "apart")))))))))))
def m_beside : Fn := mFn 0 5 3 b_beside
theorem ok_beside (T : GF K mg A) : FnG Pg w K mg base (L2.CX Pg w) 7 A.a_beside A.d_beside ["table", "player", "other_player"] (spM K [] [0, 0, 0, 0, 0] 0 3 m_beside) := by
    have G_check_table := ok_check_table (Pg := Pg) (w := w) (base := base) T
    have G_check_pair := ok_check_pair (Pg := Pg) (w := w) (base := base) T
    have G_come_to := ok_come_to (Pg := Pg) (w := w) (base := base) T
    exact fn_ok [] [0, 0, 0, 0, 0] [0, 0, 0, 0, 0] 0 3 T.F_beside sc_beside (fun cdv Ar outer s H E hr =>
 (mss_cons (ms_expr (MO.me (mo_call (dd := []) (dvs := []) G_check_table (hr.mono (by decide)) T.g_check_table T.F_check_table.kp T.b_check_table .nil (fun _ => rfl) (takes_of rfl rfl rfl rfl) (mai_cons (me_var 0) mai_nil))))
 (mss_cons (ms_expr (MO.me (mo_call (dd := []) (dvs := []) G_check_pair (hr.mono (by decide)) T.g_check_pair T.F_check_pair.kp T.b_check_pair .nil (fun _ => rfl) (takes_of rfl rfl rfl rfl) (mai_cons (me_cB cLen (mab_cons (me_var 0) mab_nil) T.n_len) (mai_cons (me_var 1) (mai_cons (me_var 2) mai_nil))))))
 (mss_cons (ms_set 3 sc_beside.nd (me_cmp (oIn hr.units5) (me_var 2) (MO.me (mo_call (dd := []) (dvs := []) G_come_to (hr.mono (by decide)) T.g_come_to T.F_come_to.kp T.b_come_to .nil (fun _ => rfl) (takes_of rfl rfl rfl rfl) (mai_cons (me_var 0) (mai_cons (me_var 1) mai_nil))))))
 (mss_cons (ms_set 4 sc_beside.nd (me_cmp (oIn hr.units5) (me_var 1) (MO.me (mo_call (dd := []) (dvs := []) G_come_to (hr.mono (by decide)) T.g_come_to T.F_come_to.kp T.b_come_to .nil (fun _ => rfl) (takes_of rfl rfl rfl rfl) (mai_cons (me_var 0) (mai_cons (me_var 2) mai_nil))))))
 (mss_cons (ms_if (MW.mt (mw_and (mt_val (me_var 3)) (mw_and1 (mt_val (me_var 4)))))
 (mss_one (ms_ret rfl me_str))
 mss_nil)
 (mss_cons (ms_if (mt_val (me_var 3))
 (mss_one (ms_ret rfl me_str))
 mss_nil)
 (mss_one (ms_ret rfl (me_if (mt_val (me_var 4)) me_str me_str))))))))))
def b_law_hash : MSt :=
 (sSeq (sSet 2 (m2 D.fmod (mf fInt (mCons (m2 D.add (m2 D.add (m2 D.add (m2 D.mul (mVar 0) (mC (.int 1140671))) (m2 D.mul (m2 D.mul (mC (.int 27644437)) (mVar 1)) (mVar 1))) (m2 D.mul (mC (.int 131)) (mVar 1))) (mC (.int 19))) mNil)) (mC (.int 2147483629))))
 (sSeq (sSet 2 (m2 D.fmod (mf fInt (mCons (m2 D.add (m2 D.add (m2 D.mul (mVar 2) (mVar 2)) (m2 D.mul (mC (.int 62089)) (mVar 1))) (mC (.int 32416187))) mNil)) (mC (.int 2147483587))))
 (sRet (m2 D.fmod (mf fInt (mCons (m2 D.mul (mVar 2) (mC (.int 48271))) mNil)) (mC (.int 2147483647))))))
def m_law_hash : Fn := mFn 0 3 2 b_law_hash
theorem ok_law_hash (T : GF K mg A) : FnG Pg w K mg base (L2.CX Pg w) 1 A.a_law_hash A.d_law_hash ["seed", "index"] (spM K [] [0, 0, 0] 0 2 m_law_hash) := by
    exact fn_ok [] [0, 0, 0] [0, 0, 0] 0 2 T.F_law_hash sc_law_hash (fun cdv Ar outer s H E hr =>
 (mss_cons (ms_set 2 sc_law_hash.nd (me_bin oFmod (me_cT cInt (mab_cons (me_binG oAdd (me_binG oAdd (me_binG oAdd (me_binG oMul (me_var 0) me_int) (me_binG oMul (me_binG oMul me_int (me_var 1)) (me_var 1))) (me_binG oMul me_int (me_var 1))) me_int) mab_nil) T.n_int) me_int))
 (mss_cons (ms_set 2 sc_law_hash.nd (me_bin oFmod (me_cT cInt (mab_cons (me_binG oAdd (me_binG oAdd (me_binG oMul (me_var 2) (me_var 2)) (me_binG oMul me_int (me_var 1))) me_int) mab_nil) T.n_int) me_int))
 (mss_one (ms_ret rfl (me_bin oFmod (me_cT cInt (mab_cons (me_binG oMul (me_var 2) me_int) mab_nil) T.n_int) me_int))))))
def b_law_random : MSt :=
 (sSeq (sIf (mB (m2 D.gt (m2 D.ix (mVar 0) (mC (.int 0))) (mC (.int 0))))
 (sSeq (sSet 2 (m2 D.fmod (mf fInt (mCons (m2 D.ix (mVar 0) (mC (.int 0))) mNil)) (mVar 1)))
 (sSeq (sSub 0 (mC (.int 0)) (m2 D.fdiv (m2 D.ix (mVar 0) (mC (.int 0))) (mVar 1)))
 (sRet (mVar 2))))
 sNx)
 (sSeq (sSet 2 (mC (.int 0)))
 (sSeq (sFor (gN 3) (iR1 (mCons (m2 D.add (mC (.int 1)) (m2 D.fdiv (m1 fBits (mVar 1)) (mC (.int 30)))) mNil))
 (sSeq (sSub 0 (mC (.int 2)) (m2 D.add (m2 D.ix (mVar 0) (mC (.int 2))) (mC (.int 1))))
 (sSet 2 (m2 D.add (m2 D.mul (mVar 2) (mC (.int 2147483587))) (mCall m_law_hash [none, none] [] (mCons (m2 D.ix (mVar 0) (mC (.int 1))) (mCons (m2 D.ix (mVar 0) (mC (.int 2))) mNil)))))))
 (sRet (m2 D.fmod (mf fInt (mCons (mVar 2) mNil)) (mVar 1))))))
def m_law_random : Fn := mFn 0 4 2 b_law_random
theorem ok_law_random (T : GF K mg A) : FnG Pg w K mg base (L2.CX Pg w) 2 A.a_law_random A.d_law_random ["generator", "bound"] (spM K [0] [1, 0, 0, 0] 0 2 m_law_random) := by
    have G_law_hash := ok_law_hash (Pg := Pg) (w := w) (base := base) T
    exact fn_ok [0] [1, 0, 0, 0] [1, 0, 0, 0] 0 2 T.F_law_random sc_law_random (fun cdv Ar outer s H E hr =>
 (mss_cons (ms_if (mt_cmp oGt (me_ix (me_var 0) me_int) me_int)
 (mss_cons (ms_set 2 sc_law_random.nd (me_bin oFmod (me_cT cInt (mab_cons (me_ix (me_var 0) me_int) mab_nil) T.n_int) (me_var 1)))
 (mss_cons (ms_sub 0 (me_bin oFdiv (me_ix (me_var 0) me_int) (me_var 1)) me_int)
 (mss_one (ms_ret rfl (me_var 2)))))
 mss_nil)
 (mss_cons (ms_set 2 sc_law_random.nd me_int)
 (mss_cons (ms_for (passes_of rfl) rfl (mi_r1 (ma_cons (me_binG oAdd me_int (me_bin oFdiv (me_bits (me_var 1)) me_int)) ma_nil) T.n_range) (mg_name 3 sc_law_random.nd)
 (mss_cons (ms_sub 0 (me_binG oAdd (me_ix (me_var 0) me_int) me_int) me_int)
 (mss_one (ms_set 2 sc_law_random.nd (me_binG oAdd (me_binG oMul (me_var 2) me_int) (MO.me (mo_call (dd := []) (dvs := []) G_law_hash (hr.mono (by decide)) T.g_law_hash T.F_law_hash.kp T.b_law_hash .nil (fun _ => rfl) (takes_of rfl rfl rfl rfl) (mai_cons (me_ix (me_var 0) me_int) (mai_cons (me_ix (me_var 0) me_int) mai_nil)))))))))
 (mss_one (ms_ret rfl (me_bin oFmod (me_cT cInt (mab_cons (me_var 2) mab_nil) T.n_int) (me_var 1))))))))
def b_law_cell : MSt :=
 (sSeq (sIf (mB (m2 D.lt (mVar 1) (mf fLen (mCons (mVar 0) mNil))))
 (sRet (m2 D.ix (mVar 0) (mVar 1)))
 sNx)
 (sRet (m2 D.fmod (mf fSumF (mCons (mSl (mVar 0) mPn (mPs (mC (.int 1)))) mNil)) (mC (.int 1000003)))))
def m_law_cell : Fn := mFn 0 2 2 b_law_cell
theorem ok_law_cell (T : GF K mg A) : FnG Pg w K mg base (L2.CX Pg w) 1 A.a_law_cell A.d_law_cell ["script", "index"] (spM K [] [0, 0] 0 2 m_law_cell) := by
    exact fn_ok [] [0, 0] [0, 0] 0 2 T.F_law_cell sc_law_cell (fun cdv Ar outer s H E hr =>
 (mss_cons (ms_if (mt_cmp oLt (me_var 1) (me_cB cLen (mab_cons (me_var 0) mab_nil) T.n_len))
 (mss_one (ms_ret rfl (me_ix (me_var 0) (me_var 1))))
 mss_nil)
 (mss_one (ms_ret rfl (me_bin oFmod (me_cB (cSum rfl) (mab_cons (me_sl (me_var 0) mpt_none (mpt_some me_int)) mab_nil) T.n_sum) me_int)))))
def b_law_generator : MSt :=
 (sSeq (sSet 2 (mCall m_law_cell [none, none] [] (mCons (mVar 0) (mCons (mVar 1) mNil))))
 (sRet (mf mkLst (mCons (m2 D.fmod (mf fInt (mCons (mf fMax2 (mCons (m2 D.sub (mVar 2) (m2 D.pow (mC (.int 10)) (mC (.int 18)))) (mCons (mC (.int 0)) mNil))) mNil)) (m2 D.pow (m2 D.pow (mC (.int 10)) (mC (.int 60))) (mC (.int 10)))) (mCons (m2 D.fmod (mf fInt (mCons (mVar 2) mNil)) (mC (.int 2147483647))) (mCons (m2 D.mul (mC (.int 1000)) (mVar 1)) mNil))))))
def m_law_generator : Fn := mFn 1 3 2 b_law_generator
theorem ok_law_generator (T : GF K mg A) : FnG Pg w K mg base (L2.CX Pg w) 2 A.a_law_generator A.d_law_generator ["script", "index"] (spM K [] [0, 0, 0] 1 2 m_law_generator) := by
    have G_law_cell := ok_law_cell (Pg := Pg) (w := w) (base := base) T
    exact fn_ok [] [0, 0, 0] [0, 0, 0] 1 2 T.F_law_generator sc_law_generator (fun cdv Ar outer s H E hr =>
 (mss_cons (ms_set 2 sc_law_generator.nd (MO.me (mo_call (dd := []) (dvs := []) G_law_cell (hr.mono (by decide)) T.g_law_cell T.F_law_cell.kp T.b_law_cell .nil (fun _ => rfl) (takes_of rfl rfl rfl rfl) (mai_cons (me_var 0) (mai_cons (me_var 1) mai_nil)))))
 (mss_one (ms_retO rfl (mo_lst (ma_cons (me_bin oFmod (me_cT cInt (mab_cons (me_cB (cMax2 rfl) (mab_cons (me_bin oSub (me_var 2) (me_bin oPow me_int me_int)) (mab_cons me_int mab_nil)) T.n_max) mab_nil) T.n_int) (me_bin oPow (me_bin oPow me_int me_int) me_int)) (ma_cons (me_bin oFmod (me_cT cInt (mab_cons (me_var 2) mab_nil) T.n_int) me_int) (ma_cons (me_binG oMul me_int (me_var 1)) ma_nil))))))))
def b_law_pick : MSt :=
 (sRet (m2 D.ix (mVar 1) (mCall m_law_random [some 0, none] [] (mCons (mHole 0) (mCons (mf fLen (mCons (mVar 1) mNil)) mNil)))))
def m_law_pick : Fn := mFn 0 2 2 b_law_pick
theorem ok_law_pick (T : GF K mg A) : FnG Pg w K mg base (L2.CX Pg w) 3 A.a_law_pick A.d_law_pick ["generator", "things"] (spM K [0] [1, 0] 0 2 m_law_pick) := by
    have G_law_random := ok_law_random (Pg := Pg) (w := w) (base := base) T
    exact fn_ok [0] [1, 0] [1, 0] 0 2 T.F_law_pick sc_law_pick (fun cdv Ar outer s H E hr =>
 (mss_one (ms_ret rfl (me_ix (me_var 1) (MO.me (mo_call (dd := []) (dvs := []) G_law_random (hr.mono (by decide)) T.g_law_random T.F_law_random.kp T.b_law_random .nil (fun _ => rfl) (takes_of rfl rfl rfl rfl) (mai_io 0 (mai_cons (me_cB cLen (mab_cons (me_var 1) mab_nil) T.n_len) mai_nil))))))))
def b_law_same (self : Fn) : MSt :=
 (sSeq (sIf (mOr (mB (m2 (D.is false) (mVar 1) (mC .non))) (mOr (mB (m2 (D.is false) (mVar 1) (mC (.bl true)))) (mB (m2 (D.is false) (mVar 1) (mC (.bl false))))))
 (sRet (mIf (mB (m2 (D.is false) (mVar 1) (mC .non))) (m2 (D.is false) (mVar 0) (mC .non)) (mIf (mB (m2 (D.is false) (mVar 1) (mC (.bl true)))) (m2 (D.is false) (mVar 0) (mC (.bl true))) (m2 (D.is false) (mVar 0) (mC (.bl false))))))
 sNx)
 (sSeq (sIf (mB (mf fIsi (mCons (mVar 1) (mCons (mf mkTup (mCons (mC (.val (.ty "list"))) (mCons (mC (.val (.ty "tuple"))) mNil))) mNil))))
 (sSeq (sIf (mOr (mAnd (mNot (mB (mf fIsi (mCons (mVar 0) (mCons (mC (.val (.ty "list"))) mNil))))) (mB (mf fIsi (mCons (mVar 1) (mCons (mC (.val (.ty "list"))) mNil))))) (mAnd (mNot (mB (mf fIsi (mCons (mVar 0) (mCons (mC (.val (.ty "tuple"))) mNil))))) (mB (mf fIsi (mCons (mVar 1) (mCons (mC (.val (.ty "tuple"))) mNil))))))
 (sRet (mC (.bl false)))
 sNx)
 (sRet (mAnd (m2 D.eq (mf fLen (mCons (mVar 0) mNil)) (mf fLen (mCons (mVar 1) mNil))) (m2 D.eq (mLc [2] (gN 2) (mNot (mB (mCall self [none, none] [] (mCons (m2 D.ix (mVar 0) (mVar 2)) (mCons (m2 D.ix (mVar 1) (mVar 2)) mNil))))) (mVar 2) (iR1 (mCons (mf fLen (mCons (mVar 1) mNil)) mNil))) (mf mkLst mNil)))))
 sNx)
 (sSeq (sIf (mB (mf fIsi (mCons (mVar 1) (mCons (mC (.val (.ty "int"))) mNil))))
 (sRet (mAnd (mf fIsi (mCons (mVar 0) (mCons (mC (.val (.ty "int"))) mNil))) (mAnd (mNot (mf fIsi (mCons (mVar 0) (mCons (mC (.val (.ty "bool"))) mNil)))) (m2 D.eq (mVar 0) (mVar 1)))))
 sNx)
 (sRet (mAnd (mf fIsi (mCons (mVar 0) (mCons (mC (.val (.ty "str"))) mNil))) (m2 D.eq (mVar 0) (mVar 1)))))))
def r_law_same : Nat → Fn
 | 0 => fun _ => .bad
 | n + 1 => mFn 0 3 2 (b_law_same (r_law_same n))
@[irreducible] def m_law_same (n : Nat) : Fn := r_law_same n
theorem z_law_same : m_law_same 0 = fun _ => .bad := by unfold m_law_same; rfl
theorem e_law_same (n : Nat) : m_law_same (n + 1) = mFn 0 3 2 (b_law_same (m_law_same n)) := by unfold m_law_same; rfl
theorem ok_law_same (T : GF K mg A) : ∀ n : Nat, FnG Pg w K mg base (L2.CX Pg w) (0 + n) A.a_law_same A.d_law_same ["told", "due"] (spM K [] [0, 0, 0] 0 2 (m_law_same n))
  | 0 => by
    rw [z_law_same]
    exact fn_bad
  | n + 1 => by
    have ih := ok_law_same T n
    rw [e_law_same]
    exact fn_ok [] [0, 0, 0] [0, 0, 0] 0 2 T.F_law_same sc_law_same (fun cdv Ar outer s H E hr =>
 (mss_cons (ms_if (MW.mt (mw_or (mt_cmp oIs (me_var 1) me_non) (mw_or (mt_cmp oIs (me_var 1) me_bl) (mw_or1 (mt_cmp oIs (me_var 1) me_bl)))))
 (mss_one (ms_ret rfl (me_if (mt_cmp oIs (me_var 1) me_non) (me_cmp oIs (me_var 0) me_non) (me_if (mt_cmp oIs (me_var 1) me_bl) (me_cmp oIs (me_var 0) me_bl) (me_cmp oIs (me_var 0) me_bl)))))
 mss_nil)
 (mss_cons (ms_if (mt_val (me_cB cIsi (mab_cons (me_var 1) (mab_cons (me_tup (ma_cons (me_ty (T := "list") T.n_list) (ma_cons (me_ty (T := "tuple") T.n_tuple) ma_nil))) mab_nil)) T.n_isinstance))
 (mss_cons (ms_if (MW.mt (mw_or (MW.mt (mw_and (mt_not (mt_val (me_cB cIsi (mab_cons (me_var 0) (mab_cons (me_ty (T := "list") T.n_list) mab_nil)) T.n_isinstance))) (mw_and1 (mt_val (me_cB cIsi (mab_cons (me_var 1) (mab_cons (me_ty (T := "list") T.n_list) mab_nil)) T.n_isinstance))))) (mw_or1 (MW.mt (mw_and (mt_not (mt_val (me_cB cIsi (mab_cons (me_var 0) (mab_cons (me_ty (T := "tuple") T.n_tuple) mab_nil)) T.n_isinstance))) (mw_and1 (mt_val (me_cB cIsi (mab_cons (me_var 1) (mab_cons (me_ty (T := "tuple") T.n_tuple) mab_nil)) T.n_isinstance))))))))
 (mss_one (ms_ret rfl me_bl))
 mss_nil)
 (mss_one (ms_ret rfl (me_and (me_cmp (oEq hr.units) (me_cB cLen (mab_cons (me_var 0) mab_nil) T.n_len) (me_cB cLen (mab_cons (me_var 1) mab_nil) T.n_len)) (me_one (me_cmp (oEq hr.units) (MO.me (mo_lc (own := [("at", 2)]) (vs := [2]) rfl sc_law_same.nd (blkOk_by (N := N_law_same) (sc := defScope s_law_same) (by decide +kernel)) (mi_r1 (ma_cons (me_cB cLen (mab_cons (me_var 1) mab_nil) T.n_len) ma_nil) T.n_range) (fun _ _ _ _ _ => (mg_name 2 sc_law_same.nd)) (fun _ _ _ _ _ => (mts_one (mt_not (mt_val (MO.me (mo_call (dd := []) (dvs := []) ih hr T.g_law_same T.F_law_same.kp T.b_law_same .nil (fun _ => rfl) takes0 (mai_cons (me_ix (me_var 0) (me_var 2)) (mai_cons (me_ix (me_var 1) (me_var 2)) mai_nil)))))))) (fun _ _ _ _ _ => (ME.mo (me_var 2))))) (me_lst ma_nil)))))))
 mss_nil)
 (mss_cons (ms_if (mt_val (me_cB cIsi (mab_cons (me_var 1) (mab_cons (me_ty (T := "int") T.n_int) mab_nil)) T.n_isinstance))
 (mss_one (ms_ret rfl (me_and (me_cB cIsi (mab_cons (me_var 0) (mab_cons (me_ty (T := "int") T.n_int) mab_nil)) T.n_isinstance) (me_and (me_not (me_cB cIsi (mab_cons (me_var 0) (mab_cons (me_ty (T := "bool") T.n_bool) mab_nil)) T.n_isinstance)) (me_one (me_cmp (oEq hr.units) (me_var 0) (me_var 1)))))))
 mss_nil)
 (mss_one (ms_ret rfl (me_and (me_cB cIsi (mab_cons (me_var 0) (mab_cons (me_ty (T := "str") T.n_str) mab_nil)) T.n_isinstance) (me_one (me_cmp (oEq hr.units) (me_var 0) (me_var 1))))))))))
def b_law_comes : MSt :=
 (sSeq (sSet 2 (mf mkLst (mCons (mVar 1) mNil)))
 (sSeq (sFor (gN 3) (iR1 (mCons (mf fLen (mCons (mVar 0) mNil)) mNil))
 (sSet 2 (mLc [4] (gN 4) (mOr (mB (m2 D.isin (mVar 4) (mVar 2))) (mB (m2 D.ne (mLc [5] (gN 5) (mB (m2 D.gt (m2 D.ix (m2 D.ix (mVar 0) (mVar 5)) (mVar 4)) (mC (.int 0)))) (mVar 5) (iSrc (mVar 2))) (mf mkLst mNil)))) (mVar 4) (iR1 (mCons (mf fLen (mCons (mVar 0) mNil)) mNil)))))
 (sRet (mVar 2))))
def m_law_comes : Fn := mFn 0 6 2 b_law_comes
theorem ok_law_comes (T : GF K mg A) : FnG Pg w K mg base (L2.CX Pg w) 1 A.a_law_comes A.d_law_comes ["table", "player"] (spM K [] [0, 0, 0, 0, 0, 0] 0 2 m_law_comes) := by
    exact fn_ok [] [0, 0, 0, 0, 0, 0] [0, 0, 0, 0, 0, 0] 0 2 T.F_law_comes sc_law_comes (fun cdv Ar outer s H E hr =>
 (mss_cons (ms_set 2 sc_law_comes.nd (me_lst (ma_cons (me_var 1) ma_nil)))
 (mss_cons (ms_for (passes_of rfl) rfl (mi_r1 (ma_cons (me_cB cLen (mab_cons (me_var 0) mab_nil) T.n_len) ma_nil) T.n_range) (mg_name 3 sc_law_comes.nd)
 (mss_one (ms_set 2 sc_law_comes.nd (MO.me (mo_lc (own := [("other", 4)]) (vs := [4]) rfl sc_law_comes.nd (blkOk_by (N := N_law_comes) (sc := defScope s_law_comes) (by decide +kernel)) (mi_r1 (ma_cons (me_cB cLen (mab_cons (me_var 0) mab_nil) T.n_len) ma_nil) T.n_range) (fun _ _ _ _ _ => (mg_name 4 sc_law_comes.nd)) (fun _ _ _ _ _ => (mts_one (MW.mt (mw_or (mt_cmp (oIn hr.units5) (me_var 4) (me_var 2)) (mw_or1 (mt_cmp (oNe hr.units) (MO.me (mo_lc (own := [("here", 5)]) (vs := [5]) rfl sc_law_comes.nd (blkOk_by (N := N_law_comes) (by kernel_rfl)) (mi_seq (me_var 2)) (fun _ _ _ _ _ => (mg_name 5 sc_law_comes.nd)) (fun _ _ _ _ _ => (mts_one (mt_cmp oGt (me_ix (me_ix (me_var 0) (me_var 5)) (me_var 4)) me_int))) (fun _ _ _ _ _ => (ME.mo (me_var 5))))) (me_lst ma_nil))))))) (fun _ _ _ _ _ => (ME.mo (me_var 4))))))))
 (mss_one (ms_ret rfl (me_var 2))))))
def b_law_drawn_table : MSt :=
 (sSeq (sSet 4 (mf mkLst mNil))
 (sSeq (sFor (gN 5) (iR1 (mCons (mVar 1) mNil))
 (sSeq (sSet 6 (mLc [7] (gN 7) mYes (mIf (mB (m2 D.eq (mCall m_law_random [some 0, none] [] (mCons (mHole 0) (mCons (mVar 3) mNil))) (mC (.int 0)))) (mCall m_law_random [some 0, none] [] (mCons (mHole 0) (mCons (m2 D.add (mVar 2) (mC (.int 1))) mNil))) (mC (.int 0))) (iR1 (mCons (mVar 1) mNil))))
 (sSeq (sSub 6 (mVar 5) (mC (.int 0)))
 (sApp 4 (mVar 6)))))
 (sRet (mVar 4))))
def m_law_drawn_table : Fn := mFn 0 8 4 b_law_drawn_table
theorem ok_law_drawn_table (T : GF K mg A) : FnG Pg w K mg base (L2.CX Pg w) 3 A.a_law_drawn_table A.d_law_drawn_table ["generator", "size", "most", "spare"] (spM K [0] [1, 0, 0, 0, 0, 0, 0, 0] 0 4 m_law_drawn_table) := by
    have G_law_random := ok_law_random (Pg := Pg) (w := w) (base := base) T
    exact fn_ok [0] [1, 0, 0, 0, 0, 0, 0, 0] [1, 0, 0, 0, 0, 0, 0, 0] 0 4 T.F_law_drawn_table sc_law_drawn_table (fun cdv Ar outer s H E hr =>
 (mss_cons (ms_setO 4 sc_law_drawn_table.nd (mo_lst ma_nil))
 (mss_cons (ms_for (passes_of rfl) rfl (mi_r1 (ma_cons (me_var 1) ma_nil) T.n_range) (mg_name 5 sc_law_drawn_table.nd)
 (mss_cons (ms_lc (i := 6) (own := [("other", 7)]) (vs := [7]) rfl sc_law_drawn_table.nd (blkOk_by (N := N_law_drawn_table) (sc := defScope s_law_drawn_table) (by decide +kernel)) (mi_r1 (ma_cons (me_var 1) ma_nil) T.n_range) (fun _ _ _ _ _ => (mg_name 7 sc_law_drawn_table.nd)) (fun _ _ _ _ _ => mts_nil) (fun _ _ _ _ _ => (ME.mo (me_if (mt_cmp (oEq hr.units) (MO.me (mo_call (dd := []) (dvs := []) G_law_random (hr.mono (by decide)) T.g_law_random T.F_law_random.kp T.b_law_random .nil (fun _ => rfl) takes0 (mai_io 0 (mai_cons (me_var 3) mai_nil)))) me_int) (MO.me (mo_call (dd := []) (dvs := []) G_law_random (hr.mono (by decide)) T.g_law_random T.F_law_random.kp T.b_law_random .nil (fun _ => rfl) takes0 (mai_io 0 (mai_cons (me_binG oAdd (me_var 2) me_int) mai_nil)))) me_int))))
 (mss_cons (ms_sub 6 me_int (me_var 5))
 (mss_one (MS.frz (O := [1, 0, 0, 0, 1, 0, 1, 0]) 6 (ms_app 4 (me_var 6)))))))
 (mss_one (MS.frz (O := [1, 0, 0, 0, 1, 0, 0, 0]) 4 (ms_ret rfl (me_var 4)))))))
def b_law_word : MSt :=
 (sSeq (sPar 3 4 (mCons (m2 D.isin (mVar 2) (mCall m_law_comes [none, none] [] (mCons (mVar 0) (mCons (mVar 1) mNil)))) (mCons (m2 D.isin (mVar 1) (mCall m_law_comes [none, none] [] (mCons (mVar 0) (mCons (mVar 2) mNil)))) mNil)))
 (sSeq (sIf (mB (mVar 3))
 (sRet (mIf (mB (mVar 4)) (mC (.str (PySem.Str.ofString "same"))) (mC (.str (PySem.Str.ofString "above")))))
 sNx)
 (sRet (mIf (mB (mVar 4)) (mC (.str (PySem.Str.ofString "below"))) (mC (.str (PySem.Str.ofString "apart")))))))
def m_law_word : Fn := mFn 0 5 3 b_law_word
theorem ok_law_word (T : GF K mg A) : FnG Pg w K mg base (L2.CX Pg w) 2 A.a_law_word A.d_law_word ["table", "one", "other"] (spM K [] [0, 0, 0, 0, 0] 0 3 m_law_word) := by
    have G_law_comes := ok_law_comes (Pg := Pg) (w := w) (base := base) T
    exact fn_ok [] [0, 0, 0, 0, 0] [0, 0, 0, 0, 0] 0 3 T.F_law_word sc_law_word (fun cdv Ar outer s H E hr =>
 (mss_cons (ms_par 3 4 rfl sc_law_word.nd (ma_cons (me_cmp (oIn hr.units5) (me_var 2) (MO.me (mo_call (dd := []) (dvs := []) G_law_comes (hr.mono (by decide)) T.g_law_comes T.F_law_comes.kp T.b_law_comes .nil (fun _ => rfl) (takes_of rfl rfl rfl rfl) (mai_cons (me_var 0) (mai_cons (me_var 1) mai_nil))))) (ma_cons (me_cmp (oIn hr.units5) (me_var 1) (MO.me (mo_call (dd := []) (dvs := []) G_law_comes (hr.mono (by decide)) T.g_law_comes T.F_law_comes.kp T.b_law_comes .nil (fun _ => rfl) (takes_of rfl rfl rfl rfl) (mai_cons (me_var 0) (mai_cons (me_var 2) mai_nil))))) ma_nil)))
 (mss_cons (ms_if (mt_val (me_var 3))
 (mss_one (ms_ret rfl (me_if (mt_val (me_var 4)) me_str me_str)))
 mss_nil)
 (mss_one (ms_ret rfl (me_if (mt_val (me_var 4)) me_str me_str))))))
def b_law_case_right : MSt :=
 (sSeq (sSet 2 (mCall m_law_generator [none, none] [] (mCons (mVar 0) (mCons (mVar 1) mNil))))
 (sSeq (sSet 3 (m2 D.add (mC (.int 3)) (mCall m_law_random [some 2, none] [] (mCons (mHole 2) (mCons (m2 D.ix (mf mkLst (mCons (mC (.int 10)) (mCons (mC (.int 3)) mNil))) (mVar 1)) mNil)))))
 (sSeq (sSet 4 (mCall m_law_drawn_table [some 2, none, none, none] [] (mCons (mHole 2) (mCons (mVar 3) (mCons (mC (.int 9)) (mCons (mCall m_law_pick [some 2, none] [] (mCons (mHole 2) (mCons (mf mkLst (mCons (mC (.int 1)) (mCons (mC (.int 2)) (mCons (mC (.int 4)) (mCons (mC (.int 8)) mNil))))) mNil))) mNil))))))
 (sSeq (sSet 5 (mf fRepr (mCons (mVar 4) mNil)))
 (sSeq (sFor (gN 6) (iR1 (mCons (mVar 3) mNil))
 (sFor (gN 7) (iR1 (mCons (mVar 3) mNil))
 (sIf (mAnd (mB (m2 D.ne (mVar 6) (mVar 7))) (mNot (mB (mCall (m_law_same 40) [none, none] [] (mCons (mCall m_beside [none, none, none] [] (mCons (mVar 4) (mCons (mVar 6) (mCons (mVar 7) mNil)))) (mCons (mCall m_law_word [none, none, none] [] (mCons (mVar 4) (mCons (mVar 6) (mCons (mVar 7) mNil)))) mNil))))))
 (sRet (mC (.bl false)))
 sNx)))
 (sSeq (sIf (mNot (mB (mCall (m_law_same 40) [none, none] [] (mCons (mQt (mCall m_beside (ioN 3) [] (mPerm [2, 1, 0] (mCons (mC (.int 1)) (mCons (mC (.int 0)) (mCons (mVar 4) mNil)))))) (mCons (mCall m_law_word [none, none, none] [] (mCons (mVar 4) (mCons (mC (.int 0)) (mCons (mC (.int 1)) mNil)))) mNil)))))
 (sRet (mC (.bl false)))
 sNx)
 (sSeq (sFor (gN 8) (iR1 (mCons (mC (.int 4)) mNil))
 (sSeq (sSet 9 (mLc [10] (gN 10) (mB (m2 D.eq (mCall m_law_random [some 2, none] [] (mCons (mHole 2) (mCons (mC (.int 2)) mNil))) (mC (.int 0)))) (mVar 10) (iR1 (mCons (mVar 3) mNil))))
 (sIf (mB (m3 D.lt D.lt (mC (.int 1)) (mf fLen (mCons (mVar 9) mNil)) (mVar 3)))
 (sSeq (sSet 11 (mLc [6] (gN 6) mYes (mLc [7] (gN 7) mYes (m2 D.ix (m2 D.ix (mVar 4) (mVar 6)) (mVar 7)) (iSrc (mVar 9))) (iSrc (mVar 9))))
 (sSeq (sSet 12 (mCall m_cut [none, none] [] (mCons (mVar 4) (mCons (mVar 9) mNil))))
 (sSeq (sIf (mNot (mB (mFl (mFl (mCall (m_law_same 40) [none, none] [] (mCons (mVar 12) (mCons (mVar 11) mNil)))))))
 (sRet (mC (.bl false)))
 sNx)
 (sSeq (sApp2 12 (mC (.int 0)) (mC (.int 0)))
 (sIf (mNot (mB (mFl (mCall (m_law_same 40) [none, none] [] (mCons (mQt (mCall m_cut (ioN 2) [] (mPerm [1, 0] (mCons (mVar 9) (mCons (mVar 4) mNil))))) (mCons (mVar 11) mNil))))))
 (sRet (mC (.bl false)))
 sNx)))))
 sNx)))
 (sRet (m2 D.eq (mf fRepr (mCons (mVar 4) mNil)) (mVar 5))))))))))
def m_law_case_right : Fn := mFn 0 13 2 b_law_case_right
theorem ok_law_case_right (T : GF K mg A) : FnG Pg w K mg base (L2.CX Pg w) 41 A.a_law_case_right A.d_law_case_right ["script", "index"] (spM K [] [0, 0, 0, 0, 0, 0, 0, 0, 0, 0, 0, 0, 0] 0 2 m_law_case_right) := by
    have G_law_generator := ok_law_generator (Pg := Pg) (w := w) (base := base) T
    have G_law_drawn_table := ok_law_drawn_table (Pg := Pg) (w := w) (base := base) T
    have G_law_random := ok_law_random (Pg := Pg) (w := w) (base := base) T
    have G_law_pick := ok_law_pick (Pg := Pg) (w := w) (base := base) T
    have G_law_same := ok_law_same (Pg := Pg) (w := w) (base := base) T 40
    have G_beside := ok_beside (Pg := Pg) (w := w) (base := base) T
    have G_law_word := ok_law_word (Pg := Pg) (w := w) (base := base) T
    have G_cut := ok_cut (Pg := Pg) (w := w) (base := base) T
    exact fn_ok [] [0, 0, 0, 0, 0, 0, 0, 0, 0, 0, 0, 0, 0] [0, 0, 1, 0, 0, 0, 0, 0, 0, 0, 0, 0, 0] 0 2 T.F_law_case_right sc_law_case_right (fun cdv Ar outer s H E hr =>
 (mss_cons (ms_setO 2 sc_law_case_right.nd (mo_call (dd := []) (dvs := []) G_law_generator (hr.mono (by decide)) T.g_law_generator T.F_law_generator.kp T.b_law_generator .nil (fun _ => rfl) (takes_of rfl rfl rfl rfl) (mai_cons (me_var 0) (mai_cons (me_var 1) mai_nil))))
 (mss_cons (ms_set 3 sc_law_case_right.nd (me_binG oAdd me_int (MO.me (mo_call (dd := []) (dvs := []) G_law_random (hr.mono (by decide)) T.g_law_random T.F_law_random.kp T.b_law_random .nil (fun _ => rfl) (takes_of rfl rfl rfl rfl) (mai_io 2 (mai_cons (me_ix (me_lst (ma_cons me_int (ma_cons me_int ma_nil))) (me_var 1)) mai_nil))))))
 (mss_cons (ms_set 4 sc_law_case_right.nd (MO.me (mo_call (dd := []) (dvs := []) G_law_drawn_table (hr.mono (by decide)) T.g_law_drawn_table T.F_law_drawn_table.kp T.b_law_drawn_table .nil (fun _ => rfl) (takes_of rfl rfl rfl rfl) (mai_io 2 (mai_cons (me_var 3) (mai_cons me_int (mai_cons (MO.me (mo_call (dd := []) (dvs := []) G_law_pick (hr.mono (by decide)) T.g_law_pick T.F_law_pick.kp T.b_law_pick .nil (fun _ => rfl) (takes_of rfl rfl rfl rfl) (mai_io 2 (mai_cons (me_lst (ma_cons me_int (ma_cons me_int (ma_cons me_int (ma_cons me_int ma_nil))))) mai_nil)))) mai_nil)))))))
 (mss_cons (ms_set 5 sc_law_case_right.nd (me_cB (cRepr hr) (mab_cons (me_var 4) mab_nil) T.n_repr))
 (mss_cons (ms_for (passes_of rfl) rfl (mi_r1 (ma_cons (me_var 3) ma_nil) T.n_range) (mg_name 6 sc_law_case_right.nd)
 (mss_one (ms_for (passes_of rfl) rfl (mi_r1 (ma_cons (me_var 3) ma_nil) T.n_range) (mg_name 7 sc_law_case_right.nd)
 (mss_one (ms_if (MW.mt (mw_and (mt_cmp (oNe hr.units) (me_var 6) (me_var 7)) (mw_and1 (mt_not (mt_val (MO.me (mo_call (dd := []) (dvs := []) G_law_same (hr.mono (by decide)) T.g_law_same T.F_law_same.kp T.b_law_same .nil (fun _ => rfl) (takes_of rfl rfl rfl rfl) (mai_cons (MO.me (mo_call (dd := []) (dvs := []) G_beside (hr.mono (by decide)) T.g_beside T.F_beside.kp T.b_beside .nil (fun _ => rfl) (takes_of rfl rfl rfl rfl) (mai_cons (me_var 4) (mai_cons (me_var 6) (mai_cons (me_var 7) mai_nil))))) (mai_cons (MO.me (mo_call (dd := []) (dvs := []) G_law_word (hr.mono (by decide)) T.g_law_word T.F_law_word.kp T.b_law_word .nil (fun _ => rfl) (takes_of rfl rfl rfl rfl) (mai_cons (me_var 4) (mai_cons (me_var 6) (mai_cons (me_var 7) mai_nil))))) mai_nil)))))))))
 (mss_one (ms_ret rfl me_bl))
 mss_nil)))))
 (mss_cons (ms_if (mt_not (mt_val (MO.me (mo_call (dd := []) (dvs := []) G_law_same (hr.mono (by decide)) T.g_law_same T.F_law_same.kp T.b_law_same .nil (fun _ => rfl) (takes_of rfl rfl rfl rfl) (mai_cons (MO.me (mo_callK G_beside (hr.mono (by decide)) T.g_beside T.F_beside.kp (fun_kb T.F_beside (ps := ["table", "player", "other_player"]) (pm := [2, 1, 0]) (ks := ["other_player", "player", "table"]) (by decide) rfl fun _ _ _ _ _ _ ws hl => match ws, hl with | [_, _, _], _ => rfl) (mks_cons me_int (mks_cons me_int (mks_cons (me_var 4) mks_nil))))) (mai_cons (MO.me (mo_call (dd := []) (dvs := []) G_law_word (hr.mono (by decide)) T.g_law_word T.F_law_word.kp T.b_law_word .nil (fun _ => rfl) (takes_of rfl rfl rfl rfl) (mai_cons (me_var 4) (mai_cons me_int (mai_cons me_int mai_nil))))) mai_nil))))))
 (mss_one (ms_ret rfl me_bl))
 mss_nil)
 (mss_cons (ms_for (passes_of rfl) rfl (mi_r1 (ma_cons me_int ma_nil) T.n_range) (mg_name 8 sc_law_case_right.nd)
 (mss_cons (ms_set 9 sc_law_case_right.nd (MO.me (mo_lc (own := [("player", 10)]) (vs := [10]) rfl sc_law_case_right.nd (blkOk_by (N := N_law_case_right) (sc := defScope s_law_case_right) (by decide +kernel)) (mi_r1 (ma_cons (me_var 3) ma_nil) T.n_range) (fun _ _ _ _ _ => (mg_name 10 sc_law_case_right.nd)) (fun _ _ _ _ _ => (mts_one (mt_cmp (oEq hr.units) (MO.me (mo_call (dd := []) (dvs := []) G_law_random (hr.mono (by decide)) T.g_law_random T.F_law_random.kp T.b_law_random .nil (fun _ => rfl) takes0 (mai_io 2 (mai_cons me_int mai_nil)))) me_int))) (fun _ _ _ _ _ => (ME.mo (me_var 10))))))
 (mss_one (ms_if (mt_chain oLt oLt me_int (me_cB cLen (mab_cons (me_var 9) mab_nil) T.n_len) (me_var 3))
 (MSs.zap (O1 := [0, 0, 1, 0, 0, 0, 0, 0, 0, 0, 0, 0, 2]) 12 (MSs.zap (O1 := [0, 0, 1, 0, 0, 0, 0, 0, 0, 0, 0, 1, 2]) 11 (mss_cons (ms_lc (i := 11) (own := [("one", 6)]) (vs := [6]) rfl sc_law_case_right.nd (blkOk_by (N := N_law_case_right) (sc := defScope s_law_case_right) (by decide +kernel)) (mi_seq (me_var 9)) (fun _ _ _ _ _ => (mg_name 6 sc_law_case_right.nd)) (fun _ _ _ _ _ => mts_nil) (fun _ _ _ _ _ => (ME.mo (MO.me (mo_lc (own := [("other", 7)]) (vs := [7]) rfl sc_law_case_right.nd (blkOk_by (N := N_law_case_right) (by kernel_rfl)) (mi_seq (me_var 9)) (fun _ _ _ _ _ => (mg_name 7 sc_law_case_right.nd)) (fun _ _ _ _ _ => mts_nil) (fun _ _ _ _ _ => (ME.mo (me_ix (me_ix (me_var 4) (me_var 6)) (me_var 7)))))))))
 (mss_cons (ms_setO 12 sc_law_case_right.nd (mo_call (dd := []) (dvs := []) G_cut (hr.mono (by decide)) T.g_cut T.F_cut.kp T.b_cut .nil (fun _ => rfl) (takes_of rfl rfl rfl rfl) (mai_cons (me_var 4) (mai_cons (me_var 9) mai_nil))))
 (mss_cons (ms_if (mt_not (mt_val (me_lend 12 (me_lend 11 (MO.me (mo_call (dd := []) (dvs := []) G_law_same (hr.mono (by decide)) T.g_law_same T.F_law_same.kp T.b_law_same .nil (fun _ => rfl) (takes_of rfl rfl rfl rfl) (mai_cons (me_var 12) (mai_cons (me_var 11) mai_nil))))))))
 (mss_one (ms_ret rfl me_bl))
 mss_nil)
 (mss_cons (ms_app2 12 me_int me_int)
 (mss_one (ms_if (mt_not (mt_val (me_lend 11 (MO.me (mo_call (dd := []) (dvs := []) G_law_same (hr.mono (by decide)) T.g_law_same T.F_law_same.kp T.b_law_same .nil (fun _ => rfl) (takes_of rfl rfl rfl rfl) (mai_cons (MO.me (mo_callK G_cut (hr.mono (by decide)) T.g_cut T.F_cut.kp (fun_kb T.F_cut (ps := ["table", "lot"]) (pm := [1, 0]) (ks := ["lot", "table"]) (by decide) rfl fun _ _ _ _ _ _ ws hl => match ws, hl with | [_, _], _ => rfl) (mks_cons (me_var 9) (mks_cons (me_var 4) mks_nil)))) (mai_cons (me_var 11) mai_nil)))))))
 (mss_one (ms_ret rfl me_bl))
 mss_nil))))))))
 mss_nil))))
 (mss_one (ms_ret rfl (me_cmp (oEq hr.units) (me_cB (cRepr hr) (mab_cons (me_var 4) mab_nil) T.n_repr) (me_var 5))))))))))))
def b_law : MSt :=
 (sRet (mAnd (mCall m_law_case_right [none, none] [] (mCons (mVar 0) (mCons (mC (.int 0)) mNil))) (mCall m_law_case_right [none, none] [] (mCons (mVar 0) (mCons (mC (.int 1)) mNil)))))
def m_law : Fn := mFn 0 1 1 b_law
theorem ok_law (T : GF K mg A) : FnG Pg w K mg base (L2.CX Pg w) 42 A.a_law A.d_law ["script"] (spM K [] [0] 0 1 m_law) := by
    have G_law_case_right := ok_law_case_right (Pg := Pg) (w := w) (base := base) T
    exact fn_ok [] [0] [0] 0 1 T.F_law sc_law (fun cdv Ar outer s H E hr =>
 (mss_one (ms_ret rfl (me_and (MO.me (mo_call (dd := []) (dvs := []) G_law_case_right (hr.mono (by decide)) T.g_law_case_right T.F_law_case_right.kp T.b_law_case_right .nil (fun _ => rfl) (takes_of rfl rfl rfl rfl) (mai_cons (me_var 0) (mai_cons me_int mai_nil)))) (me_one (MO.me (mo_call (dd := []) (dvs := []) G_law_case_right (hr.mono (by decide)) T.g_law_case_right T.F_law_case_right.kp T.b_law_case_right .nil (fun _ => rfl) (takes_of rfl rfl rfl rfl) (mai_cons (me_var 0) (mai_cons me_int mai_nil)))))))))
end
end M3

/-! PA -/
set_option Elab.async false
set_option linter.all false
set_option maxRecDepth 100000
set_option maxHeartbeats 400000
namespace M3
open PySem PySem.Spec PyProof.Rows L2

/-! ### the drawing -/
theorem sp_hash {s i : Int} {Q : D → Sl → Prop} (hs : Bd 40 s) (hi : Bd 100 i) (q : ∀ r e, 0 ≤ r → r < 2147483647 → Q (.int r) e) : FP (m_law_hash [.int s, .int i]) Q := by
  unfold m_law_hash b_law_hash
  (try simp only [RP_varm, RP_holem, RP_c, RP_1, RP_2, RP_3, RP_f, RP_nil, RP_cons, RP_if, RP_and, RP_or, RP_not, RP_B, RP_qt, RP_perm, RP_pn, RP_ps, RP_sl, RP_call, RP_src2, SrcP_l, SrcP_t, SrcP_pl, SrcP_row, SrcP_tab, RP_r1, RP_r2, RP_en2, EnP_l, EnP_row, EnP_tab, LsP_l, LsP_pl, RP_lc, RP_yes, RP_pop, RP_lr, RP_fl, RP_dct1, RP_asL,  SP_nx, SP_seq, SP_drop, SP_ret, SP_set, SP_if, SP_sub, SP_sub2, SP_app, SP_app2, SP_tgt, SP_par, SP_parO, SP_str, SP_uT, SP_uN, SP_uC, SP_uS, SP_subK, SP_for, FP_fn, OP_gT, OP_gC, OP_gE, OP_some, OP_map, OP_add, OP_sub, OP_mul, OP_fdiv, OP_fmod, OP_pow, OP_neg, OP_lt, OP_le, OP_gt, OP_ge, OP_eqi, OP_nei, OP_bits, OP_int, OP_intb, OP_tup, OP_lst, OP_lenl, OP_lent, OP_lenf, OP_abs, OP_max2, OP_min2, OP_gcd, OP_ixl, OP_ixt, OP_ixf, OP_cat, OP_rep, OP_subb, OP_gN, OP_eqs, OP_eq00, OP_ne00, OP_dct1, OP_nepl, OP_eqpl, OP_isLp, OP_pop0, OP_apppl, OP_lenpl, OP_lentab, OP_inpl, OP_ninpl, OP_indk, OP_nindk, OP_setK, BQ_b, BP_t, BP_f, BP_d, BP_n, BP_eq, ↓reduceIte, Option.map_some, is_non_np, is_non_ng, is_non_tp, is_non_tg, is_non_fp, is_non_fg, is_bl_np, is_bl_ng, is_bl_tp, is_bl_tg, is_bl_fp, is_bl_fg, is_int_np, is_int_ng, is_int_tp, is_int_tg, is_int_fp, is_int_fg, is_str_np, is_str_ng, is_str_tp, is_str_tg, is_str_fp, is_str_fg, is_lst_np, is_lst_ng, is_lst_tp, is_lst_tg, is_lst_fp, is_lst_fg, is_tup_np, is_tup_ng, is_tup_tp, is_tup_tg, is_tup_fp, is_tup_fg, isi_non_int, isi_non_bool, isi_non_list, isi_non_tuple, isi_non_str, isi_non_dict, isi_non_lt, isi_bl_int, isi_bl_bool, isi_bl_list, isi_bl_tuple, isi_bl_str, isi_bl_dict, isi_bl_lt, isi_int_int, isi_int_bool, isi_int_list, isi_int_tuple, isi_int_str, isi_int_dict, isi_int_lt, isi_str_int, isi_str_bool, isi_str_list, isi_str_tuple, isi_str_str, isi_str_dict, isi_str_lt, isi_lst_int, isi_lst_bool, isi_lst_list, isi_lst_tuple, isi_lst_str, isi_lst_dict, isi_lst_lt, isi_tup_int, isi_tup_bool, isi_tup_list, isi_tup_tuple, isi_tup_str, isi_tup_dict, isi_tup_lt,  at0, at1, at2, at3, set0, set1, set2, setD_l, fillIO, putIO, ioN, permO, wpE_n, wpE_c, rst_n, rst_c, isFl, List.map_cons, List.map_nil, List.cons_append, List.nil_append, List.append_nil, List.replicate_succ, List.replicate_zero, Nat.reduceSub, Nat.reduceAdd, List.getElem?_cons_zero, List.getElem?_cons_succ, List.getD_cons_zero, List.getD_cons_succ, List.set_cons_zero, List.set_cons_succ, List.length_cons, List.length_nil, List.map_append])
  have b1 : ∀ x : Int, Bd 31 (x.fmod 2147483629) := fun x => Bd.fmod (by decide) (show (2147483629 : Int).natAbs < 2 ^ 31 by decide)
  have b2 : ∀ x : Int, Bd 31 (x.fmod 2147483587) := fun x => Bd.fmod (by decide) (show (2147483587 : Int).natAbs < 2 ^ 31 by decide)
  have e1 := b1 (s * 1140671 + 27644437 * i * i + 131 * i + 19)
  generalize (s * 1140671 + 27644437 * i * i + 131 * i + 19).fmod 2147483629 = m1 at *
  have e2 := b2 (m1 * m1 + 62089 * i + 32416187)
  generalize (m1 * m1 + 62089 * i + 32416187).fmod 2147483587 = m2 at *
  have e3 := fmod_rng (m2 * 48271) (y := 2147483647) (by decide)
  refine ⟨by ((refine And.intro ?_ ?_ <;> ((apply Bd.big; (case h => repeat' (with_reducible first | assumption | (apply Bd.add) | (apply Bd.sub) | (apply Bd.mul) | (apply Bd.neg) | (apply Bd.abs) | (apply Bd.fdiv) | exact Bd.self _)); all_goals decide +kernel)))), by ((refine And.intro ?_ ?_ <;> ((apply Bd.big; (case h => repeat' (with_reducible first | assumption | (apply Bd.add) | (apply Bd.sub) | (apply Bd.mul) | (apply Bd.neg) | (apply Bd.abs) | (apply Bd.fdiv) | exact Bd.self _)); all_goals decide +kernel)))), by ((refine And.intro ?_ ?_ <;> ((apply Bd.big; (case h => repeat' (with_reducible first | assumption | (apply Bd.add) | (apply Bd.sub) | (apply Bd.mul) | (apply Bd.neg) | (apply Bd.abs) | (apply Bd.fdiv) | exact Bd.self _)); all_goals decide +kernel)))), by ((refine And.intro ?_ ?_ <;> ((apply Bd.big; (case h => repeat' (with_reducible first | assumption | (apply Bd.add) | (apply Bd.sub) | (apply Bd.mul) | (apply Bd.neg) | (apply Bd.abs) | (apply Bd.fdiv) | exact Bd.self _)); all_goals decide +kernel)))), by decide, by ((refine And.intro ?_ ?_ <;> ((apply Bd.big; (case h => repeat' (with_reducible first | assumption | (apply Bd.add) | (apply Bd.sub) | (apply Bd.mul) | (apply Bd.neg) | (apply Bd.abs) | (apply Bd.fdiv) | exact Bd.self _)); all_goals decide +kernel)))), by ((refine And.intro ?_ ?_ <;> ((apply Bd.big; (case h => repeat' (with_reducible first | assumption | (apply Bd.add) | (apply Bd.sub) | (apply Bd.mul) | (apply Bd.neg) | (apply Bd.abs) | (apply Bd.fdiv) | exact Bd.self _)); all_goals decide +kernel)))), by decide, by ((refine And.intro ?_ ?_ <;> ((apply Bd.big; (case h => repeat' (with_reducible first | assumption | (apply Bd.add) | (apply Bd.sub) | (apply Bd.mul) | (apply Bd.neg) | (apply Bd.abs) | (apply Bd.fdiv) | exact Bd.self _)); all_goals decide +kernel)))), by decide, q _ _ e3.1 e3.2⟩
def GenOk (k : Nat) (g : D) : Prop := ∃ a b c : Int, g = .lst [.int a, .int b, .int c] ∧ 0 ≤ a ∧ Bd 4000 a ∧ 0 ≤ b ∧ b < 2147483647 ∧ 0 ≤ c ∧ c ≤ 1000000 + k * 1000
theorem sp_random {g : D} {k : Nat} {n : Int} {Q : D → Sl → Prop} (hg : GenOk k g) (hk : k ≤ 1000000000) (h0 : 0 < n) (hn : Bd 3000 n) (q : ∀ r g' e, 0 ≤ r → r < n → GenOk (k + 1) g' → e[0]? = some (some g') → Q (.int r) e) : FP (m_law_random [g, .int n]) Q := by
  obtain ⟨a, b, c, rfl, ha, hA, hb, hB, hc, hC⟩ := hg
  have hbits : (Builtin.Int.intBits n : Nat) ≤ 3000 := intBits_le_iff.mpr hn
  have hT : 0 ≤ (Int.fdiv ((Builtin.Int.intBits n : Nat) : Int) 30) ∧ (Int.fdiv ((Builtin.Int.intBits n : Nat) : Int) 30) ≤ 100 := by
    rw [Int.fdiv_eq_ediv_of_nonneg _ (by omega)]
    omega
  unfold m_law_random b_law_random
  (try simp only [RP_varm, RP_holem, RP_c, RP_1, RP_2, RP_3, RP_f, RP_nil, RP_cons, RP_if, RP_and, RP_or, RP_not, RP_B, RP_qt, RP_perm, RP_pn, RP_ps, RP_sl, RP_call, RP_src2, SrcP_l, SrcP_t, SrcP_pl, SrcP_row, SrcP_tab, RP_r1, RP_r2, RP_en2, EnP_l, EnP_row, EnP_tab, LsP_l, LsP_pl, RP_lc, RP_yes, RP_pop, RP_lr, RP_fl, RP_dct1, RP_asL,  SP_nx, SP_seq, SP_drop, SP_ret, SP_set, SP_if, SP_sub, SP_sub2, SP_app, SP_app2, SP_tgt, SP_par, SP_parO, SP_str, SP_uT, SP_uN, SP_uC, SP_uS, SP_subK, SP_for, FP_fn, OP_gT, OP_gC, OP_gE, OP_some, OP_map, OP_add, OP_sub, OP_mul, OP_fdiv, OP_fmod, OP_pow, OP_neg, OP_lt, OP_le, OP_gt, OP_ge, OP_eqi, OP_nei, OP_bits, OP_int, OP_intb, OP_tup, OP_lst, OP_lenl, OP_lent, OP_lenf, OP_abs, OP_max2, OP_min2, OP_gcd, OP_ixl, OP_ixt, OP_ixf, OP_cat, OP_rep, OP_subb, OP_gN, OP_eqs, OP_eq00, OP_ne00, OP_dct1, OP_nepl, OP_eqpl, OP_isLp, OP_pop0, OP_apppl, OP_lenpl, OP_lentab, OP_inpl, OP_ninpl, OP_indk, OP_nindk, OP_setK, BQ_b, BP_t, BP_f, BP_d, BP_n, BP_eq, ↓reduceIte, Option.map_some, is_non_np, is_non_ng, is_non_tp, is_non_tg, is_non_fp, is_non_fg, is_bl_np, is_bl_ng, is_bl_tp, is_bl_tg, is_bl_fp, is_bl_fg, is_int_np, is_int_ng, is_int_tp, is_int_tg, is_int_fp, is_int_fg, is_str_np, is_str_ng, is_str_tp, is_str_tg, is_str_fp, is_str_fg, is_lst_np, is_lst_ng, is_lst_tp, is_lst_tg, is_lst_fp, is_lst_fg, is_tup_np, is_tup_ng, is_tup_tp, is_tup_tg, is_tup_fp, is_tup_fg, isi_non_int, isi_non_bool, isi_non_list, isi_non_tuple, isi_non_str, isi_non_dict, isi_non_lt, isi_bl_int, isi_bl_bool, isi_bl_list, isi_bl_tuple, isi_bl_str, isi_bl_dict, isi_bl_lt, isi_int_int, isi_int_bool, isi_int_list, isi_int_tuple, isi_int_str, isi_int_dict, isi_int_lt, isi_str_int, isi_str_bool, isi_str_list, isi_str_tuple, isi_str_str, isi_str_dict, isi_str_lt, isi_lst_int, isi_lst_bool, isi_lst_list, isi_lst_tuple, isi_lst_str, isi_lst_dict, isi_lst_lt, isi_tup_int, isi_tup_bool, isi_tup_list, isi_tup_tuple, isi_tup_str, isi_tup_dict, isi_tup_lt,  at0, at1, at2, at3, set0, set1, set2, setD_l, fillIO, putIO, ioN, permO, wpE_n, wpE_c, rst_n, rst_c, isFl, List.map_cons, List.map_nil, List.cons_append, List.nil_append, List.append_nil, List.replicate_succ, List.replicate_zero, Nat.reduceSub, Nat.reduceAdd, List.getElem?_cons_zero, List.getElem?_cons_succ, List.getD_cons_zero, List.getD_cons_succ, List.set_cons_zero, List.set_cons_succ, List.length_cons, List.length_nil, List.map_append])
  revert hT
  generalize (Int.fdiv ((Builtin.Int.intBits n : Nat) : Int) 30) = t
  intro hT
  refine ⟨fun h => ⟨by omega, ⟨by omega, Bd.dv hn (by decide)⟩, ?_⟩, fun h => ?_⟩
  · have r := fmod_rng a h0
    refine q _ _ _ r.1 r.2 ⟨a.fdiv n, b, c, rfl, ?_, ?_, hb, hB, hc, by omega⟩ rfl
    · rw [Int.fdiv_eq_ediv_of_nonneg _ (by omega)]
      exact Int.ediv_nonneg ha (by omega)
    · rw [Int.fdiv_eq_ediv_of_nonneg _ (by omega)]
      have := Int.natAbs_ediv_le_natAbs a n
      unfold Bd at *
      omega
  · refine ⟨⟨by decide, by decide +kernel⟩, ⟨by omega, by omega⟩, SP_forI (fun i e => ∃ (dr c' : Int) (x3 : Option D), e = [some (.lst [.int a, .int b, .int c']), some (.int n), some (.int dr), x3] ∧ Bd (64 * i + 1) dr ∧ 0 ≤ c' ∧ c' ≤ c + i) ⟨0, c, none, rfl, by unfold Bd; decide, hc, by omega⟩ ?_ ?_⟩
    · intro i hi e ⟨dr, c', x3, he, hd, h1, h2⟩
      subst he
      have hi' : i < 101 := by
        have : (rngD 0 (1 + t).toNat).length = (1 + t).toNat := by simp [rngD]
        omega
      (try simp only [RP_varm, RP_holem, RP_c, RP_1, RP_2, RP_3, RP_f, RP_nil, RP_cons, RP_if, RP_and, RP_or, RP_not, RP_B, RP_qt, RP_perm, RP_pn, RP_ps, RP_sl, RP_call, RP_src2, SrcP_l, SrcP_t, SrcP_pl, SrcP_row, SrcP_tab, RP_r1, RP_r2, RP_en2, EnP_l, EnP_row, EnP_tab, LsP_l, LsP_pl, RP_lc, RP_yes, RP_pop, RP_lr, RP_fl, RP_dct1, RP_asL,  SP_nx, SP_seq, SP_drop, SP_ret, SP_set, SP_if, SP_sub, SP_sub2, SP_app, SP_app2, SP_tgt, SP_par, SP_parO, SP_str, SP_uT, SP_uN, SP_uC, SP_uS, SP_subK, SP_for, FP_fn, OP_gT, OP_gC, OP_gE, OP_some, OP_map, OP_add, OP_sub, OP_mul, OP_fdiv, OP_fmod, OP_pow, OP_neg, OP_lt, OP_le, OP_gt, OP_ge, OP_eqi, OP_nei, OP_bits, OP_int, OP_intb, OP_tup, OP_lst, OP_lenl, OP_lent, OP_lenf, OP_abs, OP_max2, OP_min2, OP_gcd, OP_ixl, OP_ixt, OP_ixf, OP_cat, OP_rep, OP_subb, OP_gN, OP_eqs, OP_eq00, OP_ne00, OP_dct1, OP_nepl, OP_eqpl, OP_isLp, OP_pop0, OP_apppl, OP_lenpl, OP_lentab, OP_inpl, OP_ninpl, OP_indk, OP_nindk, OP_setK, BQ_b, BP_t, BP_f, BP_d, BP_n, BP_eq, ↓reduceIte, Option.map_some, is_non_np, is_non_ng, is_non_tp, is_non_tg, is_non_fp, is_non_fg, is_bl_np, is_bl_ng, is_bl_tp, is_bl_tg, is_bl_fp, is_bl_fg, is_int_np, is_int_ng, is_int_tp, is_int_tg, is_int_fp, is_int_fg, is_str_np, is_str_ng, is_str_tp, is_str_tg, is_str_fp, is_str_fg, is_lst_np, is_lst_ng, is_lst_tp, is_lst_tg, is_lst_fp, is_lst_fg, is_tup_np, is_tup_ng, is_tup_tp, is_tup_tg, is_tup_fp, is_tup_fg, isi_non_int, isi_non_bool, isi_non_list, isi_non_tuple, isi_non_str, isi_non_dict, isi_non_lt, isi_bl_int, isi_bl_bool, isi_bl_list, isi_bl_tuple, isi_bl_str, isi_bl_dict, isi_bl_lt, isi_int_int, isi_int_bool, isi_int_list, isi_int_tuple, isi_int_str, isi_int_dict, isi_int_lt, isi_str_int, isi_str_bool, isi_str_list, isi_str_tuple, isi_str_str, isi_str_dict, isi_str_lt, isi_lst_int, isi_lst_bool, isi_lst_list, isi_lst_tuple, isi_lst_str, isi_lst_dict, isi_lst_lt, isi_tup_int, isi_tup_bool, isi_tup_list, isi_tup_tuple, isi_tup_str, isi_tup_dict, isi_tup_lt,  at0, at1, at2, at3, set0, set1, set2, setD_l, fillIO, putIO, ioN, permO, wpE_n, wpE_c, rst_n, rst_c, isFl, List.map_cons, List.map_nil, List.cons_append, List.nil_append, List.append_nil, List.replicate_succ, List.replicate_zero, Nat.reduceSub, Nat.reduceAdd, List.getElem?_cons_zero, List.getElem?_cons_succ, List.getD_cons_zero, List.getD_cons_succ, List.set_cons_zero, List.set_cons_succ, List.length_cons, List.length_nil, List.map_append])
      have hc1 : Bd 100 (c' + 1) := by unfold Bd; omega
      have hb1 : Bd 40 b := by unfold Bd; omega
      refine ⟨⟨Bd.big hd (by omega), by ((apply Bd.big; (case h => repeat' (with_reducible first | assumption | (apply Bd.add) | (apply Bd.sub) | (apply Bd.mul) | (apply Bd.neg) | (apply Bd.abs) | (apply Bd.fdiv) | exact Bd.self _)); all_goals decide +kernel))⟩, ?_⟩
      refine sp_hash hb1 hc1 ?_
      intro r e r0 r1
      rw [OP_add]
      refine ⟨_, _, _, rfl, ?_, by omega, by omega⟩
      have hr : Bd 31 r := by unfold Bd; omega
      exact (((hd.mul (show Bd 31 2147483587 by unfold Bd; decide)).add hr)).up (by omega)
    · intro e ⟨dr, c', x3, he, hd, h1, h2⟩
      subst he
      have hl : (rngD 0 (1 + t).toNat).length = (1 + t).toNat := by simp [rngD]
      rw [hl] at h2
      (try simp only [RP_varm, RP_holem, RP_c, RP_1, RP_2, RP_3, RP_f, RP_nil, RP_cons, RP_if, RP_and, RP_or, RP_not, RP_B, RP_qt, RP_perm, RP_pn, RP_ps, RP_sl, RP_call, RP_src2, SrcP_l, SrcP_t, SrcP_pl, SrcP_row, SrcP_tab, RP_r1, RP_r2, RP_en2, EnP_l, EnP_row, EnP_tab, LsP_l, LsP_pl, RP_lc, RP_yes, RP_pop, RP_lr, RP_fl, RP_dct1, RP_asL,  SP_nx, SP_seq, SP_drop, SP_ret, SP_set, SP_if, SP_sub, SP_sub2, SP_app, SP_app2, SP_tgt, SP_par, SP_parO, SP_str, SP_uT, SP_uN, SP_uC, SP_uS, SP_subK, SP_for, FP_fn, OP_gT, OP_gC, OP_gE, OP_some, OP_map, OP_add, OP_sub, OP_mul, OP_fdiv, OP_fmod, OP_pow, OP_neg, OP_lt, OP_le, OP_gt, OP_ge, OP_eqi, OP_nei, OP_bits, OP_int, OP_intb, OP_tup, OP_lst, OP_lenl, OP_lent, OP_lenf, OP_abs, OP_max2, OP_min2, OP_gcd, OP_ixl, OP_ixt, OP_ixf, OP_cat, OP_rep, OP_subb, OP_gN, OP_eqs, OP_eq00, OP_ne00, OP_dct1, OP_nepl, OP_eqpl, OP_isLp, OP_pop0, OP_apppl, OP_lenpl, OP_lentab, OP_inpl, OP_ninpl, OP_indk, OP_nindk, OP_setK, BQ_b, BP_t, BP_f, BP_d, BP_n, BP_eq, ↓reduceIte, Option.map_some, is_non_np, is_non_ng, is_non_tp, is_non_tg, is_non_fp, is_non_fg, is_bl_np, is_bl_ng, is_bl_tp, is_bl_tg, is_bl_fp, is_bl_fg, is_int_np, is_int_ng, is_int_tp, is_int_tg, is_int_fp, is_int_fg, is_str_np, is_str_ng, is_str_tp, is_str_tg, is_str_fp, is_str_fg, is_lst_np, is_lst_ng, is_lst_tp, is_lst_tg, is_lst_fp, is_lst_fg, is_tup_np, is_tup_ng, is_tup_tp, is_tup_tg, is_tup_fp, is_tup_fg, isi_non_int, isi_non_bool, isi_non_list, isi_non_tuple, isi_non_str, isi_non_dict, isi_non_lt, isi_bl_int, isi_bl_bool, isi_bl_list, isi_bl_tuple, isi_bl_str, isi_bl_dict, isi_bl_lt, isi_int_int, isi_int_bool, isi_int_list, isi_int_tuple, isi_int_str, isi_int_dict, isi_int_lt, isi_str_int, isi_str_bool, isi_str_list, isi_str_tuple, isi_str_str, isi_str_dict, isi_str_lt, isi_lst_int, isi_lst_bool, isi_lst_list, isi_lst_tuple, isi_lst_str, isi_lst_dict, isi_lst_lt, isi_tup_int, isi_tup_bool, isi_tup_list, isi_tup_tuple, isi_tup_str, isi_tup_dict, isi_tup_lt,  at0, at1, at2, at3, set0, set1, set2, setD_l, fillIO, putIO, ioN, permO, wpE_n, wpE_c, rst_n, rst_c, isFl, List.map_cons, List.map_nil, List.cons_append, List.nil_append, List.append_nil, List.replicate_succ, List.replicate_zero, Nat.reduceSub, Nat.reduceAdd, List.getElem?_cons_zero, List.getElem?_cons_succ, List.getD_cons_zero, List.getD_cons_succ, List.set_cons_zero, List.set_cons_succ, List.length_cons, List.length_nil, List.map_append])
      have r := fmod_rng dr h0
      exact ⟨by omega, q _ _ _ r.1 r.2 ⟨a, b, c', rfl, ha, hA, hb, hB, h1, by omega⟩ rfl⟩
theorem sp_pick {g : D} {k : Nat} {ds : List D} {Q : D → Sl → Prop} (hg : GenOk k g) (hk : k ≤ 1000000000) (h0 : 0 < ds.length) (hn : ds.length ≤ 1000000) (q : ∀ (i : Nat) d g' e, ds[i]? = some d → GenOk (k + 1) g' → e[0]? = some (some g') → Q d e) : FP (m_law_pick [g, .lst ds]) Q := by
  unfold m_law_pick b_law_pick
  (try simp only [RP_varm, RP_holem, RP_c, RP_1, RP_2, RP_3, RP_f, RP_nil, RP_cons, RP_if, RP_and, RP_or, RP_not, RP_B, RP_qt, RP_perm, RP_pn, RP_ps, RP_sl, RP_call, RP_src2, SrcP_l, SrcP_t, SrcP_pl, SrcP_row, SrcP_tab, RP_r1, RP_r2, RP_en2, EnP_l, EnP_row, EnP_tab, LsP_l, LsP_pl, RP_lc, RP_yes, RP_pop, RP_lr, RP_fl, RP_dct1, RP_asL,  SP_nx, SP_seq, SP_drop, SP_ret, SP_set, SP_if, SP_sub, SP_sub2, SP_app, SP_app2, SP_tgt, SP_par, SP_parO, SP_str, SP_uT, SP_uN, SP_uC, SP_uS, SP_subK, SP_for, FP_fn, OP_gT, OP_gC, OP_gE, OP_some, OP_map, OP_add, OP_sub, OP_mul, OP_fdiv, OP_fmod, OP_pow, OP_neg, OP_lt, OP_le, OP_gt, OP_ge, OP_eqi, OP_nei, OP_bits, OP_int, OP_intb, OP_tup, OP_lst, OP_lenl, OP_lent, OP_lenf, OP_abs, OP_max2, OP_min2, OP_gcd, OP_ixl, OP_ixt, OP_ixf, OP_cat, OP_rep, OP_subb, OP_gN, OP_eqs, OP_eq00, OP_ne00, OP_dct1, OP_nepl, OP_eqpl, OP_isLp, OP_pop0, OP_apppl, OP_lenpl, OP_lentab, OP_inpl, OP_ninpl, OP_indk, OP_nindk, OP_setK, BQ_b, BP_t, BP_f, BP_d, BP_n, BP_eq, ↓reduceIte, Option.map_some, is_non_np, is_non_ng, is_non_tp, is_non_tg, is_non_fp, is_non_fg, is_bl_np, is_bl_ng, is_bl_tp, is_bl_tg, is_bl_fp, is_bl_fg, is_int_np, is_int_ng, is_int_tp, is_int_tg, is_int_fp, is_int_fg, is_str_np, is_str_ng, is_str_tp, is_str_tg, is_str_fp, is_str_fg, is_lst_np, is_lst_ng, is_lst_tp, is_lst_tg, is_lst_fp, is_lst_fg, is_tup_np, is_tup_ng, is_tup_tp, is_tup_tg, is_tup_fp, is_tup_fg, isi_non_int, isi_non_bool, isi_non_list, isi_non_tuple, isi_non_str, isi_non_dict, isi_non_lt, isi_bl_int, isi_bl_bool, isi_bl_list, isi_bl_tuple, isi_bl_str, isi_bl_dict, isi_bl_lt, isi_int_int, isi_int_bool, isi_int_list, isi_int_tuple, isi_int_str, isi_int_dict, isi_int_lt, isi_str_int, isi_str_bool, isi_str_list, isi_str_tuple, isi_str_str, isi_str_dict, isi_str_lt, isi_lst_int, isi_lst_bool, isi_lst_list, isi_lst_tuple, isi_lst_str, isi_lst_dict, isi_lst_lt, isi_tup_int, isi_tup_bool, isi_tup_list, isi_tup_tuple, isi_tup_str, isi_tup_dict, isi_tup_lt,  at0, at1, at2, at3, set0, set1, set2, setD_l, fillIO, putIO, ioN, permO, wpE_n, wpE_c, rst_n, rst_c, isFl, List.map_cons, List.map_nil, List.cons_append, List.nil_append, List.append_nil, List.replicate_succ, List.replicate_zero, Nat.reduceSub, Nat.reduceAdd, List.getElem?_cons_zero, List.getElem?_cons_succ, List.getD_cons_zero, List.getD_cons_succ, List.set_cons_zero, List.set_cons_succ, List.length_cons, List.length_nil, List.map_append])
  refine sp_random hg hk (by omega) (by unfold Bd; rw [Int.natAbs_natCast]; exact Nat.lt_of_le_of_lt hn (by decide)) fun r g' e r0 r1 hg' he => ?_
  simp only [he]
  (try simp only [RP_varm, RP_holem, RP_c, RP_1, RP_2, RP_3, RP_f, RP_nil, RP_cons, RP_if, RP_and, RP_or, RP_not, RP_B, RP_qt, RP_perm, RP_pn, RP_ps, RP_sl, RP_call, RP_src2, SrcP_l, SrcP_t, SrcP_pl, SrcP_row, SrcP_tab, RP_r1, RP_r2, RP_en2, EnP_l, EnP_row, EnP_tab, LsP_l, LsP_pl, RP_lc, RP_yes, RP_pop, RP_lr, RP_fl, RP_dct1, RP_asL,  SP_nx, SP_seq, SP_drop, SP_ret, SP_set, SP_if, SP_sub, SP_sub2, SP_app, SP_app2, SP_tgt, SP_par, SP_parO, SP_str, SP_uT, SP_uN, SP_uC, SP_uS, SP_subK, SP_for, FP_fn, OP_gT, OP_gC, OP_gE, OP_some, OP_map, OP_add, OP_sub, OP_mul, OP_fdiv, OP_fmod, OP_pow, OP_neg, OP_lt, OP_le, OP_gt, OP_ge, OP_eqi, OP_nei, OP_bits, OP_int, OP_intb, OP_tup, OP_lst, OP_lenl, OP_lent, OP_lenf, OP_abs, OP_max2, OP_min2, OP_gcd, OP_ixl, OP_ixt, OP_ixf, OP_cat, OP_rep, OP_subb, OP_gN, OP_eqs, OP_eq00, OP_ne00, OP_dct1, OP_nepl, OP_eqpl, OP_isLp, OP_pop0, OP_apppl, OP_lenpl, OP_lentab, OP_inpl, OP_ninpl, OP_indk, OP_nindk, OP_setK, BQ_b, BP_t, BP_f, BP_d, BP_n, BP_eq, ↓reduceIte, Option.map_some, is_non_np, is_non_ng, is_non_tp, is_non_tg, is_non_fp, is_non_fg, is_bl_np, is_bl_ng, is_bl_tp, is_bl_tg, is_bl_fp, is_bl_fg, is_int_np, is_int_ng, is_int_tp, is_int_tg, is_int_fp, is_int_fg, is_str_np, is_str_ng, is_str_tp, is_str_tg, is_str_fp, is_str_fg, is_lst_np, is_lst_ng, is_lst_tp, is_lst_tg, is_lst_fp, is_lst_fg, is_tup_np, is_tup_ng, is_tup_tp, is_tup_tg, is_tup_fp, is_tup_fg, isi_non_int, isi_non_bool, isi_non_list, isi_non_tuple, isi_non_str, isi_non_dict, isi_non_lt, isi_bl_int, isi_bl_bool, isi_bl_list, isi_bl_tuple, isi_bl_str, isi_bl_dict, isi_bl_lt, isi_int_int, isi_int_bool, isi_int_list, isi_int_tuple, isi_int_str, isi_int_dict, isi_int_lt, isi_str_int, isi_str_bool, isi_str_list, isi_str_tuple, isi_str_str, isi_str_dict, isi_str_lt, isi_lst_int, isi_lst_bool, isi_lst_list, isi_lst_tuple, isi_lst_str, isi_lst_dict, isi_lst_lt, isi_tup_int, isi_tup_bool, isi_tup_list, isi_tup_tuple, isi_tup_str, isi_tup_dict, isi_tup_lt,  at0, at1, at2, at3, set0, set1, set2, setD_l, fillIO, putIO, ioN, permO, wpE_n, wpE_c, rst_n, rst_c, isFl, List.map_cons, List.map_nil, List.cons_append, List.nil_append, List.append_nil, List.replicate_succ, List.replicate_zero, Nat.reduceSub, Nat.reduceAdd, List.getElem?_cons_zero, List.getElem?_cons_succ, List.getD_cons_zero, List.getD_cons_succ, List.set_cons_zero, List.set_cons_succ, List.length_cons, List.length_nil, List.map_append])
  obtain ⟨j, rfl⟩ := Int.eq_ofNat_of_zero_le r0
  have hj : j < ds.length := by omega
  rw [show atI ds (j : Int) = some ds[j] from atI_of (List.getElem?_eq_getElem hj)]
  exact q j _ g' _ (List.getElem?_eq_getElem hj) hg' rfl
theorem d_ints (ns : List Int) : D.ints (ns.map D.int) = some ns := by
  induction ns with
  | nil => rfl
  | cons n ns ih =>
    show (match D.ints (ns.map D.int) with | some r => some (n :: r) | none => none) = _
    rw [ih]
theorem sp_cell {ns : List Int} {k : Nat} {Q : D → Sl → Prop} (q : ∀ z e, Q (.int z) e) : FP (m_law_cell [.fro (ns.map .int), .int k]) Q := by
  unfold m_law_cell b_law_cell
  (try simp only [RP_varm, RP_holem, RP_c, RP_1, RP_2, RP_3, RP_f, RP_nil, RP_cons, RP_if, RP_and, RP_or, RP_not, RP_B, RP_qt, RP_perm, RP_pn, RP_ps, RP_sl, RP_call, RP_src2, SrcP_l, SrcP_t, SrcP_pl, SrcP_row, SrcP_tab, RP_r1, RP_r2, RP_en2, EnP_l, EnP_row, EnP_tab, LsP_l, LsP_pl, RP_lc, RP_yes, RP_pop, RP_lr, RP_fl, RP_dct1, RP_asL,  SP_nx, SP_seq, SP_drop, SP_ret, SP_set, SP_if, SP_sub, SP_sub2, SP_app, SP_app2, SP_tgt, SP_par, SP_parO, SP_str, SP_uT, SP_uN, SP_uC, SP_uS, SP_subK, SP_for, FP_fn, OP_gT, OP_gC, OP_gE, OP_some, OP_map, OP_add, OP_sub, OP_mul, OP_fdiv, OP_fmod, OP_pow, OP_neg, OP_lt, OP_le, OP_gt, OP_ge, OP_eqi, OP_nei, OP_bits, OP_int, OP_intb, OP_tup, OP_lst, OP_lenl, OP_lent, OP_lenf, OP_abs, OP_max2, OP_min2, OP_gcd, OP_ixl, OP_ixt, OP_ixf, OP_cat, OP_rep, OP_subb, OP_gN, OP_eqs, OP_eq00, OP_ne00, OP_dct1, OP_nepl, OP_eqpl, OP_isLp, OP_pop0, OP_apppl, OP_lenpl, OP_lentab, OP_inpl, OP_ninpl, OP_indk, OP_nindk, OP_setK, BQ_b, BP_t, BP_f, BP_d, BP_n, BP_eq, ↓reduceIte, Option.map_some, is_non_np, is_non_ng, is_non_tp, is_non_tg, is_non_fp, is_non_fg, is_bl_np, is_bl_ng, is_bl_tp, is_bl_tg, is_bl_fp, is_bl_fg, is_int_np, is_int_ng, is_int_tp, is_int_tg, is_int_fp, is_int_fg, is_str_np, is_str_ng, is_str_tp, is_str_tg, is_str_fp, is_str_fg, is_lst_np, is_lst_ng, is_lst_tp, is_lst_tg, is_lst_fp, is_lst_fg, is_tup_np, is_tup_ng, is_tup_tp, is_tup_tg, is_tup_fp, is_tup_fg, isi_non_int, isi_non_bool, isi_non_list, isi_non_tuple, isi_non_str, isi_non_dict, isi_non_lt, isi_bl_int, isi_bl_bool, isi_bl_list, isi_bl_tuple, isi_bl_str, isi_bl_dict, isi_bl_lt, isi_int_int, isi_int_bool, isi_int_list, isi_int_tuple, isi_int_str, isi_int_dict, isi_int_lt, isi_str_int, isi_str_bool, isi_str_list, isi_str_tuple, isi_str_str, isi_str_dict, isi_str_lt, isi_lst_int, isi_lst_bool, isi_lst_list, isi_lst_tuple, isi_lst_str, isi_lst_dict, isi_lst_lt, isi_tup_int, isi_tup_bool, isi_tup_list, isi_tup_tuple, isi_tup_str, isi_tup_dict, isi_tup_lt,  at0, at1, at2, at3, set0, set1, set2, setD_l, fillIO, putIO, ioN, permO, wpE_n, wpE_c, rst_n, rst_c, isFl, List.map_cons, List.map_nil, List.cons_append, List.nil_append, List.append_nil, List.replicate_succ, List.replicate_zero, Nat.reduceSub, Nat.reduceAdd, List.getElem?_cons_zero, List.getElem?_cons_succ, List.getD_cons_zero, List.getD_cons_succ, List.set_cons_zero, List.set_cons_succ, List.length_cons, List.length_nil, List.map_append])
  refine ⟨fun h => ?_, fun _ => ?_⟩
  · have hk : k < ns.length := by simpa using h
    rw [show atI (ns.map D.int) (k : Int) = some (.int ns[k]) from atI_of (by rw [List.getElem?_map, List.getElem?_eq_getElem hk]; rfl)]
    exact q _ _
  · show OP (fSumF [.lst (cutL (ns.map D.int) none (some 1))]) _
    rw [show cutL (ns.map D.int) none (some 1) = (cutL ns none (some 1)).map D.int by unfold cutL; rw [List.length_map, List.map_take, List.map_drop]]
    show OP ((D.ints _).map _) _
    rw [d_ints]
    (try simp only [RP_varm, RP_holem, RP_c, RP_1, RP_2, RP_3, RP_f, RP_nil, RP_cons, RP_if, RP_and, RP_or, RP_not, RP_B, RP_qt, RP_perm, RP_pn, RP_ps, RP_sl, RP_call, RP_src2, SrcP_l, SrcP_t, SrcP_pl, SrcP_row, SrcP_tab, RP_r1, RP_r2, RP_en2, EnP_l, EnP_row, EnP_tab, LsP_l, LsP_pl, RP_lc, RP_yes, RP_pop, RP_lr, RP_fl, RP_dct1, RP_asL,  SP_nx, SP_seq, SP_drop, SP_ret, SP_set, SP_if, SP_sub, SP_sub2, SP_app, SP_app2, SP_tgt, SP_par, SP_parO, SP_str, SP_uT, SP_uN, SP_uC, SP_uS, SP_subK, SP_for, FP_fn, OP_gT, OP_gC, OP_gE, OP_some, OP_map, OP_add, OP_sub, OP_mul, OP_fdiv, OP_fmod, OP_pow, OP_neg, OP_lt, OP_le, OP_gt, OP_ge, OP_eqi, OP_nei, OP_bits, OP_int, OP_intb, OP_tup, OP_lst, OP_lenl, OP_lent, OP_lenf, OP_abs, OP_max2, OP_min2, OP_gcd, OP_ixl, OP_ixt, OP_ixf, OP_cat, OP_rep, OP_subb, OP_gN, OP_eqs, OP_eq00, OP_ne00, OP_dct1, OP_nepl, OP_eqpl, OP_isLp, OP_pop0, OP_apppl, OP_lenpl, OP_lentab, OP_inpl, OP_ninpl, OP_indk, OP_nindk, OP_setK, BQ_b, BP_t, BP_f, BP_d, BP_n, BP_eq, ↓reduceIte, Option.map_some, is_non_np, is_non_ng, is_non_tp, is_non_tg, is_non_fp, is_non_fg, is_bl_np, is_bl_ng, is_bl_tp, is_bl_tg, is_bl_fp, is_bl_fg, is_int_np, is_int_ng, is_int_tp, is_int_tg, is_int_fp, is_int_fg, is_str_np, is_str_ng, is_str_tp, is_str_tg, is_str_fp, is_str_fg, is_lst_np, is_lst_ng, is_lst_tp, is_lst_tg, is_lst_fp, is_lst_fg, is_tup_np, is_tup_ng, is_tup_tp, is_tup_tg, is_tup_fp, is_tup_fg, isi_non_int, isi_non_bool, isi_non_list, isi_non_tuple, isi_non_str, isi_non_dict, isi_non_lt, isi_bl_int, isi_bl_bool, isi_bl_list, isi_bl_tuple, isi_bl_str, isi_bl_dict, isi_bl_lt, isi_int_int, isi_int_bool, isi_int_list, isi_int_tuple, isi_int_str, isi_int_dict, isi_int_lt, isi_str_int, isi_str_bool, isi_str_list, isi_str_tuple, isi_str_str, isi_str_dict, isi_str_lt, isi_lst_int, isi_lst_bool, isi_lst_list, isi_lst_tuple, isi_lst_str, isi_lst_dict, isi_lst_lt, isi_tup_int, isi_tup_bool, isi_tup_list, isi_tup_tuple, isi_tup_str, isi_tup_dict, isi_tup_lt,  at0, at1, at2, at3, set0, set1, set2, setD_l, fillIO, putIO, ioN, permO, wpE_n, wpE_c, rst_n, rst_c, isFl, List.map_cons, List.map_nil, List.cons_append, List.nil_append, List.append_nil, List.replicate_succ, List.replicate_zero, Nat.reduceSub, Nat.reduceAdd, List.getElem?_cons_zero, List.getElem?_cons_succ, List.getD_cons_zero, List.getD_cons_succ, List.set_cons_zero, List.set_cons_succ, List.length_cons, List.length_nil, List.map_append])
    exact ⟨by decide, q _ _⟩
theorem sp_generator {ns : List Int} {k : Nat} {Q : D → Sl → Prop} (hk : k ≤ 1000) (q : ∀ g e, GenOk 0 g → Q g e) : FP (m_law_generator [.fro (ns.map .int), .int k]) Q := by
  unfold m_law_generator b_law_generator
  (try simp only [RP_varm, RP_holem, RP_c, RP_1, RP_2, RP_3, RP_f, RP_nil, RP_cons, RP_if, RP_and, RP_or, RP_not, RP_B, RP_qt, RP_perm, RP_pn, RP_ps, RP_sl, RP_call, RP_src2, SrcP_l, SrcP_t, SrcP_pl, SrcP_row, SrcP_tab, RP_r1, RP_r2, RP_en2, EnP_l, EnP_row, EnP_tab, LsP_l, LsP_pl, RP_lc, RP_yes, RP_pop, RP_lr, RP_fl, RP_dct1, RP_asL,  SP_nx, SP_seq, SP_drop, SP_ret, SP_set, SP_if, SP_sub, SP_sub2, SP_app, SP_app2, SP_tgt, SP_par, SP_parO, SP_str, SP_uT, SP_uN, SP_uC, SP_uS, SP_subK, SP_for, FP_fn, OP_gT, OP_gC, OP_gE, OP_some, OP_map, OP_add, OP_sub, OP_mul, OP_fdiv, OP_fmod, OP_pow, OP_neg, OP_lt, OP_le, OP_gt, OP_ge, OP_eqi, OP_nei, OP_bits, OP_int, OP_intb, OP_tup, OP_lst, OP_lenl, OP_lent, OP_lenf, OP_abs, OP_max2, OP_min2, OP_gcd, OP_ixl, OP_ixt, OP_ixf, OP_cat, OP_rep, OP_subb, OP_gN, OP_eqs, OP_eq00, OP_ne00, OP_dct1, OP_nepl, OP_eqpl, OP_isLp, OP_pop0, OP_apppl, OP_lenpl, OP_lentab, OP_inpl, OP_ninpl, OP_indk, OP_nindk, OP_setK, BQ_b, BP_t, BP_f, BP_d, BP_n, BP_eq, ↓reduceIte, Option.map_some, is_non_np, is_non_ng, is_non_tp, is_non_tg, is_non_fp, is_non_fg, is_bl_np, is_bl_ng, is_bl_tp, is_bl_tg, is_bl_fp, is_bl_fg, is_int_np, is_int_ng, is_int_tp, is_int_tg, is_int_fp, is_int_fg, is_str_np, is_str_ng, is_str_tp, is_str_tg, is_str_fp, is_str_fg, is_lst_np, is_lst_ng, is_lst_tp, is_lst_tg, is_lst_fp, is_lst_fg, is_tup_np, is_tup_ng, is_tup_tp, is_tup_tg, is_tup_fp, is_tup_fg, isi_non_int, isi_non_bool, isi_non_list, isi_non_tuple, isi_non_str, isi_non_dict, isi_non_lt, isi_bl_int, isi_bl_bool, isi_bl_list, isi_bl_tuple, isi_bl_str, isi_bl_dict, isi_bl_lt, isi_int_int, isi_int_bool, isi_int_list, isi_int_tuple, isi_int_str, isi_int_dict, isi_int_lt, isi_str_int, isi_str_bool, isi_str_list, isi_str_tuple, isi_str_str, isi_str_dict, isi_str_lt, isi_lst_int, isi_lst_bool, isi_lst_list, isi_lst_tuple, isi_lst_str, isi_lst_dict, isi_lst_lt, isi_tup_int, isi_tup_bool, isi_tup_list, isi_tup_tuple, isi_tup_str, isi_tup_dict, isi_tup_lt,  at0, at1, at2, at3, set0, set1, set2, setD_l, fillIO, putIO, ioN, permO, wpE_n, wpE_c, rst_n, rst_c, isFl, List.map_cons, List.map_nil, List.cons_append, List.nil_append, List.append_nil, List.replicate_succ, List.replicate_zero, Nat.reduceSub, Nat.reduceAdd, List.getElem?_cons_zero, List.getElem?_cons_succ, List.getD_cons_zero, List.getD_cons_succ, List.set_cons_zero, List.set_cons_succ, List.length_cons, List.length_nil, List.map_append])
  refine sp_cell fun z e => ?_
  have hN : ∀ x y, 0 < y → Bd 4000 y → Bd 4000 (Int.fmod x y) := fun x y h k => Bd.fmod h k
  have h1 := fmod_rng z (y := 2147483647) (by decide)
  have h2 := fmod_rng (max (z - 10 ^ 18) 0) (y := (10 ^ 60) ^ 10) (by decide +kernel)
  have h3 := hN (max (z - 10 ^ 18) 0) ((10 ^ 60) ^ 10) (by decide +kernel) (by unfold Bd; decide +kernel)
  (try simp only [RP_varm, RP_holem, RP_c, RP_1, RP_2, RP_3, RP_f, RP_nil, RP_cons, RP_if, RP_and, RP_or, RP_not, RP_B, RP_qt, RP_perm, RP_pn, RP_ps, RP_sl, RP_call, RP_src2, SrcP_l, SrcP_t, SrcP_pl, SrcP_row, SrcP_tab, RP_r1, RP_r2, RP_en2, EnP_l, EnP_row, EnP_tab, LsP_l, LsP_pl, RP_lc, RP_yes, RP_pop, RP_lr, RP_fl, RP_dct1, RP_asL,  SP_nx, SP_seq, SP_drop, SP_ret, SP_set, SP_if, SP_sub, SP_sub2, SP_app, SP_app2, SP_tgt, SP_par, SP_parO, SP_str, SP_uT, SP_uN, SP_uC, SP_uS, SP_subK, SP_for, FP_fn, OP_gT, OP_gC, OP_gE, OP_some, OP_map, OP_add, OP_sub, OP_mul, OP_fdiv, OP_fmod, OP_pow, OP_neg, OP_lt, OP_le, OP_gt, OP_ge, OP_eqi, OP_nei, OP_bits, OP_int, OP_intb, OP_tup, OP_lst, OP_lenl, OP_lent, OP_lenf, OP_abs, OP_max2, OP_min2, OP_gcd, OP_ixl, OP_ixt, OP_ixf, OP_cat, OP_rep, OP_subb, OP_gN, OP_eqs, OP_eq00, OP_ne00, OP_dct1, OP_nepl, OP_eqpl, OP_isLp, OP_pop0, OP_apppl, OP_lenpl, OP_lentab, OP_inpl, OP_ninpl, OP_indk, OP_nindk, OP_setK, BQ_b, BP_t, BP_f, BP_d, BP_n, BP_eq, ↓reduceIte, Option.map_some, is_non_np, is_non_ng, is_non_tp, is_non_tg, is_non_fp, is_non_fg, is_bl_np, is_bl_ng, is_bl_tp, is_bl_tg, is_bl_fp, is_bl_fg, is_int_np, is_int_ng, is_int_tp, is_int_tg, is_int_fp, is_int_fg, is_str_np, is_str_ng, is_str_tp, is_str_tg, is_str_fp, is_str_fg, is_lst_np, is_lst_ng, is_lst_tp, is_lst_tg, is_lst_fp, is_lst_fg, is_tup_np, is_tup_ng, is_tup_tp, is_tup_tg, is_tup_fp, is_tup_fg, isi_non_int, isi_non_bool, isi_non_list, isi_non_tuple, isi_non_str, isi_non_dict, isi_non_lt, isi_bl_int, isi_bl_bool, isi_bl_list, isi_bl_tuple, isi_bl_str, isi_bl_dict, isi_bl_lt, isi_int_int, isi_int_bool, isi_int_list, isi_int_tuple, isi_int_str, isi_int_dict, isi_int_lt, isi_str_int, isi_str_bool, isi_str_list, isi_str_tuple, isi_str_str, isi_str_dict, isi_str_lt, isi_lst_int, isi_lst_bool, isi_lst_list, isi_lst_tuple, isi_lst_str, isi_lst_dict, isi_lst_lt, isi_tup_int, isi_tup_bool, isi_tup_list, isi_tup_tuple, isi_tup_str, isi_tup_dict, isi_tup_lt,  at0, at1, at2, at3, set0, set1, set2, setD_l, fillIO, putIO, ioN, permO, wpE_n, wpE_c, rst_n, rst_c, isFl, List.map_cons, List.map_nil, List.cons_append, List.nil_append, List.append_nil, List.replicate_succ, List.replicate_zero, Nat.reduceSub, Nat.reduceAdd, List.getElem?_cons_zero, List.getElem?_cons_succ, List.getD_cons_zero, List.getD_cons_succ, List.set_cons_zero, List.set_cons_succ, List.length_cons, List.length_nil, List.map_append])
  refine ⟨by decide, by decide, ?_, by decide +kernel, by decide, ?_, ?_, q _ _ ⟨_, _, _, rfl, h2.1, h3, h1.1, h1.2, by omega, by omega⟩⟩
  · decide +kernel
  · refine ⟨by decide +kernel, Bd.big (n := 10) (show k < 2 ^ 10 by omega) (by decide)⟩
  · decide
end M3

/-! PC -/
set_option Elab.async false
set_option linter.all false
set_option maxRecDepth 100000
set_option maxHeartbeats 400000
namespace M3
open PySem PySem.Spec PyProof.Rows L2
/-! ### told and due -/
def okSame : Nat → D → Prop
  | 0, _ => False
  | _ + 1, .non => True
  | _ + 1, .bl _ => True
  | _ + 1, .int _ => True
  | _ + 1, .str _ => True
  | n + 1, .lst l => l.length ≤ lim ∧ ∀ d ∈ l, okSame n d
  | n + 1, .tup l => l.length ≤ lim ∧ ∀ d ∈ l, okSame n d
  | _ + 1, _ => False
theorem lim_rok {n : Nat} (h : n ≤ lim) : rOk (n : Int) := by
  have : n ≤ 1000000 := h
  constructor <;> omega
theorem seq_same {self : Fn} {l : List D} {b : D} {Q : List D → Sl → Prop} (ix : ∀ (i : Nat) (Q : D → Prop), OP (atI l i) Q → OP (D.ix b (.int i)) Q) (hl : ∀ d ∈ l, ∀ Q : D → Sl → Prop, (∀ e, Q (.bl true) e) → FP (self [d, d]) Q)
    (q : ∀ e, Q [] [some b, some b, e]) : ∀ (n i : Nat) (x : Option D), n + i = l.length → RP (lcL [2] (gN 2) (mNot (mB (mCall self [none, none] [] (mCons (m2 D.ix (mVar 0) (mVar 2)) (mCons (m2 D.ix (mVar 1) (mVar 2)) mNil))))) (mVar 2) ((rngD 0 l.length).drop i) [some b, some b, x]) Q := by
  intro n
  induction n with
  | zero =>
    intro i x hn
    rw [List.drop_eq_nil_of_le (by simp [rngD]; omega), RP_lcn]
    exact q x
  | succ n ih =>
    intro i x hn
    have hi : i < (rngD 0 l.length).length := by simp [rngD]; omega
    have hi2 : i < l.length := by omega
    rw [List.drop_eq_getElem_cons hi, RP_lcc]
    (try simp only [RP_varm, RP_holem, RP_c, RP_1, RP_2, RP_3, RP_f, RP_nil, RP_cons, RP_if, RP_and, RP_or, RP_not, RP_B, RP_qt, RP_perm, RP_pn, RP_ps, RP_sl, RP_call, RP_src2, SrcP_l, SrcP_t, SrcP_pl, SrcP_row, SrcP_tab, RP_r1, RP_r2, RP_en2, EnP_l, EnP_row, EnP_tab, LsP_l, LsP_pl, RP_lc, RP_yes, RP_pop, RP_lr, RP_fl, RP_dct1, RP_asL,  SP_nx, SP_seq, SP_drop, SP_ret, SP_set, SP_if, SP_sub, SP_sub2, SP_app, SP_app2, SP_tgt, SP_par, SP_parO, SP_str, SP_uT, SP_uN, SP_uC, SP_uS, SP_subK, SP_for, FP_fn, OP_gT, OP_gC, OP_gE, OP_some, OP_map, OP_add, OP_sub, OP_mul, OP_fdiv, OP_fmod, OP_pow, OP_neg, OP_lt, OP_le, OP_gt, OP_ge, OP_eqi, OP_nei, OP_bits, OP_int, OP_intb, OP_tup, OP_lst, OP_lenl, OP_lent, OP_lenf, OP_abs, OP_max2, OP_min2, OP_gcd, OP_ixl, OP_ixt, OP_ixf, OP_cat, OP_rep, OP_subb, OP_gN, OP_eqs, OP_eq00, OP_ne00, OP_dct1, OP_nepl, OP_eqpl, OP_isLp, OP_pop0, OP_apppl, OP_lenpl, OP_lentab, OP_inpl, OP_ninpl, OP_indk, OP_nindk, OP_setK, BQ_b, BP_t, BP_f, BP_d, BP_n, BP_eq, ↓reduceIte, Option.map_some, is_non_np, is_non_ng, is_non_tp, is_non_tg, is_non_fp, is_non_fg, is_bl_np, is_bl_ng, is_bl_tp, is_bl_tg, is_bl_fp, is_bl_fg, is_int_np, is_int_ng, is_int_tp, is_int_tg, is_int_fp, is_int_fg, is_str_np, is_str_ng, is_str_tp, is_str_tg, is_str_fp, is_str_fg, is_lst_np, is_lst_ng, is_lst_tp, is_lst_tg, is_lst_fp, is_lst_fg, is_tup_np, is_tup_ng, is_tup_tp, is_tup_tg, is_tup_fp, is_tup_fg, isi_non_int, isi_non_bool, isi_non_list, isi_non_tuple, isi_non_str, isi_non_dict, isi_non_lt, isi_bl_int, isi_bl_bool, isi_bl_list, isi_bl_tuple, isi_bl_str, isi_bl_dict, isi_bl_lt, isi_int_int, isi_int_bool, isi_int_list, isi_int_tuple, isi_int_str, isi_int_dict, isi_int_lt, isi_str_int, isi_str_bool, isi_str_list, isi_str_tuple, isi_str_str, isi_str_dict, isi_str_lt, isi_lst_int, isi_lst_bool, isi_lst_list, isi_lst_tuple, isi_lst_str, isi_lst_dict, isi_lst_lt, isi_tup_int, isi_tup_bool, isi_tup_list, isi_tup_tuple, isi_tup_str, isi_tup_dict, isi_tup_lt,  at0, at1, at2, at3, set0, set1, set2, setD_l, fillIO, putIO, ioN, permO, wpE_n, wpE_c, rst_n, rst_c, isFl, List.map_cons, List.map_nil, List.cons_append, List.nil_append, List.append_nil, List.replicate_succ, List.replicate_zero, Nat.reduceSub, Nat.reduceAdd, List.getElem?_cons_zero, List.getElem?_cons_succ, List.getD_cons_zero, List.getD_cons_succ, List.set_cons_zero, List.set_cons_succ, List.length_cons, List.length_nil, List.map_append])
    rw [show (rngD 0 l.length)[i] = D.int (i : Int) by simp [rngD]]
    refine ix i _ ?_
    rw [show atI l (i : Int) = some l[i] from atI_of (List.getElem?_eq_getElem hi2)]
    (try simp only [RP_varm, RP_holem, RP_c, RP_1, RP_2, RP_3, RP_f, RP_nil, RP_cons, RP_if, RP_and, RP_or, RP_not, RP_B, RP_qt, RP_perm, RP_pn, RP_ps, RP_sl, RP_call, RP_src2, SrcP_l, SrcP_t, SrcP_pl, SrcP_row, SrcP_tab, RP_r1, RP_r2, RP_en2, EnP_l, EnP_row, EnP_tab, LsP_l, LsP_pl, RP_lc, RP_yes, RP_pop, RP_lr, RP_fl, RP_dct1, RP_asL,  SP_nx, SP_seq, SP_drop, SP_ret, SP_set, SP_if, SP_sub, SP_sub2, SP_app, SP_app2, SP_tgt, SP_par, SP_parO, SP_str, SP_uT, SP_uN, SP_uC, SP_uS, SP_subK, SP_for, FP_fn, OP_gT, OP_gC, OP_gE, OP_some, OP_map, OP_add, OP_sub, OP_mul, OP_fdiv, OP_fmod, OP_pow, OP_neg, OP_lt, OP_le, OP_gt, OP_ge, OP_eqi, OP_nei, OP_bits, OP_int, OP_intb, OP_tup, OP_lst, OP_lenl, OP_lent, OP_lenf, OP_abs, OP_max2, OP_min2, OP_gcd, OP_ixl, OP_ixt, OP_ixf, OP_cat, OP_rep, OP_subb, OP_gN, OP_eqs, OP_eq00, OP_ne00, OP_dct1, OP_nepl, OP_eqpl, OP_isLp, OP_pop0, OP_apppl, OP_lenpl, OP_lentab, OP_inpl, OP_ninpl, OP_indk, OP_nindk, OP_setK, BQ_b, BP_t, BP_f, BP_d, BP_n, BP_eq, ↓reduceIte, Option.map_some, is_non_np, is_non_ng, is_non_tp, is_non_tg, is_non_fp, is_non_fg, is_bl_np, is_bl_ng, is_bl_tp, is_bl_tg, is_bl_fp, is_bl_fg, is_int_np, is_int_ng, is_int_tp, is_int_tg, is_int_fp, is_int_fg, is_str_np, is_str_ng, is_str_tp, is_str_tg, is_str_fp, is_str_fg, is_lst_np, is_lst_ng, is_lst_tp, is_lst_tg, is_lst_fp, is_lst_fg, is_tup_np, is_tup_ng, is_tup_tp, is_tup_tg, is_tup_fp, is_tup_fg, isi_non_int, isi_non_bool, isi_non_list, isi_non_tuple, isi_non_str, isi_non_dict, isi_non_lt, isi_bl_int, isi_bl_bool, isi_bl_list, isi_bl_tuple, isi_bl_str, isi_bl_dict, isi_bl_lt, isi_int_int, isi_int_bool, isi_int_list, isi_int_tuple, isi_int_str, isi_int_dict, isi_int_lt, isi_str_int, isi_str_bool, isi_str_list, isi_str_tuple, isi_str_str, isi_str_dict, isi_str_lt, isi_lst_int, isi_lst_bool, isi_lst_list, isi_lst_tuple, isi_lst_str, isi_lst_dict, isi_lst_lt, isi_tup_int, isi_tup_bool, isi_tup_list, isi_tup_tuple, isi_tup_str, isi_tup_dict, isi_tup_lt,  at0, at1, at2, at3, set0, set1, set2, setD_l, fillIO, putIO, ioN, permO, wpE_n, wpE_c, rst_n, rst_c, isFl, List.map_cons, List.map_nil, List.cons_append, List.nil_append, List.append_nil, List.replicate_succ, List.replicate_zero, Nat.reduceSub, Nat.reduceAdd, List.getElem?_cons_zero, List.getElem?_cons_succ, List.getD_cons_zero, List.getD_cons_succ, List.set_cons_zero, List.set_cons_succ, List.length_cons, List.length_nil, List.map_append])
    refine ix i _ ?_
    rw [show atI l (i : Int) = some l[i] from atI_of (List.getElem?_eq_getElem hi2)]
    (try simp only [RP_varm, RP_holem, RP_c, RP_1, RP_2, RP_3, RP_f, RP_nil, RP_cons, RP_if, RP_and, RP_or, RP_not, RP_B, RP_qt, RP_perm, RP_pn, RP_ps, RP_sl, RP_call, RP_src2, SrcP_l, SrcP_t, SrcP_pl, SrcP_row, SrcP_tab, RP_r1, RP_r2, RP_en2, EnP_l, EnP_row, EnP_tab, LsP_l, LsP_pl, RP_lc, RP_yes, RP_pop, RP_lr, RP_fl, RP_dct1, RP_asL,  SP_nx, SP_seq, SP_drop, SP_ret, SP_set, SP_if, SP_sub, SP_sub2, SP_app, SP_app2, SP_tgt, SP_par, SP_parO, SP_str, SP_uT, SP_uN, SP_uC, SP_uS, SP_subK, SP_for, FP_fn, OP_gT, OP_gC, OP_gE, OP_some, OP_map, OP_add, OP_sub, OP_mul, OP_fdiv, OP_fmod, OP_pow, OP_neg, OP_lt, OP_le, OP_gt, OP_ge, OP_eqi, OP_nei, OP_bits, OP_int, OP_intb, OP_tup, OP_lst, OP_lenl, OP_lent, OP_lenf, OP_abs, OP_max2, OP_min2, OP_gcd, OP_ixl, OP_ixt, OP_ixf, OP_cat, OP_rep, OP_subb, OP_gN, OP_eqs, OP_eq00, OP_ne00, OP_dct1, OP_nepl, OP_eqpl, OP_isLp, OP_pop0, OP_apppl, OP_lenpl, OP_lentab, OP_inpl, OP_ninpl, OP_indk, OP_nindk, OP_setK, BQ_b, BP_t, BP_f, BP_d, BP_n, BP_eq, ↓reduceIte, Option.map_some, is_non_np, is_non_ng, is_non_tp, is_non_tg, is_non_fp, is_non_fg, is_bl_np, is_bl_ng, is_bl_tp, is_bl_tg, is_bl_fp, is_bl_fg, is_int_np, is_int_ng, is_int_tp, is_int_tg, is_int_fp, is_int_fg, is_str_np, is_str_ng, is_str_tp, is_str_tg, is_str_fp, is_str_fg, is_lst_np, is_lst_ng, is_lst_tp, is_lst_tg, is_lst_fp, is_lst_fg, is_tup_np, is_tup_ng, is_tup_tp, is_tup_tg, is_tup_fp, is_tup_fg, isi_non_int, isi_non_bool, isi_non_list, isi_non_tuple, isi_non_str, isi_non_dict, isi_non_lt, isi_bl_int, isi_bl_bool, isi_bl_list, isi_bl_tuple, isi_bl_str, isi_bl_dict, isi_bl_lt, isi_int_int, isi_int_bool, isi_int_list, isi_int_tuple, isi_int_str, isi_int_dict, isi_int_lt, isi_str_int, isi_str_bool, isi_str_list, isi_str_tuple, isi_str_str, isi_str_dict, isi_str_lt, isi_lst_int, isi_lst_bool, isi_lst_list, isi_lst_tuple, isi_lst_str, isi_lst_dict, isi_lst_lt, isi_tup_int, isi_tup_bool, isi_tup_list, isi_tup_tuple, isi_tup_str, isi_tup_dict, isi_tup_lt,  at0, at1, at2, at3, set0, set1, set2, setD_l, fillIO, putIO, ioN, permO, wpE_n, wpE_c, rst_n, rst_c, isFl, List.map_cons, List.map_nil, List.cons_append, List.nil_append, List.append_nil, List.replicate_succ, List.replicate_zero, Nat.reduceSub, Nat.reduceAdd, List.getElem?_cons_zero, List.getElem?_cons_succ, List.getD_cons_zero, List.getD_cons_succ, List.set_cons_zero, List.set_cons_succ, List.length_cons, List.length_nil, List.map_append])
    refine hl l[i] (List.getElem_mem hi2) _ fun e => ?_
    (try simp only [RP_varm, RP_holem, RP_c, RP_1, RP_2, RP_3, RP_f, RP_nil, RP_cons, RP_if, RP_and, RP_or, RP_not, RP_B, RP_qt, RP_perm, RP_pn, RP_ps, RP_sl, RP_call, RP_src2, SrcP_l, SrcP_t, SrcP_pl, SrcP_row, SrcP_tab, RP_r1, RP_r2, RP_en2, EnP_l, EnP_row, EnP_tab, LsP_l, LsP_pl, RP_lc, RP_yes, RP_pop, RP_lr, RP_fl, RP_dct1, RP_asL,  SP_nx, SP_seq, SP_drop, SP_ret, SP_set, SP_if, SP_sub, SP_sub2, SP_app, SP_app2, SP_tgt, SP_par, SP_parO, SP_str, SP_uT, SP_uN, SP_uC, SP_uS, SP_subK, SP_for, FP_fn, OP_gT, OP_gC, OP_gE, OP_some, OP_map, OP_add, OP_sub, OP_mul, OP_fdiv, OP_fmod, OP_pow, OP_neg, OP_lt, OP_le, OP_gt, OP_ge, OP_eqi, OP_nei, OP_bits, OP_int, OP_intb, OP_tup, OP_lst, OP_lenl, OP_lent, OP_lenf, OP_abs, OP_max2, OP_min2, OP_gcd, OP_ixl, OP_ixt, OP_ixf, OP_cat, OP_rep, OP_subb, OP_gN, OP_eqs, OP_eq00, OP_ne00, OP_dct1, OP_nepl, OP_eqpl, OP_isLp, OP_pop0, OP_apppl, OP_lenpl, OP_lentab, OP_inpl, OP_ninpl, OP_indk, OP_nindk, OP_setK, BQ_b, BP_t, BP_f, BP_d, BP_n, BP_eq, ↓reduceIte, Option.map_some, is_non_np, is_non_ng, is_non_tp, is_non_tg, is_non_fp, is_non_fg, is_bl_np, is_bl_ng, is_bl_tp, is_bl_tg, is_bl_fp, is_bl_fg, is_int_np, is_int_ng, is_int_tp, is_int_tg, is_int_fp, is_int_fg, is_str_np, is_str_ng, is_str_tp, is_str_tg, is_str_fp, is_str_fg, is_lst_np, is_lst_ng, is_lst_tp, is_lst_tg, is_lst_fp, is_lst_fg, is_tup_np, is_tup_ng, is_tup_tp, is_tup_tg, is_tup_fp, is_tup_fg, isi_non_int, isi_non_bool, isi_non_list, isi_non_tuple, isi_non_str, isi_non_dict, isi_non_lt, isi_bl_int, isi_bl_bool, isi_bl_list, isi_bl_tuple, isi_bl_str, isi_bl_dict, isi_bl_lt, isi_int_int, isi_int_bool, isi_int_list, isi_int_tuple, isi_int_str, isi_int_dict, isi_int_lt, isi_str_int, isi_str_bool, isi_str_list, isi_str_tuple, isi_str_str, isi_str_dict, isi_str_lt, isi_lst_int, isi_lst_bool, isi_lst_list, isi_lst_tuple, isi_lst_str, isi_lst_dict, isi_lst_lt, isi_tup_int, isi_tup_bool, isi_tup_list, isi_tup_tuple, isi_tup_str, isi_tup_dict, isi_tup_lt,  at0, at1, at2, at3, set0, set1, set2, setD_l, fillIO, putIO, ioN, permO, wpE_n, wpE_c, rst_n, rst_c, isFl, List.map_cons, List.map_nil, List.cons_append, List.nil_append, List.append_nil, List.replicate_succ, List.replicate_zero, Nat.reduceSub, Nat.reduceAdd, List.getElem?_cons_zero, List.getElem?_cons_succ, List.getD_cons_zero, List.getD_cons_succ, List.set_cons_zero, List.set_cons_succ, List.length_cons, List.length_nil, List.map_append])
    exact ih (i + 1) none (by omega)
theorem sp_same : ∀ (n : Nat) (d : D) {Q : D → Sl → Prop}, okSame n d → (∀ e, Q (.bl true) e) → FP (m_law_same n [d, d]) Q
  | 0, _, _, h, _ => h.elim
  | n + 1, d, Q, h, q => by
    rw [e_law_same]
    unfold b_law_same
    cases d with
    | non =>
      (try simp only [RP_varm, RP_holem, RP_c, RP_1, RP_2, RP_3, RP_f, RP_nil, RP_cons, RP_if, RP_and, RP_or, RP_not, RP_B, RP_qt, RP_perm, RP_pn, RP_ps, RP_sl, RP_call, RP_src2, SrcP_l, SrcP_t, SrcP_pl, SrcP_row, SrcP_tab, RP_r1, RP_r2, RP_en2, EnP_l, EnP_row, EnP_tab, LsP_l, LsP_pl, RP_lc, RP_yes, RP_pop, RP_lr, RP_fl, RP_dct1, RP_asL,  SP_nx, SP_seq, SP_drop, SP_ret, SP_set, SP_if, SP_sub, SP_sub2, SP_app, SP_app2, SP_tgt, SP_par, SP_parO, SP_str, SP_uT, SP_uN, SP_uC, SP_uS, SP_subK, SP_for, FP_fn, OP_gT, OP_gC, OP_gE, OP_some, OP_map, OP_add, OP_sub, OP_mul, OP_fdiv, OP_fmod, OP_pow, OP_neg, OP_lt, OP_le, OP_gt, OP_ge, OP_eqi, OP_nei, OP_bits, OP_int, OP_intb, OP_tup, OP_lst, OP_lenl, OP_lent, OP_lenf, OP_abs, OP_max2, OP_min2, OP_gcd, OP_ixl, OP_ixt, OP_ixf, OP_cat, OP_rep, OP_subb, OP_gN, OP_eqs, OP_eq00, OP_ne00, OP_dct1, OP_nepl, OP_eqpl, OP_isLp, OP_pop0, OP_apppl, OP_lenpl, OP_lentab, OP_inpl, OP_ninpl, OP_indk, OP_nindk, OP_setK, BQ_b, BP_t, BP_f, BP_d, BP_n, BP_eq, ↓reduceIte, Option.map_some, is_non_np, is_non_ng, is_non_tp, is_non_tg, is_non_fp, is_non_fg, is_bl_np, is_bl_ng, is_bl_tp, is_bl_tg, is_bl_fp, is_bl_fg, is_int_np, is_int_ng, is_int_tp, is_int_tg, is_int_fp, is_int_fg, is_str_np, is_str_ng, is_str_tp, is_str_tg, is_str_fp, is_str_fg, is_lst_np, is_lst_ng, is_lst_tp, is_lst_tg, is_lst_fp, is_lst_fg, is_tup_np, is_tup_ng, is_tup_tp, is_tup_tg, is_tup_fp, is_tup_fg, isi_non_int, isi_non_bool, isi_non_list, isi_non_tuple, isi_non_str, isi_non_dict, isi_non_lt, isi_bl_int, isi_bl_bool, isi_bl_list, isi_bl_tuple, isi_bl_str, isi_bl_dict, isi_bl_lt, isi_int_int, isi_int_bool, isi_int_list, isi_int_tuple, isi_int_str, isi_int_dict, isi_int_lt, isi_str_int, isi_str_bool, isi_str_list, isi_str_tuple, isi_str_str, isi_str_dict, isi_str_lt, isi_lst_int, isi_lst_bool, isi_lst_list, isi_lst_tuple, isi_lst_str, isi_lst_dict, isi_lst_lt, isi_tup_int, isi_tup_bool, isi_tup_list, isi_tup_tuple, isi_tup_str, isi_tup_dict, isi_tup_lt,  at0, at1, at2, at3, set0, set1, set2, setD_l, fillIO, putIO, ioN, permO, wpE_n, wpE_c, rst_n, rst_c, isFl, List.map_cons, List.map_nil, List.cons_append, List.nil_append, List.append_nil, List.replicate_succ, List.replicate_zero, Nat.reduceSub, Nat.reduceAdd, List.getElem?_cons_zero, List.getElem?_cons_succ, List.getD_cons_zero, List.getD_cons_succ, List.set_cons_zero, List.set_cons_succ, List.length_cons, List.length_nil, List.map_append])
      exact q _
    | bl b =>
      cases b
      · (try simp only [RP_varm, RP_holem, RP_c, RP_1, RP_2, RP_3, RP_f, RP_nil, RP_cons, RP_if, RP_and, RP_or, RP_not, RP_B, RP_qt, RP_perm, RP_pn, RP_ps, RP_sl, RP_call, RP_src2, SrcP_l, SrcP_t, SrcP_pl, SrcP_row, SrcP_tab, RP_r1, RP_r2, RP_en2, EnP_l, EnP_row, EnP_tab, LsP_l, LsP_pl, RP_lc, RP_yes, RP_pop, RP_lr, RP_fl, RP_dct1, RP_asL,  SP_nx, SP_seq, SP_drop, SP_ret, SP_set, SP_if, SP_sub, SP_sub2, SP_app, SP_app2, SP_tgt, SP_par, SP_parO, SP_str, SP_uT, SP_uN, SP_uC, SP_uS, SP_subK, SP_for, FP_fn, OP_gT, OP_gC, OP_gE, OP_some, OP_map, OP_add, OP_sub, OP_mul, OP_fdiv, OP_fmod, OP_pow, OP_neg, OP_lt, OP_le, OP_gt, OP_ge, OP_eqi, OP_nei, OP_bits, OP_int, OP_intb, OP_tup, OP_lst, OP_lenl, OP_lent, OP_lenf, OP_abs, OP_max2, OP_min2, OP_gcd, OP_ixl, OP_ixt, OP_ixf, OP_cat, OP_rep, OP_subb, OP_gN, OP_eqs, OP_eq00, OP_ne00, OP_dct1, OP_nepl, OP_eqpl, OP_isLp, OP_pop0, OP_apppl, OP_lenpl, OP_lentab, OP_inpl, OP_ninpl, OP_indk, OP_nindk, OP_setK, BQ_b, BP_t, BP_f, BP_d, BP_n, BP_eq, ↓reduceIte, Option.map_some, is_non_np, is_non_ng, is_non_tp, is_non_tg, is_non_fp, is_non_fg, is_bl_np, is_bl_ng, is_bl_tp, is_bl_tg, is_bl_fp, is_bl_fg, is_int_np, is_int_ng, is_int_tp, is_int_tg, is_int_fp, is_int_fg, is_str_np, is_str_ng, is_str_tp, is_str_tg, is_str_fp, is_str_fg, is_lst_np, is_lst_ng, is_lst_tp, is_lst_tg, is_lst_fp, is_lst_fg, is_tup_np, is_tup_ng, is_tup_tp, is_tup_tg, is_tup_fp, is_tup_fg, isi_non_int, isi_non_bool, isi_non_list, isi_non_tuple, isi_non_str, isi_non_dict, isi_non_lt, isi_bl_int, isi_bl_bool, isi_bl_list, isi_bl_tuple, isi_bl_str, isi_bl_dict, isi_bl_lt, isi_int_int, isi_int_bool, isi_int_list, isi_int_tuple, isi_int_str, isi_int_dict, isi_int_lt, isi_str_int, isi_str_bool, isi_str_list, isi_str_tuple, isi_str_str, isi_str_dict, isi_str_lt, isi_lst_int, isi_lst_bool, isi_lst_list, isi_lst_tuple, isi_lst_str, isi_lst_dict, isi_lst_lt, isi_tup_int, isi_tup_bool, isi_tup_list, isi_tup_tuple, isi_tup_str, isi_tup_dict, isi_tup_lt,  at0, at1, at2, at3, set0, set1, set2, setD_l, fillIO, putIO, ioN, permO, wpE_n, wpE_c, rst_n, rst_c, isFl, List.map_cons, List.map_nil, List.cons_append, List.nil_append, List.append_nil, List.replicate_succ, List.replicate_zero, Nat.reduceSub, Nat.reduceAdd, List.getElem?_cons_zero, List.getElem?_cons_succ, List.getD_cons_zero, List.getD_cons_succ, List.set_cons_zero, List.set_cons_succ, List.length_cons, List.length_nil, List.map_append])
        exact q _
      · (try simp only [RP_varm, RP_holem, RP_c, RP_1, RP_2, RP_3, RP_f, RP_nil, RP_cons, RP_if, RP_and, RP_or, RP_not, RP_B, RP_qt, RP_perm, RP_pn, RP_ps, RP_sl, RP_call, RP_src2, SrcP_l, SrcP_t, SrcP_pl, SrcP_row, SrcP_tab, RP_r1, RP_r2, RP_en2, EnP_l, EnP_row, EnP_tab, LsP_l, LsP_pl, RP_lc, RP_yes, RP_pop, RP_lr, RP_fl, RP_dct1, RP_asL,  SP_nx, SP_seq, SP_drop, SP_ret, SP_set, SP_if, SP_sub, SP_sub2, SP_app, SP_app2, SP_tgt, SP_par, SP_parO, SP_str, SP_uT, SP_uN, SP_uC, SP_uS, SP_subK, SP_for, FP_fn, OP_gT, OP_gC, OP_gE, OP_some, OP_map, OP_add, OP_sub, OP_mul, OP_fdiv, OP_fmod, OP_pow, OP_neg, OP_lt, OP_le, OP_gt, OP_ge, OP_eqi, OP_nei, OP_bits, OP_int, OP_intb, OP_tup, OP_lst, OP_lenl, OP_lent, OP_lenf, OP_abs, OP_max2, OP_min2, OP_gcd, OP_ixl, OP_ixt, OP_ixf, OP_cat, OP_rep, OP_subb, OP_gN, OP_eqs, OP_eq00, OP_ne00, OP_dct1, OP_nepl, OP_eqpl, OP_isLp, OP_pop0, OP_apppl, OP_lenpl, OP_lentab, OP_inpl, OP_ninpl, OP_indk, OP_nindk, OP_setK, BQ_b, BP_t, BP_f, BP_d, BP_n, BP_eq, ↓reduceIte, Option.map_some, is_non_np, is_non_ng, is_non_tp, is_non_tg, is_non_fp, is_non_fg, is_bl_np, is_bl_ng, is_bl_tp, is_bl_tg, is_bl_fp, is_bl_fg, is_int_np, is_int_ng, is_int_tp, is_int_tg, is_int_fp, is_int_fg, is_str_np, is_str_ng, is_str_tp, is_str_tg, is_str_fp, is_str_fg, is_lst_np, is_lst_ng, is_lst_tp, is_lst_tg, is_lst_fp, is_lst_fg, is_tup_np, is_tup_ng, is_tup_tp, is_tup_tg, is_tup_fp, is_tup_fg, isi_non_int, isi_non_bool, isi_non_list, isi_non_tuple, isi_non_str, isi_non_dict, isi_non_lt, isi_bl_int, isi_bl_bool, isi_bl_list, isi_bl_tuple, isi_bl_str, isi_bl_dict, isi_bl_lt, isi_int_int, isi_int_bool, isi_int_list, isi_int_tuple, isi_int_str, isi_int_dict, isi_int_lt, isi_str_int, isi_str_bool, isi_str_list, isi_str_tuple, isi_str_str, isi_str_dict, isi_str_lt, isi_lst_int, isi_lst_bool, isi_lst_list, isi_lst_tuple, isi_lst_str, isi_lst_dict, isi_lst_lt, isi_tup_int, isi_tup_bool, isi_tup_list, isi_tup_tuple, isi_tup_str, isi_tup_dict, isi_tup_lt,  at0, at1, at2, at3, set0, set1, set2, setD_l, fillIO, putIO, ioN, permO, wpE_n, wpE_c, rst_n, rst_c, isFl, List.map_cons, List.map_nil, List.cons_append, List.nil_append, List.append_nil, List.replicate_succ, List.replicate_zero, Nat.reduceSub, Nat.reduceAdd, List.getElem?_cons_zero, List.getElem?_cons_succ, List.getD_cons_zero, List.getD_cons_succ, List.set_cons_zero, List.set_cons_succ, List.length_cons, List.length_nil, List.map_append])
        exact q _
    | int i =>
      (try simp only [RP_varm, RP_holem, RP_c, RP_1, RP_2, RP_3, RP_f, RP_nil, RP_cons, RP_if, RP_and, RP_or, RP_not, RP_B, RP_qt, RP_perm, RP_pn, RP_ps, RP_sl, RP_call, RP_src2, SrcP_l, SrcP_t, SrcP_pl, SrcP_row, SrcP_tab, RP_r1, RP_r2, RP_en2, EnP_l, EnP_row, EnP_tab, LsP_l, LsP_pl, RP_lc, RP_yes, RP_pop, RP_lr, RP_fl, RP_dct1, RP_asL,  SP_nx, SP_seq, SP_drop, SP_ret, SP_set, SP_if, SP_sub, SP_sub2, SP_app, SP_app2, SP_tgt, SP_par, SP_parO, SP_str, SP_uT, SP_uN, SP_uC, SP_uS, SP_subK, SP_for, FP_fn, OP_gT, OP_gC, OP_gE, OP_some, OP_map, OP_add, OP_sub, OP_mul, OP_fdiv, OP_fmod, OP_pow, OP_neg, OP_lt, OP_le, OP_gt, OP_ge, OP_eqi, OP_nei, OP_bits, OP_int, OP_intb, OP_tup, OP_lst, OP_lenl, OP_lent, OP_lenf, OP_abs, OP_max2, OP_min2, OP_gcd, OP_ixl, OP_ixt, OP_ixf, OP_cat, OP_rep, OP_subb, OP_gN, OP_eqs, OP_eq00, OP_ne00, OP_dct1, OP_nepl, OP_eqpl, OP_isLp, OP_pop0, OP_apppl, OP_lenpl, OP_lentab, OP_inpl, OP_ninpl, OP_indk, OP_nindk, OP_setK, BQ_b, BP_t, BP_f, BP_d, BP_n, BP_eq, ↓reduceIte, Option.map_some, is_non_np, is_non_ng, is_non_tp, is_non_tg, is_non_fp, is_non_fg, is_bl_np, is_bl_ng, is_bl_tp, is_bl_tg, is_bl_fp, is_bl_fg, is_int_np, is_int_ng, is_int_tp, is_int_tg, is_int_fp, is_int_fg, is_str_np, is_str_ng, is_str_tp, is_str_tg, is_str_fp, is_str_fg, is_lst_np, is_lst_ng, is_lst_tp, is_lst_tg, is_lst_fp, is_lst_fg, is_tup_np, is_tup_ng, is_tup_tp, is_tup_tg, is_tup_fp, is_tup_fg, isi_non_int, isi_non_bool, isi_non_list, isi_non_tuple, isi_non_str, isi_non_dict, isi_non_lt, isi_bl_int, isi_bl_bool, isi_bl_list, isi_bl_tuple, isi_bl_str, isi_bl_dict, isi_bl_lt, isi_int_int, isi_int_bool, isi_int_list, isi_int_tuple, isi_int_str, isi_int_dict, isi_int_lt, isi_str_int, isi_str_bool, isi_str_list, isi_str_tuple, isi_str_str, isi_str_dict, isi_str_lt, isi_lst_int, isi_lst_bool, isi_lst_list, isi_lst_tuple, isi_lst_str, isi_lst_dict, isi_lst_lt, isi_tup_int, isi_tup_bool, isi_tup_list, isi_tup_tuple, isi_tup_str, isi_tup_dict, isi_tup_lt,  at0, at1, at2, at3, set0, set1, set2, setD_l, fillIO, putIO, ioN, permO, wpE_n, wpE_c, rst_n, rst_c, isFl, List.map_cons, List.map_nil, List.cons_append, List.nil_append, List.append_nil, List.replicate_succ, List.replicate_zero, Nat.reduceSub, Nat.reduceAdd, List.getElem?_cons_zero, List.getElem?_cons_succ, List.getD_cons_zero, List.getD_cons_succ, List.set_cons_zero, List.set_cons_succ, List.length_cons, List.length_nil, List.map_append])
      rw [show (i == i) = true by simp]
      exact ⟨by decide, q _⟩
    | str x =>
      (try simp only [RP_varm, RP_holem, RP_c, RP_1, RP_2, RP_3, RP_f, RP_nil, RP_cons, RP_if, RP_and, RP_or, RP_not, RP_B, RP_qt, RP_perm, RP_pn, RP_ps, RP_sl, RP_call, RP_src2, SrcP_l, SrcP_t, SrcP_pl, SrcP_row, SrcP_tab, RP_r1, RP_r2, RP_en2, EnP_l, EnP_row, EnP_tab, LsP_l, LsP_pl, RP_lc, RP_yes, RP_pop, RP_lr, RP_fl, RP_dct1, RP_asL,  SP_nx, SP_seq, SP_drop, SP_ret, SP_set, SP_if, SP_sub, SP_sub2, SP_app, SP_app2, SP_tgt, SP_par, SP_parO, SP_str, SP_uT, SP_uN, SP_uC, SP_uS, SP_subK, SP_for, FP_fn, OP_gT, OP_gC, OP_gE, OP_some, OP_map, OP_add, OP_sub, OP_mul, OP_fdiv, OP_fmod, OP_pow, OP_neg, OP_lt, OP_le, OP_gt, OP_ge, OP_eqi, OP_nei, OP_bits, OP_int, OP_intb, OP_tup, OP_lst, OP_lenl, OP_lent, OP_lenf, OP_abs, OP_max2, OP_min2, OP_gcd, OP_ixl, OP_ixt, OP_ixf, OP_cat, OP_rep, OP_subb, OP_gN, OP_eqs, OP_eq00, OP_ne00, OP_dct1, OP_nepl, OP_eqpl, OP_isLp, OP_pop0, OP_apppl, OP_lenpl, OP_lentab, OP_inpl, OP_ninpl, OP_indk, OP_nindk, OP_setK, BQ_b, BP_t, BP_f, BP_d, BP_n, BP_eq, ↓reduceIte, Option.map_some, is_non_np, is_non_ng, is_non_tp, is_non_tg, is_non_fp, is_non_fg, is_bl_np, is_bl_ng, is_bl_tp, is_bl_tg, is_bl_fp, is_bl_fg, is_int_np, is_int_ng, is_int_tp, is_int_tg, is_int_fp, is_int_fg, is_str_np, is_str_ng, is_str_tp, is_str_tg, is_str_fp, is_str_fg, is_lst_np, is_lst_ng, is_lst_tp, is_lst_tg, is_lst_fp, is_lst_fg, is_tup_np, is_tup_ng, is_tup_tp, is_tup_tg, is_tup_fp, is_tup_fg, isi_non_int, isi_non_bool, isi_non_list, isi_non_tuple, isi_non_str, isi_non_dict, isi_non_lt, isi_bl_int, isi_bl_bool, isi_bl_list, isi_bl_tuple, isi_bl_str, isi_bl_dict, isi_bl_lt, isi_int_int, isi_int_bool, isi_int_list, isi_int_tuple, isi_int_str, isi_int_dict, isi_int_lt, isi_str_int, isi_str_bool, isi_str_list, isi_str_tuple, isi_str_str, isi_str_dict, isi_str_lt, isi_lst_int, isi_lst_bool, isi_lst_list, isi_lst_tuple, isi_lst_str, isi_lst_dict, isi_lst_lt, isi_tup_int, isi_tup_bool, isi_tup_list, isi_tup_tuple, isi_tup_str, isi_tup_dict, isi_tup_lt,  at0, at1, at2, at3, set0, set1, set2, setD_l, fillIO, putIO, ioN, permO, wpE_n, wpE_c, rst_n, rst_c, isFl, List.map_cons, List.map_nil, List.cons_append, List.nil_append, List.append_nil, List.replicate_succ, List.replicate_zero, Nat.reduceSub, Nat.reduceAdd, List.getElem?_cons_zero, List.getElem?_cons_succ, List.getD_cons_zero, List.getD_cons_succ, List.set_cons_zero, List.set_cons_succ, List.length_cons, List.length_nil, List.map_append])
      rw [decide_true]
      exact ⟨by decide, q _⟩
    | lst l =>
      obtain ⟨h1, h2⟩ := h
      (try simp only [RP_varm, RP_holem, RP_c, RP_1, RP_2, RP_3, RP_f, RP_nil, RP_cons, RP_if, RP_and, RP_or, RP_not, RP_B, RP_qt, RP_perm, RP_pn, RP_ps, RP_sl, RP_call, RP_src2, SrcP_l, SrcP_t, SrcP_pl, SrcP_row, SrcP_tab, RP_r1, RP_r2, RP_en2, EnP_l, EnP_row, EnP_tab, LsP_l, LsP_pl, RP_lc, RP_yes, RP_pop, RP_lr, RP_fl, RP_dct1, RP_asL,  SP_nx, SP_seq, SP_drop, SP_ret, SP_set, SP_if, SP_sub, SP_sub2, SP_app, SP_app2, SP_tgt, SP_par, SP_parO, SP_str, SP_uT, SP_uN, SP_uC, SP_uS, SP_subK, SP_for, FP_fn, OP_gT, OP_gC, OP_gE, OP_some, OP_map, OP_add, OP_sub, OP_mul, OP_fdiv, OP_fmod, OP_pow, OP_neg, OP_lt, OP_le, OP_gt, OP_ge, OP_eqi, OP_nei, OP_bits, OP_int, OP_intb, OP_tup, OP_lst, OP_lenl, OP_lent, OP_lenf, OP_abs, OP_max2, OP_min2, OP_gcd, OP_ixl, OP_ixt, OP_ixf, OP_cat, OP_rep, OP_subb, OP_gN, OP_eqs, OP_eq00, OP_ne00, OP_dct1, OP_nepl, OP_eqpl, OP_isLp, OP_pop0, OP_apppl, OP_lenpl, OP_lentab, OP_inpl, OP_ninpl, OP_indk, OP_nindk, OP_setK, BQ_b, BP_t, BP_f, BP_d, BP_n, BP_eq, ↓reduceIte, Option.map_some, is_non_np, is_non_ng, is_non_tp, is_non_tg, is_non_fp, is_non_fg, is_bl_np, is_bl_ng, is_bl_tp, is_bl_tg, is_bl_fp, is_bl_fg, is_int_np, is_int_ng, is_int_tp, is_int_tg, is_int_fp, is_int_fg, is_str_np, is_str_ng, is_str_tp, is_str_tg, is_str_fp, is_str_fg, is_lst_np, is_lst_ng, is_lst_tp, is_lst_tg, is_lst_fp, is_lst_fg, is_tup_np, is_tup_ng, is_tup_tp, is_tup_tg, is_tup_fp, is_tup_fg, isi_non_int, isi_non_bool, isi_non_list, isi_non_tuple, isi_non_str, isi_non_dict, isi_non_lt, isi_bl_int, isi_bl_bool, isi_bl_list, isi_bl_tuple, isi_bl_str, isi_bl_dict, isi_bl_lt, isi_int_int, isi_int_bool, isi_int_list, isi_int_tuple, isi_int_str, isi_int_dict, isi_int_lt, isi_str_int, isi_str_bool, isi_str_list, isi_str_tuple, isi_str_str, isi_str_dict, isi_str_lt, isi_lst_int, isi_lst_bool, isi_lst_list, isi_lst_tuple, isi_lst_str, isi_lst_dict, isi_lst_lt, isi_tup_int, isi_tup_bool, isi_tup_list, isi_tup_tuple, isi_tup_str, isi_tup_dict, isi_tup_lt,  at0, at1, at2, at3, set0, set1, set2, setD_l, fillIO, putIO, ioN, permO, wpE_n, wpE_c, rst_n, rst_c, isFl, List.map_cons, List.map_nil, List.cons_append, List.nil_append, List.append_nil, List.replicate_succ, List.replicate_zero, Nat.reduceSub, Nat.reduceAdd, List.getElem?_cons_zero, List.getElem?_cons_succ, List.getD_cons_zero, List.getD_cons_succ, List.set_cons_zero, List.set_cons_succ, List.length_cons, List.length_nil, List.map_append])
      refine ⟨by decide, fun _ => ⟨lim_rok h1, ?_⟩, fun h => absurd trivial h⟩
      refine seq_same (b := .lst l) (fun i Q h => by rw [OP_ixl]; exact h) (fun d hd Q q => sp_same n d (h2 d hd) q) (fun e => ?_) l.length 0 _ (by omega)
      rw [show D.eq (.lst []) (.lst []) = some (.bl true) from rfl]
      (try simp only [RP_varm, RP_holem, RP_c, RP_1, RP_2, RP_3, RP_f, RP_nil, RP_cons, RP_if, RP_and, RP_or, RP_not, RP_B, RP_qt, RP_perm, RP_pn, RP_ps, RP_sl, RP_call, RP_src2, SrcP_l, SrcP_t, SrcP_pl, SrcP_row, SrcP_tab, RP_r1, RP_r2, RP_en2, EnP_l, EnP_row, EnP_tab, LsP_l, LsP_pl, RP_lc, RP_yes, RP_pop, RP_lr, RP_fl, RP_dct1, RP_asL,  SP_nx, SP_seq, SP_drop, SP_ret, SP_set, SP_if, SP_sub, SP_sub2, SP_app, SP_app2, SP_tgt, SP_par, SP_parO, SP_str, SP_uT, SP_uN, SP_uC, SP_uS, SP_subK, SP_for, FP_fn, OP_gT, OP_gC, OP_gE, OP_some, OP_map, OP_add, OP_sub, OP_mul, OP_fdiv, OP_fmod, OP_pow, OP_neg, OP_lt, OP_le, OP_gt, OP_ge, OP_eqi, OP_nei, OP_bits, OP_int, OP_intb, OP_tup, OP_lst, OP_lenl, OP_lent, OP_lenf, OP_abs, OP_max2, OP_min2, OP_gcd, OP_ixl, OP_ixt, OP_ixf, OP_cat, OP_rep, OP_subb, OP_gN, OP_eqs, OP_eq00, OP_ne00, OP_dct1, OP_nepl, OP_eqpl, OP_isLp, OP_pop0, OP_apppl, OP_lenpl, OP_lentab, OP_inpl, OP_ninpl, OP_indk, OP_nindk, OP_setK, BQ_b, BP_t, BP_f, BP_d, BP_n, BP_eq, ↓reduceIte, Option.map_some, is_non_np, is_non_ng, is_non_tp, is_non_tg, is_non_fp, is_non_fg, is_bl_np, is_bl_ng, is_bl_tp, is_bl_tg, is_bl_fp, is_bl_fg, is_int_np, is_int_ng, is_int_tp, is_int_tg, is_int_fp, is_int_fg, is_str_np, is_str_ng, is_str_tp, is_str_tg, is_str_fp, is_str_fg, is_lst_np, is_lst_ng, is_lst_tp, is_lst_tg, is_lst_fp, is_lst_fg, is_tup_np, is_tup_ng, is_tup_tp, is_tup_tg, is_tup_fp, is_tup_fg, isi_non_int, isi_non_bool, isi_non_list, isi_non_tuple, isi_non_str, isi_non_dict, isi_non_lt, isi_bl_int, isi_bl_bool, isi_bl_list, isi_bl_tuple, isi_bl_str, isi_bl_dict, isi_bl_lt, isi_int_int, isi_int_bool, isi_int_list, isi_int_tuple, isi_int_str, isi_int_dict, isi_int_lt, isi_str_int, isi_str_bool, isi_str_list, isi_str_tuple, isi_str_str, isi_str_dict, isi_str_lt, isi_lst_int, isi_lst_bool, isi_lst_list, isi_lst_tuple, isi_lst_str, isi_lst_dict, isi_lst_lt, isi_tup_int, isi_tup_bool, isi_tup_list, isi_tup_tuple, isi_tup_str, isi_tup_dict, isi_tup_lt,  at0, at1, at2, at3, set0, set1, set2, setD_l, fillIO, putIO, ioN, permO, wpE_n, wpE_c, rst_n, rst_c, isFl, List.map_cons, List.map_nil, List.cons_append, List.nil_append, List.append_nil, List.replicate_succ, List.replicate_zero, Nat.reduceSub, Nat.reduceAdd, List.getElem?_cons_zero, List.getElem?_cons_succ, List.getD_cons_zero, List.getD_cons_succ, List.set_cons_zero, List.set_cons_succ, List.length_cons, List.length_nil, List.map_append])
      exact ⟨by decide, by decide, q _⟩
    | tup l =>
      obtain ⟨h1, h2⟩ := h
      (try simp only [RP_varm, RP_holem, RP_c, RP_1, RP_2, RP_3, RP_f, RP_nil, RP_cons, RP_if, RP_and, RP_or, RP_not, RP_B, RP_qt, RP_perm, RP_pn, RP_ps, RP_sl, RP_call, RP_src2, SrcP_l, SrcP_t, SrcP_pl, SrcP_row, SrcP_tab, RP_r1, RP_r2, RP_en2, EnP_l, EnP_row, EnP_tab, LsP_l, LsP_pl, RP_lc, RP_yes, RP_pop, RP_lr, RP_fl, RP_dct1, RP_asL,  SP_nx, SP_seq, SP_drop, SP_ret, SP_set, SP_if, SP_sub, SP_sub2, SP_app, SP_app2, SP_tgt, SP_par, SP_parO, SP_str, SP_uT, SP_uN, SP_uC, SP_uS, SP_subK, SP_for, FP_fn, OP_gT, OP_gC, OP_gE, OP_some, OP_map, OP_add, OP_sub, OP_mul, OP_fdiv, OP_fmod, OP_pow, OP_neg, OP_lt, OP_le, OP_gt, OP_ge, OP_eqi, OP_nei, OP_bits, OP_int, OP_intb, OP_tup, OP_lst, OP_lenl, OP_lent, OP_lenf, OP_abs, OP_max2, OP_min2, OP_gcd, OP_ixl, OP_ixt, OP_ixf, OP_cat, OP_rep, OP_subb, OP_gN, OP_eqs, OP_eq00, OP_ne00, OP_dct1, OP_nepl, OP_eqpl, OP_isLp, OP_pop0, OP_apppl, OP_lenpl, OP_lentab, OP_inpl, OP_ninpl, OP_indk, OP_nindk, OP_setK, BQ_b, BP_t, BP_f, BP_d, BP_n, BP_eq, ↓reduceIte, Option.map_some, is_non_np, is_non_ng, is_non_tp, is_non_tg, is_non_fp, is_non_fg, is_bl_np, is_bl_ng, is_bl_tp, is_bl_tg, is_bl_fp, is_bl_fg, is_int_np, is_int_ng, is_int_tp, is_int_tg, is_int_fp, is_int_fg, is_str_np, is_str_ng, is_str_tp, is_str_tg, is_str_fp, is_str_fg, is_lst_np, is_lst_ng, is_lst_tp, is_lst_tg, is_lst_fp, is_lst_fg, is_tup_np, is_tup_ng, is_tup_tp, is_tup_tg, is_tup_fp, is_tup_fg, isi_non_int, isi_non_bool, isi_non_list, isi_non_tuple, isi_non_str, isi_non_dict, isi_non_lt, isi_bl_int, isi_bl_bool, isi_bl_list, isi_bl_tuple, isi_bl_str, isi_bl_dict, isi_bl_lt, isi_int_int, isi_int_bool, isi_int_list, isi_int_tuple, isi_int_str, isi_int_dict, isi_int_lt, isi_str_int, isi_str_bool, isi_str_list, isi_str_tuple, isi_str_str, isi_str_dict, isi_str_lt, isi_lst_int, isi_lst_bool, isi_lst_list, isi_lst_tuple, isi_lst_str, isi_lst_dict, isi_lst_lt, isi_tup_int, isi_tup_bool, isi_tup_list, isi_tup_tuple, isi_tup_str, isi_tup_dict, isi_tup_lt,  at0, at1, at2, at3, set0, set1, set2, setD_l, fillIO, putIO, ioN, permO, wpE_n, wpE_c, rst_n, rst_c, isFl, List.map_cons, List.map_nil, List.cons_append, List.nil_append, List.append_nil, List.replicate_succ, List.replicate_zero, Nat.reduceSub, Nat.reduceAdd, List.getElem?_cons_zero, List.getElem?_cons_succ, List.getD_cons_zero, List.getD_cons_succ, List.set_cons_zero, List.set_cons_succ, List.length_cons, List.length_nil, List.map_append])
      refine ⟨by decide, fun _ => ⟨lim_rok h1, ?_⟩, fun h => absurd trivial h⟩
      refine seq_same (b := .tup l) (fun i Q h => by rw [OP_ixt]; exact h) (fun d hd Q q => sp_same n d (h2 d hd) q) (fun e => ?_) l.length 0 _ (by omega)
      rw [show D.eq (.lst []) (.lst []) = some (.bl true) from rfl]
      (try simp only [RP_varm, RP_holem, RP_c, RP_1, RP_2, RP_3, RP_f, RP_nil, RP_cons, RP_if, RP_and, RP_or, RP_not, RP_B, RP_qt, RP_perm, RP_pn, RP_ps, RP_sl, RP_call, RP_src2, SrcP_l, SrcP_t, SrcP_pl, SrcP_row, SrcP_tab, RP_r1, RP_r2, RP_en2, EnP_l, EnP_row, EnP_tab, LsP_l, LsP_pl, RP_lc, RP_yes, RP_pop, RP_lr, RP_fl, RP_dct1, RP_asL,  SP_nx, SP_seq, SP_drop, SP_ret, SP_set, SP_if, SP_sub, SP_sub2, SP_app, SP_app2, SP_tgt, SP_par, SP_parO, SP_str, SP_uT, SP_uN, SP_uC, SP_uS, SP_subK, SP_for, FP_fn, OP_gT, OP_gC, OP_gE, OP_some, OP_map, OP_add, OP_sub, OP_mul, OP_fdiv, OP_fmod, OP_pow, OP_neg, OP_lt, OP_le, OP_gt, OP_ge, OP_eqi, OP_nei, OP_bits, OP_int, OP_intb, OP_tup, OP_lst, OP_lenl, OP_lent, OP_lenf, OP_abs, OP_max2, OP_min2, OP_gcd, OP_ixl, OP_ixt, OP_ixf, OP_cat, OP_rep, OP_subb, OP_gN, OP_eqs, OP_eq00, OP_ne00, OP_dct1, OP_nepl, OP_eqpl, OP_isLp, OP_pop0, OP_apppl, OP_lenpl, OP_lentab, OP_inpl, OP_ninpl, OP_indk, OP_nindk, OP_setK, BQ_b, BP_t, BP_f, BP_d, BP_n, BP_eq, ↓reduceIte, Option.map_some, is_non_np, is_non_ng, is_non_tp, is_non_tg, is_non_fp, is_non_fg, is_bl_np, is_bl_ng, is_bl_tp, is_bl_tg, is_bl_fp, is_bl_fg, is_int_np, is_int_ng, is_int_tp, is_int_tg, is_int_fp, is_int_fg, is_str_np, is_str_ng, is_str_tp, is_str_tg, is_str_fp, is_str_fg, is_lst_np, is_lst_ng, is_lst_tp, is_lst_tg, is_lst_fp, is_lst_fg, is_tup_np, is_tup_ng, is_tup_tp, is_tup_tg, is_tup_fp, is_tup_fg, isi_non_int, isi_non_bool, isi_non_list, isi_non_tuple, isi_non_str, isi_non_dict, isi_non_lt, isi_bl_int, isi_bl_bool, isi_bl_list, isi_bl_tuple, isi_bl_str, isi_bl_dict, isi_bl_lt, isi_int_int, isi_int_bool, isi_int_list, isi_int_tuple, isi_int_str, isi_int_dict, isi_int_lt, isi_str_int, isi_str_bool, isi_str_list, isi_str_tuple, isi_str_str, isi_str_dict, isi_str_lt, isi_lst_int, isi_lst_bool, isi_lst_list, isi_lst_tuple, isi_lst_str, isi_lst_dict, isi_lst_lt, isi_tup_int, isi_tup_bool, isi_tup_list, isi_tup_tuple, isi_tup_str, isi_tup_dict, isi_tup_lt,  at0, at1, at2, at3, set0, set1, set2, setD_l, fillIO, putIO, ioN, permO, wpE_n, wpE_c, rst_n, rst_c, isFl, List.map_cons, List.map_nil, List.cons_append, List.nil_append, List.append_nil, List.replicate_succ, List.replicate_zero, Nat.reduceSub, Nat.reduceAdd, List.getElem?_cons_zero, List.getElem?_cons_succ, List.getD_cons_zero, List.getD_cons_succ, List.set_cons_zero, List.set_cons_succ, List.length_cons, List.length_nil, List.map_append])
      exact ⟨by decide, by decide, q _⟩
    | _ => exact h.elim
theorem FP_same {n : Nat} {d e : D} {Q : D → Sl → Prop} (h : okSame n d) (he : d = e) (q : ∀ e, Q (.bl true) e) : FP (m_law_same n [d, e]) Q := he ▸ sp_same n d h q
end M3

/-! PT -/
set_option Elab.async false
set_option linter.all false
set_option maxRecDepth 100000
set_option maxHeartbeats 400000
namespace M3
open PySem PySem.Spec PyProof.Rows L2

/-! ### what tables, players, lots are -/
section
variable {i b : Int} {n : Nat} {Q : D → Sl → Prop}
theorem sp_whole (q : ∀ e, Q (.bl true) e) : FP (m_is_whole [.int i]) Q := by
  unfold m_is_whole b_is_whole
  (try simp only [RP_varm, RP_holem, RP_c, RP_1, RP_2, RP_3, RP_f, RP_nil, RP_cons, RP_if, RP_and, RP_or, RP_not, RP_B, RP_qt, RP_perm, RP_pn, RP_ps, RP_sl, RP_call, RP_src2, SrcP_l, SrcP_t, SrcP_pl, SrcP_row, SrcP_tab, RP_r1, RP_r2, RP_en2, EnP_l, EnP_row, EnP_tab, LsP_l, LsP_pl, RP_lc, RP_yes, RP_pop, RP_lr, RP_fl, RP_dct1, RP_asL,  SP_nx, SP_seq, SP_drop, SP_ret, SP_set, SP_if, SP_sub, SP_sub2, SP_app, SP_app2, SP_tgt, SP_par, SP_parO, SP_str, SP_uT, SP_uN, SP_uC, SP_uS, SP_subK, SP_for, FP_fn, OP_gT, OP_gC, OP_gE, OP_some, OP_map, OP_add, OP_sub, OP_mul, OP_fdiv, OP_fmod, OP_pow, OP_neg, OP_lt, OP_le, OP_gt, OP_ge, OP_eqi, OP_nei, OP_bits, OP_int, OP_intb, OP_tup, OP_lst, OP_lenl, OP_lent, OP_lenf, OP_abs, OP_max2, OP_min2, OP_gcd, OP_ixl, OP_ixt, OP_ixf, OP_cat, OP_rep, OP_subb, OP_gN, OP_eqs, OP_eq00, OP_ne00, OP_dct1, OP_nepl, OP_eqpl, OP_isLp, OP_pop0, OP_apppl, OP_lenpl, OP_lentab, OP_inpl, OP_ninpl, OP_indk, OP_nindk, OP_setK, BQ_b, BP_t, BP_f, BP_d, BP_n, BP_eq, ↓reduceIte, Option.map_some, is_non_np, is_non_ng, is_non_tp, is_non_tg, is_non_fp, is_non_fg, is_bl_np, is_bl_ng, is_bl_tp, is_bl_tg, is_bl_fp, is_bl_fg, is_int_np, is_int_ng, is_int_tp, is_int_tg, is_int_fp, is_int_fg, is_str_np, is_str_ng, is_str_tp, is_str_tg, is_str_fp, is_str_fg, is_lst_np, is_lst_ng, is_lst_tp, is_lst_tg, is_lst_fp, is_lst_fg, is_tup_np, is_tup_ng, is_tup_tp, is_tup_tg, is_tup_fp, is_tup_fg, isi_non_int, isi_non_bool, isi_non_list, isi_non_tuple, isi_non_str, isi_non_dict, isi_non_lt, isi_bl_int, isi_bl_bool, isi_bl_list, isi_bl_tuple, isi_bl_str, isi_bl_dict, isi_bl_lt, isi_int_int, isi_int_bool, isi_int_list, isi_int_tuple, isi_int_str, isi_int_dict, isi_int_lt, isi_str_int, isi_str_bool, isi_str_list, isi_str_tuple, isi_str_str, isi_str_dict, isi_str_lt, isi_lst_int, isi_lst_bool, isi_lst_list, isi_lst_tuple, isi_lst_str, isi_lst_dict, isi_lst_lt, isi_tup_int, isi_tup_bool, isi_tup_list, isi_tup_tuple, isi_tup_str, isi_tup_dict, isi_tup_lt,  at0, at1, at2, at3, set0, set1, set2, setD_l, fillIO, putIO, ioN, permO, wpE_n, wpE_c, rst_n, rst_c, isFl, List.map_cons, List.map_nil, List.cons_append, List.nil_append, List.append_nil, List.replicate_succ, List.replicate_zero, Nat.reduceSub, Nat.reduceAdd, List.getElem?_cons_zero, List.getElem?_cons_succ, List.getD_cons_zero, List.getD_cons_succ, List.set_cons_zero, List.set_cons_succ, List.length_cons, List.length_nil, List.map_append])
  exact q _
theorem sp_count (q : ∀ e, Q (.bl (decide (0 ≤ i))) e) : FP (m_is_count [.int i]) Q := by
  unfold m_is_count b_is_count
  (try simp only [RP_varm, RP_holem, RP_c, RP_1, RP_2, RP_3, RP_f, RP_nil, RP_cons, RP_if, RP_and, RP_or, RP_not, RP_B, RP_qt, RP_perm, RP_pn, RP_ps, RP_sl, RP_call, RP_src2, SrcP_l, SrcP_t, SrcP_pl, SrcP_row, SrcP_tab, RP_r1, RP_r2, RP_en2, EnP_l, EnP_row, EnP_tab, LsP_l, LsP_pl, RP_lc, RP_yes, RP_pop, RP_lr, RP_fl, RP_dct1, RP_asL,  SP_nx, SP_seq, SP_drop, SP_ret, SP_set, SP_if, SP_sub, SP_sub2, SP_app, SP_app2, SP_tgt, SP_par, SP_parO, SP_str, SP_uT, SP_uN, SP_uC, SP_uS, SP_subK, SP_for, FP_fn, OP_gT, OP_gC, OP_gE, OP_some, OP_map, OP_add, OP_sub, OP_mul, OP_fdiv, OP_fmod, OP_pow, OP_neg, OP_lt, OP_le, OP_gt, OP_ge, OP_eqi, OP_nei, OP_bits, OP_int, OP_intb, OP_tup, OP_lst, OP_lenl, OP_lent, OP_lenf, OP_abs, OP_max2, OP_min2, OP_gcd, OP_ixl, OP_ixt, OP_ixf, OP_cat, OP_rep, OP_subb, OP_gN, OP_eqs, OP_eq00, OP_ne00, OP_dct1, OP_nepl, OP_eqpl, OP_isLp, OP_pop0, OP_apppl, OP_lenpl, OP_lentab, OP_inpl, OP_ninpl, OP_indk, OP_nindk, OP_setK, BQ_b, BP_t, BP_f, BP_d, BP_n, BP_eq, ↓reduceIte, Option.map_some, is_non_np, is_non_ng, is_non_tp, is_non_tg, is_non_fp, is_non_fg, is_bl_np, is_bl_ng, is_bl_tp, is_bl_tg, is_bl_fp, is_bl_fg, is_int_np, is_int_ng, is_int_tp, is_int_tg, is_int_fp, is_int_fg, is_str_np, is_str_ng, is_str_tp, is_str_tg, is_str_fp, is_str_fg, is_lst_np, is_lst_ng, is_lst_tp, is_lst_tg, is_lst_fp, is_lst_fg, is_tup_np, is_tup_ng, is_tup_tp, is_tup_tg, is_tup_fp, is_tup_fg, isi_non_int, isi_non_bool, isi_non_list, isi_non_tuple, isi_non_str, isi_non_dict, isi_non_lt, isi_bl_int, isi_bl_bool, isi_bl_list, isi_bl_tuple, isi_bl_str, isi_bl_dict, isi_bl_lt, isi_int_int, isi_int_bool, isi_int_list, isi_int_tuple, isi_int_str, isi_int_dict, isi_int_lt, isi_str_int, isi_str_bool, isi_str_list, isi_str_tuple, isi_str_str, isi_str_dict, isi_str_lt, isi_lst_int, isi_lst_bool, isi_lst_list, isi_lst_tuple, isi_lst_str, isi_lst_dict, isi_lst_lt, isi_tup_int, isi_tup_bool, isi_tup_list, isi_tup_tuple, isi_tup_str, isi_tup_dict, isi_tup_lt,  at0, at1, at2, at3, set0, set1, set2, setD_l, fillIO, putIO, ioN, permO, wpE_n, wpE_c, rst_n, rst_c, isFl, List.map_cons, List.map_nil, List.cons_append, List.nil_append, List.append_nil, List.replicate_succ, List.replicate_zero, Nat.reduceSub, Nat.reduceAdd, List.getElem?_cons_zero, List.getElem?_cons_succ, List.getD_cons_zero, List.getD_cons_succ, List.set_cons_zero, List.set_cons_succ, List.length_cons, List.length_nil, List.map_append])
  refine sp_whole fun e => ?_
  (try simp only [RP_varm, RP_holem, RP_c, RP_1, RP_2, RP_3, RP_f, RP_nil, RP_cons, RP_if, RP_and, RP_or, RP_not, RP_B, RP_qt, RP_perm, RP_pn, RP_ps, RP_sl, RP_call, RP_src2, SrcP_l, SrcP_t, SrcP_pl, SrcP_row, SrcP_tab, RP_r1, RP_r2, RP_en2, EnP_l, EnP_row, EnP_tab, LsP_l, LsP_pl, RP_lc, RP_yes, RP_pop, RP_lr, RP_fl, RP_dct1, RP_asL,  SP_nx, SP_seq, SP_drop, SP_ret, SP_set, SP_if, SP_sub, SP_sub2, SP_app, SP_app2, SP_tgt, SP_par, SP_parO, SP_str, SP_uT, SP_uN, SP_uC, SP_uS, SP_subK, SP_for, FP_fn, OP_gT, OP_gC, OP_gE, OP_some, OP_map, OP_add, OP_sub, OP_mul, OP_fdiv, OP_fmod, OP_pow, OP_neg, OP_lt, OP_le, OP_gt, OP_ge, OP_eqi, OP_nei, OP_bits, OP_int, OP_intb, OP_tup, OP_lst, OP_lenl, OP_lent, OP_lenf, OP_abs, OP_max2, OP_min2, OP_gcd, OP_ixl, OP_ixt, OP_ixf, OP_cat, OP_rep, OP_subb, OP_gN, OP_eqs, OP_eq00, OP_ne00, OP_dct1, OP_nepl, OP_eqpl, OP_isLp, OP_pop0, OP_apppl, OP_lenpl, OP_lentab, OP_inpl, OP_ninpl, OP_indk, OP_nindk, OP_setK, BQ_b, BP_t, BP_f, BP_d, BP_n, BP_eq, ↓reduceIte, Option.map_some, is_non_np, is_non_ng, is_non_tp, is_non_tg, is_non_fp, is_non_fg, is_bl_np, is_bl_ng, is_bl_tp, is_bl_tg, is_bl_fp, is_bl_fg, is_int_np, is_int_ng, is_int_tp, is_int_tg, is_int_fp, is_int_fg, is_str_np, is_str_ng, is_str_tp, is_str_tg, is_str_fp, is_str_fg, is_lst_np, is_lst_ng, is_lst_tp, is_lst_tg, is_lst_fp, is_lst_fg, is_tup_np, is_tup_ng, is_tup_tp, is_tup_tg, is_tup_fp, is_tup_fg, isi_non_int, isi_non_bool, isi_non_list, isi_non_tuple, isi_non_str, isi_non_dict, isi_non_lt, isi_bl_int, isi_bl_bool, isi_bl_list, isi_bl_tuple, isi_bl_str, isi_bl_dict, isi_bl_lt, isi_int_int, isi_int_bool, isi_int_list, isi_int_tuple, isi_int_str, isi_int_dict, isi_int_lt, isi_str_int, isi_str_bool, isi_str_list, isi_str_tuple, isi_str_str, isi_str_dict, isi_str_lt, isi_lst_int, isi_lst_bool, isi_lst_list, isi_lst_tuple, isi_lst_str, isi_lst_dict, isi_lst_lt, isi_tup_int, isi_tup_bool, isi_tup_list, isi_tup_tuple, isi_tup_str, isi_tup_dict, isi_tup_lt,  at0, at1, at2, at3, set0, set1, set2, setD_l, fillIO, putIO, ioN, permO, wpE_n, wpE_c, rst_n, rst_c, isFl, List.map_cons, List.map_nil, List.cons_append, List.nil_append, List.append_nil, List.replicate_succ, List.replicate_zero, Nat.reduceSub, Nat.reduceAdd, List.getElem?_cons_zero, List.getElem?_cons_succ, List.getD_cons_zero, List.getD_cons_succ, List.set_cons_zero, List.set_cons_succ, List.length_cons, List.length_nil, List.map_append])
  exact q _
theorem sp_below (q : ∀ e, Q (.bl (decide (0 ≤ i ∧ i < b))) e) : FP (m_is_below [.int i, .int b]) Q := by
  unfold m_is_below b_is_below
  (try simp only [RP_varm, RP_holem, RP_c, RP_1, RP_2, RP_3, RP_f, RP_nil, RP_cons, RP_if, RP_and, RP_or, RP_not, RP_B, RP_qt, RP_perm, RP_pn, RP_ps, RP_sl, RP_call, RP_src2, SrcP_l, SrcP_t, SrcP_pl, SrcP_row, SrcP_tab, RP_r1, RP_r2, RP_en2, EnP_l, EnP_row, EnP_tab, LsP_l, LsP_pl, RP_lc, RP_yes, RP_pop, RP_lr, RP_fl, RP_dct1, RP_asL,  SP_nx, SP_seq, SP_drop, SP_ret, SP_set, SP_if, SP_sub, SP_sub2, SP_app, SP_app2, SP_tgt, SP_par, SP_parO, SP_str, SP_uT, SP_uN, SP_uC, SP_uS, SP_subK, SP_for, FP_fn, OP_gT, OP_gC, OP_gE, OP_some, OP_map, OP_add, OP_sub, OP_mul, OP_fdiv, OP_fmod, OP_pow, OP_neg, OP_lt, OP_le, OP_gt, OP_ge, OP_eqi, OP_nei, OP_bits, OP_int, OP_intb, OP_tup, OP_lst, OP_lenl, OP_lent, OP_lenf, OP_abs, OP_max2, OP_min2, OP_gcd, OP_ixl, OP_ixt, OP_ixf, OP_cat, OP_rep, OP_subb, OP_gN, OP_eqs, OP_eq00, OP_ne00, OP_dct1, OP_nepl, OP_eqpl, OP_isLp, OP_pop0, OP_apppl, OP_lenpl, OP_lentab, OP_inpl, OP_ninpl, OP_indk, OP_nindk, OP_setK, BQ_b, BP_t, BP_f, BP_d, BP_n, BP_eq, ↓reduceIte, Option.map_some, is_non_np, is_non_ng, is_non_tp, is_non_tg, is_non_fp, is_non_fg, is_bl_np, is_bl_ng, is_bl_tp, is_bl_tg, is_bl_fp, is_bl_fg, is_int_np, is_int_ng, is_int_tp, is_int_tg, is_int_fp, is_int_fg, is_str_np, is_str_ng, is_str_tp, is_str_tg, is_str_fp, is_str_fg, is_lst_np, is_lst_ng, is_lst_tp, is_lst_tg, is_lst_fp, is_lst_fg, is_tup_np, is_tup_ng, is_tup_tp, is_tup_tg, is_tup_fp, is_tup_fg, isi_non_int, isi_non_bool, isi_non_list, isi_non_tuple, isi_non_str, isi_non_dict, isi_non_lt, isi_bl_int, isi_bl_bool, isi_bl_list, isi_bl_tuple, isi_bl_str, isi_bl_dict, isi_bl_lt, isi_int_int, isi_int_bool, isi_int_list, isi_int_tuple, isi_int_str, isi_int_dict, isi_int_lt, isi_str_int, isi_str_bool, isi_str_list, isi_str_tuple, isi_str_str, isi_str_dict, isi_str_lt, isi_lst_int, isi_lst_bool, isi_lst_list, isi_lst_tuple, isi_lst_str, isi_lst_dict, isi_lst_lt, isi_tup_int, isi_tup_bool, isi_tup_list, isi_tup_tuple, isi_tup_str, isi_tup_dict, isi_tup_lt,  at0, at1, at2, at3, set0, set1, set2, setD_l, fillIO, putIO, ioN, permO, wpE_n, wpE_c, rst_n, rst_c, isFl, List.map_cons, List.map_nil, List.cons_append, List.nil_append, List.append_nil, List.replicate_succ, List.replicate_zero, Nat.reduceSub, Nat.reduceAdd, List.getElem?_cons_zero, List.getElem?_cons_succ, List.getD_cons_zero, List.getD_cons_succ, List.set_cons_zero, List.set_cons_succ, List.length_cons, List.length_nil, List.map_append])
  refine sp_count fun e => ?_
  (try simp only [RP_varm, RP_holem, RP_c, RP_1, RP_2, RP_3, RP_f, RP_nil, RP_cons, RP_if, RP_and, RP_or, RP_not, RP_B, RP_qt, RP_perm, RP_pn, RP_ps, RP_sl, RP_call, RP_src2, SrcP_l, SrcP_t, SrcP_pl, SrcP_row, SrcP_tab, RP_r1, RP_r2, RP_en2, EnP_l, EnP_row, EnP_tab, LsP_l, LsP_pl, RP_lc, RP_yes, RP_pop, RP_lr, RP_fl, RP_dct1, RP_asL,  SP_nx, SP_seq, SP_drop, SP_ret, SP_set, SP_if, SP_sub, SP_sub2, SP_app, SP_app2, SP_tgt, SP_par, SP_parO, SP_str, SP_uT, SP_uN, SP_uC, SP_uS, SP_subK, SP_for, FP_fn, OP_gT, OP_gC, OP_gE, OP_some, OP_map, OP_add, OP_sub, OP_mul, OP_fdiv, OP_fmod, OP_pow, OP_neg, OP_lt, OP_le, OP_gt, OP_ge, OP_eqi, OP_nei, OP_bits, OP_int, OP_intb, OP_tup, OP_lst, OP_lenl, OP_lent, OP_lenf, OP_abs, OP_max2, OP_min2, OP_gcd, OP_ixl, OP_ixt, OP_ixf, OP_cat, OP_rep, OP_subb, OP_gN, OP_eqs, OP_eq00, OP_ne00, OP_dct1, OP_nepl, OP_eqpl, OP_isLp, OP_pop0, OP_apppl, OP_lenpl, OP_lentab, OP_inpl, OP_ninpl, OP_indk, OP_nindk, OP_setK, BQ_b, BP_t, BP_f, BP_d, BP_n, BP_eq, ↓reduceIte, Option.map_some, is_non_np, is_non_ng, is_non_tp, is_non_tg, is_non_fp, is_non_fg, is_bl_np, is_bl_ng, is_bl_tp, is_bl_tg, is_bl_fp, is_bl_fg, is_int_np, is_int_ng, is_int_tp, is_int_tg, is_int_fp, is_int_fg, is_str_np, is_str_ng, is_str_tp, is_str_tg, is_str_fp, is_str_fg, is_lst_np, is_lst_ng, is_lst_tp, is_lst_tg, is_lst_fp, is_lst_fg, is_tup_np, is_tup_ng, is_tup_tp, is_tup_tg, is_tup_fp, is_tup_fg, isi_non_int, isi_non_bool, isi_non_list, isi_non_tuple, isi_non_str, isi_non_dict, isi_non_lt, isi_bl_int, isi_bl_bool, isi_bl_list, isi_bl_tuple, isi_bl_str, isi_bl_dict, isi_bl_lt, isi_int_int, isi_int_bool, isi_int_list, isi_int_tuple, isi_int_str, isi_int_dict, isi_int_lt, isi_str_int, isi_str_bool, isi_str_list, isi_str_tuple, isi_str_str, isi_str_dict, isi_str_lt, isi_lst_int, isi_lst_bool, isi_lst_list, isi_lst_tuple, isi_lst_str, isi_lst_dict, isi_lst_lt, isi_tup_int, isi_tup_bool, isi_tup_list, isi_tup_tuple, isi_tup_str, isi_tup_dict, isi_tup_lt,  at0, at1, at2, at3, set0, set1, set2, setD_l, fillIO, putIO, ioN, permO, wpE_n, wpE_c, rst_n, rst_c, isFl, List.map_cons, List.map_nil, List.cons_append, List.nil_append, List.append_nil, List.replicate_succ, List.replicate_zero, Nat.reduceSub, Nat.reduceAdd, List.getElem?_cons_zero, List.getElem?_cons_succ, List.getD_cons_zero, List.getD_cons_succ, List.set_cons_zero, List.set_cons_succ, List.length_cons, List.length_nil, List.map_append])
  refine ⟨fun h => ?_, fun h => ?_⟩
  · rw [show decide (i < b) = decide (0 ≤ i ∧ i < b) from decide_eq_decide.mpr ⟨fun k => ⟨h, k⟩, fun k => k.2⟩]
    exact q _
  · rw [show false = decide (0 ≤ i ∧ i < b) from (decide_eq_false fun k => h k.1).symm]
    exact q _
theorem sp_size (h1 : 2 ≤ n) (h2 : n ≤ 16) (q : ∀ e, Q (.bl true) e) : FP (m_is_size [.int (n : Int)]) Q := by
  unfold m_is_size b_is_size
  (try simp only [RP_varm, RP_holem, RP_c, RP_1, RP_2, RP_3, RP_f, RP_nil, RP_cons, RP_if, RP_and, RP_or, RP_not, RP_B, RP_qt, RP_perm, RP_pn, RP_ps, RP_sl, RP_call, RP_src2, SrcP_l, SrcP_t, SrcP_pl, SrcP_row, SrcP_tab, RP_r1, RP_r2, RP_en2, EnP_l, EnP_row, EnP_tab, LsP_l, LsP_pl, RP_lc, RP_yes, RP_pop, RP_lr, RP_fl, RP_dct1, RP_asL,  SP_nx, SP_seq, SP_drop, SP_ret, SP_set, SP_if, SP_sub, SP_sub2, SP_app, SP_app2, SP_tgt, SP_par, SP_parO, SP_str, SP_uT, SP_uN, SP_uC, SP_uS, SP_subK, SP_for, FP_fn, OP_gT, OP_gC, OP_gE, OP_some, OP_map, OP_add, OP_sub, OP_mul, OP_fdiv, OP_fmod, OP_pow, OP_neg, OP_lt, OP_le, OP_gt, OP_ge, OP_eqi, OP_nei, OP_bits, OP_int, OP_intb, OP_tup, OP_lst, OP_lenl, OP_lent, OP_lenf, OP_abs, OP_max2, OP_min2, OP_gcd, OP_ixl, OP_ixt, OP_ixf, OP_cat, OP_rep, OP_subb, OP_gN, OP_eqs, OP_eq00, OP_ne00, OP_dct1, OP_nepl, OP_eqpl, OP_isLp, OP_pop0, OP_apppl, OP_lenpl, OP_lentab, OP_inpl, OP_ninpl, OP_indk, OP_nindk, OP_setK, BQ_b, BP_t, BP_f, BP_d, BP_n, BP_eq, ↓reduceIte, Option.map_some, is_non_np, is_non_ng, is_non_tp, is_non_tg, is_non_fp, is_non_fg, is_bl_np, is_bl_ng, is_bl_tp, is_bl_tg, is_bl_fp, is_bl_fg, is_int_np, is_int_ng, is_int_tp, is_int_tg, is_int_fp, is_int_fg, is_str_np, is_str_ng, is_str_tp, is_str_tg, is_str_fp, is_str_fg, is_lst_np, is_lst_ng, is_lst_tp, is_lst_tg, is_lst_fp, is_lst_fg, is_tup_np, is_tup_ng, is_tup_tp, is_tup_tg, is_tup_fp, is_tup_fg, isi_non_int, isi_non_bool, isi_non_list, isi_non_tuple, isi_non_str, isi_non_dict, isi_non_lt, isi_bl_int, isi_bl_bool, isi_bl_list, isi_bl_tuple, isi_bl_str, isi_bl_dict, isi_bl_lt, isi_int_int, isi_int_bool, isi_int_list, isi_int_tuple, isi_int_str, isi_int_dict, isi_int_lt, isi_str_int, isi_str_bool, isi_str_list, isi_str_tuple, isi_str_str, isi_str_dict, isi_str_lt, isi_lst_int, isi_lst_bool, isi_lst_list, isi_lst_tuple, isi_lst_str, isi_lst_dict, isi_lst_lt, isi_tup_int, isi_tup_bool, isi_tup_list, isi_tup_tuple, isi_tup_str, isi_tup_dict, isi_tup_lt,  at0, at1, at2, at3, set0, set1, set2, setD_l, fillIO, putIO, ioN, permO, wpE_n, wpE_c, rst_n, rst_c, isFl, List.map_cons, List.map_nil, List.cons_append, List.nil_append, List.append_nil, List.replicate_succ, List.replicate_zero, Nat.reduceSub, Nat.reduceAdd, List.getElem?_cons_zero, List.getElem?_cons_succ, List.getD_cons_zero, List.getD_cons_succ, List.set_cons_zero, List.set_cons_succ, List.length_cons, List.length_nil, List.map_append])
  refine sp_whole fun e => ?_
  (try simp only [RP_varm, RP_holem, RP_c, RP_1, RP_2, RP_3, RP_f, RP_nil, RP_cons, RP_if, RP_and, RP_or, RP_not, RP_B, RP_qt, RP_perm, RP_pn, RP_ps, RP_sl, RP_call, RP_src2, SrcP_l, SrcP_t, SrcP_pl, SrcP_row, SrcP_tab, RP_r1, RP_r2, RP_en2, EnP_l, EnP_row, EnP_tab, LsP_l, LsP_pl, RP_lc, RP_yes, RP_pop, RP_lr, RP_fl, RP_dct1, RP_asL,  SP_nx, SP_seq, SP_drop, SP_ret, SP_set, SP_if, SP_sub, SP_sub2, SP_app, SP_app2, SP_tgt, SP_par, SP_parO, SP_str, SP_uT, SP_uN, SP_uC, SP_uS, SP_subK, SP_for, FP_fn, OP_gT, OP_gC, OP_gE, OP_some, OP_map, OP_add, OP_sub, OP_mul, OP_fdiv, OP_fmod, OP_pow, OP_neg, OP_lt, OP_le, OP_gt, OP_ge, OP_eqi, OP_nei, OP_bits, OP_int, OP_intb, OP_tup, OP_lst, OP_lenl, OP_lent, OP_lenf, OP_abs, OP_max2, OP_min2, OP_gcd, OP_ixl, OP_ixt, OP_ixf, OP_cat, OP_rep, OP_subb, OP_gN, OP_eqs, OP_eq00, OP_ne00, OP_dct1, OP_nepl, OP_eqpl, OP_isLp, OP_pop0, OP_apppl, OP_lenpl, OP_lentab, OP_inpl, OP_ninpl, OP_indk, OP_nindk, OP_setK, BQ_b, BP_t, BP_f, BP_d, BP_n, BP_eq, ↓reduceIte, Option.map_some, is_non_np, is_non_ng, is_non_tp, is_non_tg, is_non_fp, is_non_fg, is_bl_np, is_bl_ng, is_bl_tp, is_bl_tg, is_bl_fp, is_bl_fg, is_int_np, is_int_ng, is_int_tp, is_int_tg, is_int_fp, is_int_fg, is_str_np, is_str_ng, is_str_tp, is_str_tg, is_str_fp, is_str_fg, is_lst_np, is_lst_ng, is_lst_tp, is_lst_tg, is_lst_fp, is_lst_fg, is_tup_np, is_tup_ng, is_tup_tp, is_tup_tg, is_tup_fp, is_tup_fg, isi_non_int, isi_non_bool, isi_non_list, isi_non_tuple, isi_non_str, isi_non_dict, isi_non_lt, isi_bl_int, isi_bl_bool, isi_bl_list, isi_bl_tuple, isi_bl_str, isi_bl_dict, isi_bl_lt, isi_int_int, isi_int_bool, isi_int_list, isi_int_tuple, isi_int_str, isi_int_dict, isi_int_lt, isi_str_int, isi_str_bool, isi_str_list, isi_str_tuple, isi_str_str, isi_str_dict, isi_str_lt, isi_lst_int, isi_lst_bool, isi_lst_list, isi_lst_tuple, isi_lst_str, isi_lst_dict, isi_lst_lt, isi_tup_int, isi_tup_bool, isi_tup_list, isi_tup_tuple, isi_tup_str, isi_tup_dict, isi_tup_lt,  at0, at1, at2, at3, set0, set1, set2, setD_l, fillIO, putIO, ioN, permO, wpE_n, wpE_c, rst_n, rst_c, isFl, List.map_cons, List.map_nil, List.cons_append, List.nil_append, List.append_nil, List.replicate_succ, List.replicate_zero, Nat.reduceSub, Nat.reduceAdd, List.getElem?_cons_zero, List.getElem?_cons_succ, List.getD_cons_zero, List.getD_cons_succ, List.set_cons_zero, List.set_cons_succ, List.length_cons, List.length_nil, List.map_append])
  refine ⟨fun _ => ?_, fun h => absurd (by omega : (2 : Int) ≤ n) h⟩
  rw [decide_eq_true (by omega : (n : Int) ≤ 16)]
  exact q _
theorem sp_row {r : List Int} (h : r.length = n) (hr : ∀ x ∈ r, 0 ≤ x ∧ x ≤ 1000) (q : ∀ e, Q (.bl true) e) : FP (m_is_row_of [.int (n : Int), rowD r]) Q := by
  unfold m_is_row_of b_is_row_of rowD
  (try simp only [RP_varm, RP_holem, RP_c, RP_1, RP_2, RP_3, RP_f, RP_nil, RP_cons, RP_if, RP_and, RP_or, RP_not, RP_B, RP_qt, RP_perm, RP_pn, RP_ps, RP_sl, RP_call, RP_src2, SrcP_l, SrcP_t, SrcP_pl, SrcP_row, SrcP_tab, RP_r1, RP_r2, RP_en2, EnP_l, EnP_row, EnP_tab, LsP_l, LsP_pl, RP_lc, RP_yes, RP_pop, RP_lr, RP_fl, RP_dct1, RP_asL,  SP_nx, SP_seq, SP_drop, SP_ret, SP_set, SP_if, SP_sub, SP_sub2, SP_app, SP_app2, SP_tgt, SP_par, SP_parO, SP_str, SP_uT, SP_uN, SP_uC, SP_uS, SP_subK, SP_for, FP_fn, OP_gT, OP_gC, OP_gE, OP_some, OP_map, OP_add, OP_sub, OP_mul, OP_fdiv, OP_fmod, OP_pow, OP_neg, OP_lt, OP_le, OP_gt, OP_ge, OP_eqi, OP_nei, OP_bits, OP_int, OP_intb, OP_tup, OP_lst, OP_lenl, OP_lent, OP_lenf, OP_abs, OP_max2, OP_min2, OP_gcd, OP_ixl, OP_ixt, OP_ixf, OP_cat, OP_rep, OP_subb, OP_gN, OP_eqs, OP_eq00, OP_ne00, OP_dct1, OP_nepl, OP_eqpl, OP_isLp, OP_pop0, OP_apppl, OP_lenpl, OP_lentab, OP_inpl, OP_ninpl, OP_indk, OP_nindk, OP_setK, BQ_b, BP_t, BP_f, BP_d, BP_n, BP_eq, ↓reduceIte, Option.map_some, is_non_np, is_non_ng, is_non_tp, is_non_tg, is_non_fp, is_non_fg, is_bl_np, is_bl_ng, is_bl_tp, is_bl_tg, is_bl_fp, is_bl_fg, is_int_np, is_int_ng, is_int_tp, is_int_tg, is_int_fp, is_int_fg, is_str_np, is_str_ng, is_str_tp, is_str_tg, is_str_fp, is_str_fg, is_lst_np, is_lst_ng, is_lst_tp, is_lst_tg, is_lst_fp, is_lst_fg, is_tup_np, is_tup_ng, is_tup_tp, is_tup_tg, is_tup_fp, is_tup_fg, isi_non_int, isi_non_bool, isi_non_list, isi_non_tuple, isi_non_str, isi_non_dict, isi_non_lt, isi_bl_int, isi_bl_bool, isi_bl_list, isi_bl_tuple, isi_bl_str, isi_bl_dict, isi_bl_lt, isi_int_int, isi_int_bool, isi_int_list, isi_int_tuple, isi_int_str, isi_int_dict, isi_int_lt, isi_str_int, isi_str_bool, isi_str_list, isi_str_tuple, isi_str_str, isi_str_dict, isi_str_lt, isi_lst_int, isi_lst_bool, isi_lst_list, isi_lst_tuple, isi_lst_str, isi_lst_dict, isi_lst_lt, isi_tup_int, isi_tup_bool, isi_tup_list, isi_tup_tuple, isi_tup_str, isi_tup_dict, isi_tup_lt,  at0, at1, at2, at3, set0, set1, set2, setD_l, fillIO, putIO, ioN, permO, wpE_n, wpE_c, rst_n, rst_c, isFl, List.map_cons, List.map_nil, List.cons_append, List.nil_append, List.append_nil, List.replicate_succ, List.replicate_zero, Nat.reduceSub, Nat.reduceAdd, List.getElem?_cons_zero, List.getElem?_cons_succ, List.getD_cons_zero, List.getD_cons_succ, List.set_cons_zero, List.set_cons_succ, List.length_cons, List.length_nil, List.map_append])
  rw [List.length_map, h]
  refine ⟨fun _ => ?_, fun z => absurd rfl z⟩
  refine RP_lcP (fun x => !decide (0 ≤ x ∧ x < 1001)) (fun x => .int x) (fun x hx => ?_) ?_
  · (try simp only [RP_varm, RP_holem, RP_c, RP_1, RP_2, RP_3, RP_f, RP_nil, RP_cons, RP_if, RP_and, RP_or, RP_not, RP_B, RP_qt, RP_perm, RP_pn, RP_ps, RP_sl, RP_call, RP_src2, SrcP_l, SrcP_t, SrcP_pl, SrcP_row, SrcP_tab, RP_r1, RP_r2, RP_en2, EnP_l, EnP_row, EnP_tab, LsP_l, LsP_pl, RP_lc, RP_yes, RP_pop, RP_lr, RP_fl, RP_dct1, RP_asL,  SP_nx, SP_seq, SP_drop, SP_ret, SP_set, SP_if, SP_sub, SP_sub2, SP_app, SP_app2, SP_tgt, SP_par, SP_parO, SP_str, SP_uT, SP_uN, SP_uC, SP_uS, SP_subK, SP_for, FP_fn, OP_gT, OP_gC, OP_gE, OP_some, OP_map, OP_add, OP_sub, OP_mul, OP_fdiv, OP_fmod, OP_pow, OP_neg, OP_lt, OP_le, OP_gt, OP_ge, OP_eqi, OP_nei, OP_bits, OP_int, OP_intb, OP_tup, OP_lst, OP_lenl, OP_lent, OP_lenf, OP_abs, OP_max2, OP_min2, OP_gcd, OP_ixl, OP_ixt, OP_ixf, OP_cat, OP_rep, OP_subb, OP_gN, OP_eqs, OP_eq00, OP_ne00, OP_dct1, OP_nepl, OP_eqpl, OP_isLp, OP_pop0, OP_apppl, OP_lenpl, OP_lentab, OP_inpl, OP_ninpl, OP_indk, OP_nindk, OP_setK, BQ_b, BP_t, BP_f, BP_d, BP_n, BP_eq, ↓reduceIte, Option.map_some, is_non_np, is_non_ng, is_non_tp, is_non_tg, is_non_fp, is_non_fg, is_bl_np, is_bl_ng, is_bl_tp, is_bl_tg, is_bl_fp, is_bl_fg, is_int_np, is_int_ng, is_int_tp, is_int_tg, is_int_fp, is_int_fg, is_str_np, is_str_ng, is_str_tp, is_str_tg, is_str_fp, is_str_fg, is_lst_np, is_lst_ng, is_lst_tp, is_lst_tg, is_lst_fp, is_lst_fg, is_tup_np, is_tup_ng, is_tup_tp, is_tup_tg, is_tup_fp, is_tup_fg, isi_non_int, isi_non_bool, isi_non_list, isi_non_tuple, isi_non_str, isi_non_dict, isi_non_lt, isi_bl_int, isi_bl_bool, isi_bl_list, isi_bl_tuple, isi_bl_str, isi_bl_dict, isi_bl_lt, isi_int_int, isi_int_bool, isi_int_list, isi_int_tuple, isi_int_str, isi_int_dict, isi_int_lt, isi_str_int, isi_str_bool, isi_str_list, isi_str_tuple, isi_str_str, isi_str_dict, isi_str_lt, isi_lst_int, isi_lst_bool, isi_lst_list, isi_lst_tuple, isi_lst_str, isi_lst_dict, isi_lst_lt, isi_tup_int, isi_tup_bool, isi_tup_list, isi_tup_tuple, isi_tup_str, isi_tup_dict, isi_tup_lt,  at0, at1, at2, at3, set0, set1, set2, setD_l, fillIO, putIO, ioN, permO, wpE_n, wpE_c, rst_n, rst_c, isFl, List.map_cons, List.map_nil, List.cons_append, List.nil_append, List.append_nil, List.replicate_succ, List.replicate_zero, Nat.reduceSub, Nat.reduceAdd, List.getElem?_cons_zero, List.getElem?_cons_succ, List.getD_cons_zero, List.getD_cons_succ, List.set_cons_zero, List.set_cons_succ, List.length_cons, List.length_nil, List.map_append])
    refine sp_below fun e => ?_
    (try simp only [RP_varm, RP_holem, RP_c, RP_1, RP_2, RP_3, RP_f, RP_nil, RP_cons, RP_if, RP_and, RP_or, RP_not, RP_B, RP_qt, RP_perm, RP_pn, RP_ps, RP_sl, RP_call, RP_src2, SrcP_l, SrcP_t, SrcP_pl, SrcP_row, SrcP_tab, RP_r1, RP_r2, RP_en2, EnP_l, EnP_row, EnP_tab, LsP_l, LsP_pl, RP_lc, RP_yes, RP_pop, RP_lr, RP_fl, RP_dct1, RP_asL,  SP_nx, SP_seq, SP_drop, SP_ret, SP_set, SP_if, SP_sub, SP_sub2, SP_app, SP_app2, SP_tgt, SP_par, SP_parO, SP_str, SP_uT, SP_uN, SP_uC, SP_uS, SP_subK, SP_for, FP_fn, OP_gT, OP_gC, OP_gE, OP_some, OP_map, OP_add, OP_sub, OP_mul, OP_fdiv, OP_fmod, OP_pow, OP_neg, OP_lt, OP_le, OP_gt, OP_ge, OP_eqi, OP_nei, OP_bits, OP_int, OP_intb, OP_tup, OP_lst, OP_lenl, OP_lent, OP_lenf, OP_abs, OP_max2, OP_min2, OP_gcd, OP_ixl, OP_ixt, OP_ixf, OP_cat, OP_rep, OP_subb, OP_gN, OP_eqs, OP_eq00, OP_ne00, OP_dct1, OP_nepl, OP_eqpl, OP_isLp, OP_pop0, OP_apppl, OP_lenpl, OP_lentab, OP_inpl, OP_ninpl, OP_indk, OP_nindk, OP_setK, BQ_b, BP_t, BP_f, BP_d, BP_n, BP_eq, ↓reduceIte, Option.map_some, is_non_np, is_non_ng, is_non_tp, is_non_tg, is_non_fp, is_non_fg, is_bl_np, is_bl_ng, is_bl_tp, is_bl_tg, is_bl_fp, is_bl_fg, is_int_np, is_int_ng, is_int_tp, is_int_tg, is_int_fp, is_int_fg, is_str_np, is_str_ng, is_str_tp, is_str_tg, is_str_fp, is_str_fg, is_lst_np, is_lst_ng, is_lst_tp, is_lst_tg, is_lst_fp, is_lst_fg, is_tup_np, is_tup_ng, is_tup_tp, is_tup_tg, is_tup_fp, is_tup_fg, isi_non_int, isi_non_bool, isi_non_list, isi_non_tuple, isi_non_str, isi_non_dict, isi_non_lt, isi_bl_int, isi_bl_bool, isi_bl_list, isi_bl_tuple, isi_bl_str, isi_bl_dict, isi_bl_lt, isi_int_int, isi_int_bool, isi_int_list, isi_int_tuple, isi_int_str, isi_int_dict, isi_int_lt, isi_str_int, isi_str_bool, isi_str_list, isi_str_tuple, isi_str_str, isi_str_dict, isi_str_lt, isi_lst_int, isi_lst_bool, isi_lst_list, isi_lst_tuple, isi_lst_str, isi_lst_dict, isi_lst_lt, isi_tup_int, isi_tup_bool, isi_tup_list, isi_tup_tuple, isi_tup_str, isi_tup_dict, isi_tup_lt,  at0, at1, at2, at3, set0, set1, set2, setD_l, fillIO, putIO, ioN, permO, wpE_n, wpE_c, rst_n, rst_c, isFl, List.map_cons, List.map_nil, List.cons_append, List.nil_append, List.append_nil, List.replicate_succ, List.replicate_zero, Nat.reduceSub, Nat.reduceAdd, List.getElem?_cons_zero, List.getElem?_cons_succ, List.getD_cons_zero, List.getD_cons_succ, List.set_cons_zero, List.set_cons_succ, List.length_cons, List.length_nil, List.map_append])
    (first | exact trivial | (simp; done) | (simp_all; done))
  · rw [filter_none fun x hx => by have := hr x hx; simp; omega]
    (try simp only [RP_varm, RP_holem, RP_c, RP_1, RP_2, RP_3, RP_f, RP_nil, RP_cons, RP_if, RP_and, RP_or, RP_not, RP_B, RP_qt, RP_perm, RP_pn, RP_ps, RP_sl, RP_call, RP_src2, SrcP_l, SrcP_t, SrcP_pl, SrcP_row, SrcP_tab, RP_r1, RP_r2, RP_en2, EnP_l, EnP_row, EnP_tab, LsP_l, LsP_pl, RP_lc, RP_yes, RP_pop, RP_lr, RP_fl, RP_dct1, RP_asL,  SP_nx, SP_seq, SP_drop, SP_ret, SP_set, SP_if, SP_sub, SP_sub2, SP_app, SP_app2, SP_tgt, SP_par, SP_parO, SP_str, SP_uT, SP_uN, SP_uC, SP_uS, SP_subK, SP_for, FP_fn, OP_gT, OP_gC, OP_gE, OP_some, OP_map, OP_add, OP_sub, OP_mul, OP_fdiv, OP_fmod, OP_pow, OP_neg, OP_lt, OP_le, OP_gt, OP_ge, OP_eqi, OP_nei, OP_bits, OP_int, OP_intb, OP_tup, OP_lst, OP_lenl, OP_lent, OP_lenf, OP_abs, OP_max2, OP_min2, OP_gcd, OP_ixl, OP_ixt, OP_ixf, OP_cat, OP_rep, OP_subb, OP_gN, OP_eqs, OP_eq00, OP_ne00, OP_dct1, OP_nepl, OP_eqpl, OP_isLp, OP_pop0, OP_apppl, OP_lenpl, OP_lentab, OP_inpl, OP_ninpl, OP_indk, OP_nindk, OP_setK, BQ_b, BP_t, BP_f, BP_d, BP_n, BP_eq, ↓reduceIte, Option.map_some, is_non_np, is_non_ng, is_non_tp, is_non_tg, is_non_fp, is_non_fg, is_bl_np, is_bl_ng, is_bl_tp, is_bl_tg, is_bl_fp, is_bl_fg, is_int_np, is_int_ng, is_int_tp, is_int_tg, is_int_fp, is_int_fg, is_str_np, is_str_ng, is_str_tp, is_str_tg, is_str_fp, is_str_fg, is_lst_np, is_lst_ng, is_lst_tp, is_lst_tg, is_lst_fp, is_lst_fg, is_tup_np, is_tup_ng, is_tup_tp, is_tup_tg, is_tup_fp, is_tup_fg, isi_non_int, isi_non_bool, isi_non_list, isi_non_tuple, isi_non_str, isi_non_dict, isi_non_lt, isi_bl_int, isi_bl_bool, isi_bl_list, isi_bl_tuple, isi_bl_str, isi_bl_dict, isi_bl_lt, isi_int_int, isi_int_bool, isi_int_list, isi_int_tuple, isi_int_str, isi_int_dict, isi_int_lt, isi_str_int, isi_str_bool, isi_str_list, isi_str_tuple, isi_str_str, isi_str_dict, isi_str_lt, isi_lst_int, isi_lst_bool, isi_lst_list, isi_lst_tuple, isi_lst_str, isi_lst_dict, isi_lst_lt, isi_tup_int, isi_tup_bool, isi_tup_list, isi_tup_tuple, isi_tup_str, isi_tup_dict, isi_tup_lt,  at0, at1, at2, at3, set0, set1, set2, setD_l, fillIO, putIO, ioN, permO, wpE_n, wpE_c, rst_n, rst_c, isFl, List.map_cons, List.map_nil, List.cons_append, List.nil_append, List.append_nil, List.replicate_succ, List.replicate_zero, Nat.reduceSub, Nat.reduceAdd, List.getElem?_cons_zero, List.getElem?_cons_succ, List.getD_cons_zero, List.getD_cons_succ, List.set_cons_zero, List.set_cons_succ, List.length_cons, List.length_nil, List.map_append])
    exact ⟨by decide, by decide, q _⟩
end
/-- a table of n players -/
structure Tab (n : Nat) (T : List (List Int)) : Prop where
  n2 : 2 ≤ n
  n16 : n ≤ 16
  len : T.length = n
  row : ∀ r ∈ T, r.length = n ∧ ∀ x ∈ r, 0 ≤ x ∧ x ≤ 1000
  dia : ∀ i, i < n → ent T i i = 0
section
variable {n : Nat} {T : List (List Int)} {Q : D → Sl → Prop}
theorem Tab.rowLen (h : Tab n T) {i : Nat} (hi : i < n) : (T.getD i []).length = n := by
  have hi' : i < T.length := by rw [h.len]; exact hi
  rw [List.getD_eq_getElem?_getD, List.getElem?_eq_getElem hi']
  exact (h.row _ (List.getElem_mem hi')).1
theorem getD_mem {α : Type} {l : List α} {i : Nat} {d : α} (h : i < l.length) : l.getD i d ∈ l := by
  rw [List.getD_eq_getElem?_getD, List.getElem?_eq_getElem h]
  exact List.getElem_mem h
theorem Tab.ent_rng (h : Tab n T) {i j : Nat} (hi : i < n) (hj : j < n) : 0 ≤ ent T i j ∧ ent T i j ≤ 1000 :=
  (h.row _ (getD_mem (by rw [h.len]; exact hi))).2 _ (getD_mem (by rw [h.rowLen hi]; exact hj))
theorem OP_ent (h : Tab n T) {i j : Nat} (hi : i < n) (hj : j < n) {R : D → Prop} : (OP (D.ix (tabD T) (.int (i : Int))) fun r => OP (D.ix r (.int (j : Int))) R) = R (.int (ent T i j)) := by
  rw [OP_tab (by rw [h.len]; exact hi), OP_row (by rw [h.rowLen hi]; exact hj)]
  rfl
theorem sp_table (h : Tab n T) (q : ∀ e, Q (.bl true) e) : FP (m_is_table [tabD T]) Q := by
  unfold m_is_table b_is_table
  have hl : (T.map rowD).length = n := by rw [List.length_map, h.len]
  unfold tabD
  (try simp only [RP_varm, RP_holem, RP_c, RP_1, RP_2, RP_3, RP_f, RP_nil, RP_cons, RP_if, RP_and, RP_or, RP_not, RP_B, RP_qt, RP_perm, RP_pn, RP_ps, RP_sl, RP_call, RP_src2, SrcP_l, SrcP_t, SrcP_pl, SrcP_row, SrcP_tab, RP_r1, RP_r2, RP_en2, EnP_l, EnP_row, EnP_tab, LsP_l, LsP_pl, RP_lc, RP_yes, RP_pop, RP_lr, RP_fl, RP_dct1, RP_asL,  SP_nx, SP_seq, SP_drop, SP_ret, SP_set, SP_if, SP_sub, SP_sub2, SP_app, SP_app2, SP_tgt, SP_par, SP_parO, SP_str, SP_uT, SP_uN, SP_uC, SP_uS, SP_subK, SP_for, FP_fn, OP_gT, OP_gC, OP_gE, OP_some, OP_map, OP_add, OP_sub, OP_mul, OP_fdiv, OP_fmod, OP_pow, OP_neg, OP_lt, OP_le, OP_gt, OP_ge, OP_eqi, OP_nei, OP_bits, OP_int, OP_intb, OP_tup, OP_lst, OP_lenl, OP_lent, OP_lenf, OP_abs, OP_max2, OP_min2, OP_gcd, OP_ixl, OP_ixt, OP_ixf, OP_cat, OP_rep, OP_subb, OP_gN, OP_eqs, OP_eq00, OP_ne00, OP_dct1, OP_nepl, OP_eqpl, OP_isLp, OP_pop0, OP_apppl, OP_lenpl, OP_lentab, OP_inpl, OP_ninpl, OP_indk, OP_nindk, OP_setK, BQ_b, BP_t, BP_f, BP_d, BP_n, BP_eq, ↓reduceIte, Option.map_some, is_non_np, is_non_ng, is_non_tp, is_non_tg, is_non_fp, is_non_fg, is_bl_np, is_bl_ng, is_bl_tp, is_bl_tg, is_bl_fp, is_bl_fg, is_int_np, is_int_ng, is_int_tp, is_int_tg, is_int_fp, is_int_fg, is_str_np, is_str_ng, is_str_tp, is_str_tg, is_str_fp, is_str_fg, is_lst_np, is_lst_ng, is_lst_tp, is_lst_tg, is_lst_fp, is_lst_fg, is_tup_np, is_tup_ng, is_tup_tp, is_tup_tg, is_tup_fp, is_tup_fg, isi_non_int, isi_non_bool, isi_non_list, isi_non_tuple, isi_non_str, isi_non_dict, isi_non_lt, isi_bl_int, isi_bl_bool, isi_bl_list, isi_bl_tuple, isi_bl_str, isi_bl_dict, isi_bl_lt, isi_int_int, isi_int_bool, isi_int_list, isi_int_tuple, isi_int_str, isi_int_dict, isi_int_lt, isi_str_int, isi_str_bool, isi_str_list, isi_str_tuple, isi_str_str, isi_str_dict, isi_str_lt, isi_lst_int, isi_lst_bool, isi_lst_list, isi_lst_tuple, isi_lst_str, isi_lst_dict, isi_lst_lt, isi_tup_int, isi_tup_bool, isi_tup_list, isi_tup_tuple, isi_tup_str, isi_tup_dict, isi_tup_lt,  at0, at1, at2, at3, set0, set1, set2, setD_l, fillIO, putIO, ioN, permO, wpE_n, wpE_c, rst_n, rst_c, isFl, List.map_cons, List.map_nil, List.cons_append, List.nil_append, List.append_nil, List.replicate_succ, List.replicate_zero, Nat.reduceSub, Nat.reduceAdd, List.getElem?_cons_zero, List.getElem?_cons_succ, List.getD_cons_zero, List.getD_cons_succ, List.set_cons_zero, List.set_cons_succ, List.length_cons, List.length_nil, List.map_append])
  rw [hl]
  refine sp_size h.n2 h.n16 fun e => ?_
  (try simp only [RP_varm, RP_holem, RP_c, RP_1, RP_2, RP_3, RP_f, RP_nil, RP_cons, RP_if, RP_and, RP_or, RP_not, RP_B, RP_qt, RP_perm, RP_pn, RP_ps, RP_sl, RP_call, RP_src2, SrcP_l, SrcP_t, SrcP_pl, SrcP_row, SrcP_tab, RP_r1, RP_r2, RP_en2, EnP_l, EnP_row, EnP_tab, LsP_l, LsP_pl, RP_lc, RP_yes, RP_pop, RP_lr, RP_fl, RP_dct1, RP_asL,  SP_nx, SP_seq, SP_drop, SP_ret, SP_set, SP_if, SP_sub, SP_sub2, SP_app, SP_app2, SP_tgt, SP_par, SP_parO, SP_str, SP_uT, SP_uN, SP_uC, SP_uS, SP_subK, SP_for, FP_fn, OP_gT, OP_gC, OP_gE, OP_some, OP_map, OP_add, OP_sub, OP_mul, OP_fdiv, OP_fmod, OP_pow, OP_neg, OP_lt, OP_le, OP_gt, OP_ge, OP_eqi, OP_nei, OP_bits, OP_int, OP_intb, OP_tup, OP_lst, OP_lenl, OP_lent, OP_lenf, OP_abs, OP_max2, OP_min2, OP_gcd, OP_ixl, OP_ixt, OP_ixf, OP_cat, OP_rep, OP_subb, OP_gN, OP_eqs, OP_eq00, OP_ne00, OP_dct1, OP_nepl, OP_eqpl, OP_isLp, OP_pop0, OP_apppl, OP_lenpl, OP_lentab, OP_inpl, OP_ninpl, OP_indk, OP_nindk, OP_setK, BQ_b, BP_t, BP_f, BP_d, BP_n, BP_eq, ↓reduceIte, Option.map_some, is_non_np, is_non_ng, is_non_tp, is_non_tg, is_non_fp, is_non_fg, is_bl_np, is_bl_ng, is_bl_tp, is_bl_tg, is_bl_fp, is_bl_fg, is_int_np, is_int_ng, is_int_tp, is_int_tg, is_int_fp, is_int_fg, is_str_np, is_str_ng, is_str_tp, is_str_tg, is_str_fp, is_str_fg, is_lst_np, is_lst_ng, is_lst_tp, is_lst_tg, is_lst_fp, is_lst_fg, is_tup_np, is_tup_ng, is_tup_tp, is_tup_tg, is_tup_fp, is_tup_fg, isi_non_int, isi_non_bool, isi_non_list, isi_non_tuple, isi_non_str, isi_non_dict, isi_non_lt, isi_bl_int, isi_bl_bool, isi_bl_list, isi_bl_tuple, isi_bl_str, isi_bl_dict, isi_bl_lt, isi_int_int, isi_int_bool, isi_int_list, isi_int_tuple, isi_int_str, isi_int_dict, isi_int_lt, isi_str_int, isi_str_bool, isi_str_list, isi_str_tuple, isi_str_str, isi_str_dict, isi_str_lt, isi_lst_int, isi_lst_bool, isi_lst_list, isi_lst_tuple, isi_lst_str, isi_lst_dict, isi_lst_lt, isi_tup_int, isi_tup_bool, isi_tup_list, isi_tup_tuple, isi_tup_str, isi_tup_dict, isi_tup_lt,  at0, at1, at2, at3, set0, set1, set2, setD_l, fillIO, putIO, ioN, permO, wpE_n, wpE_c, rst_n, rst_c, isFl, List.map_cons, List.map_nil, List.cons_append, List.nil_append, List.append_nil, List.replicate_succ, List.replicate_zero, Nat.reduceSub, Nat.reduceAdd, List.getElem?_cons_zero, List.getElem?_cons_succ, List.getD_cons_zero, List.getD_cons_succ, List.set_cons_zero, List.set_cons_succ, List.length_cons, List.length_nil, List.map_append])
  refine RP_lcP (fun _ => false) (fun x => rowD x) (fun x hx => ?_) ?_
  · (try simp only [RP_varm, RP_holem, RP_c, RP_1, RP_2, RP_3, RP_f, RP_nil, RP_cons, RP_if, RP_and, RP_or, RP_not, RP_B, RP_qt, RP_perm, RP_pn, RP_ps, RP_sl, RP_call, RP_src2, SrcP_l, SrcP_t, SrcP_pl, SrcP_row, SrcP_tab, RP_r1, RP_r2, RP_en2, EnP_l, EnP_row, EnP_tab, LsP_l, LsP_pl, RP_lc, RP_yes, RP_pop, RP_lr, RP_fl, RP_dct1, RP_asL,  SP_nx, SP_seq, SP_drop, SP_ret, SP_set, SP_if, SP_sub, SP_sub2, SP_app, SP_app2, SP_tgt, SP_par, SP_parO, SP_str, SP_uT, SP_uN, SP_uC, SP_uS, SP_subK, SP_for, FP_fn, OP_gT, OP_gC, OP_gE, OP_some, OP_map, OP_add, OP_sub, OP_mul, OP_fdiv, OP_fmod, OP_pow, OP_neg, OP_lt, OP_le, OP_gt, OP_ge, OP_eqi, OP_nei, OP_bits, OP_int, OP_intb, OP_tup, OP_lst, OP_lenl, OP_lent, OP_lenf, OP_abs, OP_max2, OP_min2, OP_gcd, OP_ixl, OP_ixt, OP_ixf, OP_cat, OP_rep, OP_subb, OP_gN, OP_eqs, OP_eq00, OP_ne00, OP_dct1, OP_nepl, OP_eqpl, OP_isLp, OP_pop0, OP_apppl, OP_lenpl, OP_lentab, OP_inpl, OP_ninpl, OP_indk, OP_nindk, OP_setK, BQ_b, BP_t, BP_f, BP_d, BP_n, BP_eq, ↓reduceIte, Option.map_some, is_non_np, is_non_ng, is_non_tp, is_non_tg, is_non_fp, is_non_fg, is_bl_np, is_bl_ng, is_bl_tp, is_bl_tg, is_bl_fp, is_bl_fg, is_int_np, is_int_ng, is_int_tp, is_int_tg, is_int_fp, is_int_fg, is_str_np, is_str_ng, is_str_tp, is_str_tg, is_str_fp, is_str_fg, is_lst_np, is_lst_ng, is_lst_tp, is_lst_tg, is_lst_fp, is_lst_fg, is_tup_np, is_tup_ng, is_tup_tp, is_tup_tg, is_tup_fp, is_tup_fg, isi_non_int, isi_non_bool, isi_non_list, isi_non_tuple, isi_non_str, isi_non_dict, isi_non_lt, isi_bl_int, isi_bl_bool, isi_bl_list, isi_bl_tuple, isi_bl_str, isi_bl_dict, isi_bl_lt, isi_int_int, isi_int_bool, isi_int_list, isi_int_tuple, isi_int_str, isi_int_dict, isi_int_lt, isi_str_int, isi_str_bool, isi_str_list, isi_str_tuple, isi_str_str, isi_str_dict, isi_str_lt, isi_lst_int, isi_lst_bool, isi_lst_list, isi_lst_tuple, isi_lst_str, isi_lst_dict, isi_lst_lt, isi_tup_int, isi_tup_bool, isi_tup_list, isi_tup_tuple, isi_tup_str, isi_tup_dict, isi_tup_lt,  at0, at1, at2, at3, set0, set1, set2, setD_l, fillIO, putIO, ioN, permO, wpE_n, wpE_c, rst_n, rst_c, isFl, List.map_cons, List.map_nil, List.cons_append, List.nil_append, List.append_nil, List.replicate_succ, List.replicate_zero, Nat.reduceSub, Nat.reduceAdd, List.getElem?_cons_zero, List.getElem?_cons_succ, List.getD_cons_zero, List.getD_cons_succ, List.set_cons_zero, List.set_cons_succ, List.length_cons, List.length_nil, List.map_append])
    rw [hl]
    refine sp_row (h.row x hx).1 (h.row x hx).2 fun e => ?_
    (try simp only [RP_varm, RP_holem, RP_c, RP_1, RP_2, RP_3, RP_f, RP_nil, RP_cons, RP_if, RP_and, RP_or, RP_not, RP_B, RP_qt, RP_perm, RP_pn, RP_ps, RP_sl, RP_call, RP_src2, SrcP_l, SrcP_t, SrcP_pl, SrcP_row, SrcP_tab, RP_r1, RP_r2, RP_en2, EnP_l, EnP_row, EnP_tab, LsP_l, LsP_pl, RP_lc, RP_yes, RP_pop, RP_lr, RP_fl, RP_dct1, RP_asL,  SP_nx, SP_seq, SP_drop, SP_ret, SP_set, SP_if, SP_sub, SP_sub2, SP_app, SP_app2, SP_tgt, SP_par, SP_parO, SP_str, SP_uT, SP_uN, SP_uC, SP_uS, SP_subK, SP_for, FP_fn, OP_gT, OP_gC, OP_gE, OP_some, OP_map, OP_add, OP_sub, OP_mul, OP_fdiv, OP_fmod, OP_pow, OP_neg, OP_lt, OP_le, OP_gt, OP_ge, OP_eqi, OP_nei, OP_bits, OP_int, OP_intb, OP_tup, OP_lst, OP_lenl, OP_lent, OP_lenf, OP_abs, OP_max2, OP_min2, OP_gcd, OP_ixl, OP_ixt, OP_ixf, OP_cat, OP_rep, OP_subb, OP_gN, OP_eqs, OP_eq00, OP_ne00, OP_dct1, OP_nepl, OP_eqpl, OP_isLp, OP_pop0, OP_apppl, OP_lenpl, OP_lentab, OP_inpl, OP_ninpl, OP_indk, OP_nindk, OP_setK, BQ_b, BP_t, BP_f, BP_d, BP_n, BP_eq, ↓reduceIte, Option.map_some, is_non_np, is_non_ng, is_non_tp, is_non_tg, is_non_fp, is_non_fg, is_bl_np, is_bl_ng, is_bl_tp, is_bl_tg, is_bl_fp, is_bl_fg, is_int_np, is_int_ng, is_int_tp, is_int_tg, is_int_fp, is_int_fg, is_str_np, is_str_ng, is_str_tp, is_str_tg, is_str_fp, is_str_fg, is_lst_np, is_lst_ng, is_lst_tp, is_lst_tg, is_lst_fp, is_lst_fg, is_tup_np, is_tup_ng, is_tup_tp, is_tup_tg, is_tup_fp, is_tup_fg, isi_non_int, isi_non_bool, isi_non_list, isi_non_tuple, isi_non_str, isi_non_dict, isi_non_lt, isi_bl_int, isi_bl_bool, isi_bl_list, isi_bl_tuple, isi_bl_str, isi_bl_dict, isi_bl_lt, isi_int_int, isi_int_bool, isi_int_list, isi_int_tuple, isi_int_str, isi_int_dict, isi_int_lt, isi_str_int, isi_str_bool, isi_str_list, isi_str_tuple, isi_str_str, isi_str_dict, isi_str_lt, isi_lst_int, isi_lst_bool, isi_lst_list, isi_lst_tuple, isi_lst_str, isi_lst_dict, isi_lst_lt, isi_tup_int, isi_tup_bool, isi_tup_list, isi_tup_tuple, isi_tup_str, isi_tup_dict, isi_tup_lt,  at0, at1, at2, at3, set0, set1, set2, setD_l, fillIO, putIO, ioN, permO, wpE_n, wpE_c, rst_n, rst_c, isFl, List.map_cons, List.map_nil, List.cons_append, List.nil_append, List.append_nil, List.replicate_succ, List.replicate_zero, Nat.reduceSub, Nat.reduceAdd, List.getElem?_cons_zero, List.getElem?_cons_succ, List.getD_cons_zero, List.getD_cons_succ, List.set_cons_zero, List.set_cons_succ, List.length_cons, List.length_nil, List.map_append])
    (first | exact trivial | (simp; done) | (simp_all; done))
  · rw [filter_none fun _ _ => rfl]
    (try simp only [RP_varm, RP_holem, RP_c, RP_1, RP_2, RP_3, RP_f, RP_nil, RP_cons, RP_if, RP_and, RP_or, RP_not, RP_B, RP_qt, RP_perm, RP_pn, RP_ps, RP_sl, RP_call, RP_src2, SrcP_l, SrcP_t, SrcP_pl, SrcP_row, SrcP_tab, RP_r1, RP_r2, RP_en2, EnP_l, EnP_row, EnP_tab, LsP_l, LsP_pl, RP_lc, RP_yes, RP_pop, RP_lr, RP_fl, RP_dct1, RP_asL,  SP_nx, SP_seq, SP_drop, SP_ret, SP_set, SP_if, SP_sub, SP_sub2, SP_app, SP_app2, SP_tgt, SP_par, SP_parO, SP_str, SP_uT, SP_uN, SP_uC, SP_uS, SP_subK, SP_for, FP_fn, OP_gT, OP_gC, OP_gE, OP_some, OP_map, OP_add, OP_sub, OP_mul, OP_fdiv, OP_fmod, OP_pow, OP_neg, OP_lt, OP_le, OP_gt, OP_ge, OP_eqi, OP_nei, OP_bits, OP_int, OP_intb, OP_tup, OP_lst, OP_lenl, OP_lent, OP_lenf, OP_abs, OP_max2, OP_min2, OP_gcd, OP_ixl, OP_ixt, OP_ixf, OP_cat, OP_rep, OP_subb, OP_gN, OP_eqs, OP_eq00, OP_ne00, OP_dct1, OP_nepl, OP_eqpl, OP_isLp, OP_pop0, OP_apppl, OP_lenpl, OP_lentab, OP_inpl, OP_ninpl, OP_indk, OP_nindk, OP_setK, BQ_b, BP_t, BP_f, BP_d, BP_n, BP_eq, ↓reduceIte, Option.map_some, is_non_np, is_non_ng, is_non_tp, is_non_tg, is_non_fp, is_non_fg, is_bl_np, is_bl_ng, is_bl_tp, is_bl_tg, is_bl_fp, is_bl_fg, is_int_np, is_int_ng, is_int_tp, is_int_tg, is_int_fp, is_int_fg, is_str_np, is_str_ng, is_str_tp, is_str_tg, is_str_fp, is_str_fg, is_lst_np, is_lst_ng, is_lst_tp, is_lst_tg, is_lst_fp, is_lst_fg, is_tup_np, is_tup_ng, is_tup_tp, is_tup_tg, is_tup_fp, is_tup_fg, isi_non_int, isi_non_bool, isi_non_list, isi_non_tuple, isi_non_str, isi_non_dict, isi_non_lt, isi_bl_int, isi_bl_bool, isi_bl_list, isi_bl_tuple, isi_bl_str, isi_bl_dict, isi_bl_lt, isi_int_int, isi_int_bool, isi_int_list, isi_int_tuple, isi_int_str, isi_int_dict, isi_int_lt, isi_str_int, isi_str_bool, isi_str_list, isi_str_tuple, isi_str_str, isi_str_dict, isi_str_lt, isi_lst_int, isi_lst_bool, isi_lst_list, isi_lst_tuple, isi_lst_str, isi_lst_dict, isi_lst_lt, isi_tup_int, isi_tup_bool, isi_tup_list, isi_tup_tuple, isi_tup_str, isi_tup_dict, isi_tup_lt,  at0, at1, at2, at3, set0, set1, set2, setD_l, fillIO, putIO, ioN, permO, wpE_n, wpE_c, rst_n, rst_c, isFl, List.map_cons, List.map_nil, List.cons_append, List.nil_append, List.append_nil, List.replicate_succ, List.replicate_zero, Nat.reduceSub, Nat.reduceAdd, List.getElem?_cons_zero, List.getElem?_cons_succ, List.getD_cons_zero, List.getD_cons_succ, List.set_cons_zero, List.set_cons_succ, List.length_cons, List.length_nil, List.map_append])
    refine ⟨by decide, by decide, ?_⟩
    rw [enumD_zip]
    refine RP_lcP (fun p => false) (fun p => .int (p.2 : Int)) (fun p hp => ?_) ?_
    · obtain ⟨d, i⟩ := p
      have hm := List.mem_zipIdx hp
      have hi : i < n := by rw [← hl]; have := hm.2.1; omega
      have hd : d = rowD (T.getD i []) := by
        have e := hm.2.2
        rw [e, List.getElem_map, List.getD_eq_getElem?_getD, List.getElem?_eq_getElem (by rw [h.len]; exact hi)]
        rfl
      subst hd
      (try simp only [RP_varm, RP_holem, RP_c, RP_1, RP_2, RP_3, RP_f, RP_nil, RP_cons, RP_if, RP_and, RP_or, RP_not, RP_B, RP_qt, RP_perm, RP_pn, RP_ps, RP_sl, RP_call, RP_src2, SrcP_l, SrcP_t, SrcP_pl, SrcP_row, SrcP_tab, RP_r1, RP_r2, RP_en2, EnP_l, EnP_row, EnP_tab, LsP_l, LsP_pl, RP_lc, RP_yes, RP_pop, RP_lr, RP_fl, RP_dct1, RP_asL,  SP_nx, SP_seq, SP_drop, SP_ret, SP_set, SP_if, SP_sub, SP_sub2, SP_app, SP_app2, SP_tgt, SP_par, SP_parO, SP_str, SP_uT, SP_uN, SP_uC, SP_uS, SP_subK, SP_for, FP_fn, OP_gT, OP_gC, OP_gE, OP_some, OP_map, OP_add, OP_sub, OP_mul, OP_fdiv, OP_fmod, OP_pow, OP_neg, OP_lt, OP_le, OP_gt, OP_ge, OP_eqi, OP_nei, OP_bits, OP_int, OP_intb, OP_tup, OP_lst, OP_lenl, OP_lent, OP_lenf, OP_abs, OP_max2, OP_min2, OP_gcd, OP_ixl, OP_ixt, OP_ixf, OP_cat, OP_rep, OP_subb, OP_gN, OP_eqs, OP_eq00, OP_ne00, OP_dct1, OP_nepl, OP_eqpl, OP_isLp, OP_pop0, OP_apppl, OP_lenpl, OP_lentab, OP_inpl, OP_ninpl, OP_indk, OP_nindk, OP_setK, BQ_b, BP_t, BP_f, BP_d, BP_n, BP_eq, ↓reduceIte, Option.map_some, is_non_np, is_non_ng, is_non_tp, is_non_tg, is_non_fp, is_non_fg, is_bl_np, is_bl_ng, is_bl_tp, is_bl_tg, is_bl_fp, is_bl_fg, is_int_np, is_int_ng, is_int_tp, is_int_tg, is_int_fp, is_int_fg, is_str_np, is_str_ng, is_str_tp, is_str_tg, is_str_fp, is_str_fg, is_lst_np, is_lst_ng, is_lst_tp, is_lst_tg, is_lst_fp, is_lst_fg, is_tup_np, is_tup_ng, is_tup_tp, is_tup_tg, is_tup_fp, is_tup_fg, isi_non_int, isi_non_bool, isi_non_list, isi_non_tuple, isi_non_str, isi_non_dict, isi_non_lt, isi_bl_int, isi_bl_bool, isi_bl_list, isi_bl_tuple, isi_bl_str, isi_bl_dict, isi_bl_lt, isi_int_int, isi_int_bool, isi_int_list, isi_int_tuple, isi_int_str, isi_int_dict, isi_int_lt, isi_str_int, isi_str_bool, isi_str_list, isi_str_tuple, isi_str_str, isi_str_dict, isi_str_lt, isi_lst_int, isi_lst_bool, isi_lst_list, isi_lst_tuple, isi_lst_str, isi_lst_dict, isi_lst_lt, isi_tup_int, isi_tup_bool, isi_tup_list, isi_tup_tuple, isi_tup_str, isi_tup_dict, isi_tup_lt,  at0, at1, at2, at3, set0, set1, set2, setD_l, fillIO, putIO, ioN, permO, wpE_n, wpE_c, rst_n, rst_c, isFl, List.map_cons, List.map_nil, List.cons_append, List.nil_append, List.append_nil, List.replicate_succ, List.replicate_zero, Nat.reduceSub, Nat.reduceAdd, List.getElem?_cons_zero, List.getElem?_cons_succ, List.getD_cons_zero, List.getD_cons_succ, List.set_cons_zero, List.set_cons_succ, List.length_cons, List.length_nil, List.map_append])
      rw [OP_row (by rw [h.rowLen hi]; exact hi)]
      (try simp only [RP_varm, RP_holem, RP_c, RP_1, RP_2, RP_3, RP_f, RP_nil, RP_cons, RP_if, RP_and, RP_or, RP_not, RP_B, RP_qt, RP_perm, RP_pn, RP_ps, RP_sl, RP_call, RP_src2, SrcP_l, SrcP_t, SrcP_pl, SrcP_row, SrcP_tab, RP_r1, RP_r2, RP_en2, EnP_l, EnP_row, EnP_tab, LsP_l, LsP_pl, RP_lc, RP_yes, RP_pop, RP_lr, RP_fl, RP_dct1, RP_asL,  SP_nx, SP_seq, SP_drop, SP_ret, SP_set, SP_if, SP_sub, SP_sub2, SP_app, SP_app2, SP_tgt, SP_par, SP_parO, SP_str, SP_uT, SP_uN, SP_uC, SP_uS, SP_subK, SP_for, FP_fn, OP_gT, OP_gC, OP_gE, OP_some, OP_map, OP_add, OP_sub, OP_mul, OP_fdiv, OP_fmod, OP_pow, OP_neg, OP_lt, OP_le, OP_gt, OP_ge, OP_eqi, OP_nei, OP_bits, OP_int, OP_intb, OP_tup, OP_lst, OP_lenl, OP_lent, OP_lenf, OP_abs, OP_max2, OP_min2, OP_gcd, OP_ixl, OP_ixt, OP_ixf, OP_cat, OP_rep, OP_subb, OP_gN, OP_eqs, OP_eq00, OP_ne00, OP_dct1, OP_nepl, OP_eqpl, OP_isLp, OP_pop0, OP_apppl, OP_lenpl, OP_lentab, OP_inpl, OP_ninpl, OP_indk, OP_nindk, OP_setK, BQ_b, BP_t, BP_f, BP_d, BP_n, BP_eq, ↓reduceIte, Option.map_some, is_non_np, is_non_ng, is_non_tp, is_non_tg, is_non_fp, is_non_fg, is_bl_np, is_bl_ng, is_bl_tp, is_bl_tg, is_bl_fp, is_bl_fg, is_int_np, is_int_ng, is_int_tp, is_int_tg, is_int_fp, is_int_fg, is_str_np, is_str_ng, is_str_tp, is_str_tg, is_str_fp, is_str_fg, is_lst_np, is_lst_ng, is_lst_tp, is_lst_tg, is_lst_fp, is_lst_fg, is_tup_np, is_tup_ng, is_tup_tp, is_tup_tg, is_tup_fp, is_tup_fg, isi_non_int, isi_non_bool, isi_non_list, isi_non_tuple, isi_non_str, isi_non_dict, isi_non_lt, isi_bl_int, isi_bl_bool, isi_bl_list, isi_bl_tuple, isi_bl_str, isi_bl_dict, isi_bl_lt, isi_int_int, isi_int_bool, isi_int_list, isi_int_tuple, isi_int_str, isi_int_dict, isi_int_lt, isi_str_int, isi_str_bool, isi_str_list, isi_str_tuple, isi_str_str, isi_str_dict, isi_str_lt, isi_lst_int, isi_lst_bool, isi_lst_list, isi_lst_tuple, isi_lst_str, isi_lst_dict, isi_lst_lt, isi_tup_int, isi_tup_bool, isi_tup_list, isi_tup_tuple, isi_tup_str, isi_tup_dict, isi_tup_lt,  at0, at1, at2, at3, set0, set1, set2, setD_l, fillIO, putIO, ioN, permO, wpE_n, wpE_c, rst_n, rst_c, isFl, List.map_cons, List.map_nil, List.cons_append, List.nil_append, List.append_nil, List.replicate_succ, List.replicate_zero, Nat.reduceSub, Nat.reduceAdd, List.getElem?_cons_zero, List.getElem?_cons_succ, List.getD_cons_zero, List.getD_cons_succ, List.set_cons_zero, List.set_cons_succ, List.length_cons, List.length_nil, List.map_append])
      have z : (T.getD i []).getD i 0 = 0 := h.dia i hi
      rw [z]
      (first | exact trivial | (simp; done) | (simp_all; done))
    · rw [filter_none fun _ _ => rfl]
      (try simp only [RP_varm, RP_holem, RP_c, RP_1, RP_2, RP_3, RP_f, RP_nil, RP_cons, RP_if, RP_and, RP_or, RP_not, RP_B, RP_qt, RP_perm, RP_pn, RP_ps, RP_sl, RP_call, RP_src2, SrcP_l, SrcP_t, SrcP_pl, SrcP_row, SrcP_tab, RP_r1, RP_r2, RP_en2, EnP_l, EnP_row, EnP_tab, LsP_l, LsP_pl, RP_lc, RP_yes, RP_pop, RP_lr, RP_fl, RP_dct1, RP_asL,  SP_nx, SP_seq, SP_drop, SP_ret, SP_set, SP_if, SP_sub, SP_sub2, SP_app, SP_app2, SP_tgt, SP_par, SP_parO, SP_str, SP_uT, SP_uN, SP_uC, SP_uS, SP_subK, SP_for, FP_fn, OP_gT, OP_gC, OP_gE, OP_some, OP_map, OP_add, OP_sub, OP_mul, OP_fdiv, OP_fmod, OP_pow, OP_neg, OP_lt, OP_le, OP_gt, OP_ge, OP_eqi, OP_nei, OP_bits, OP_int, OP_intb, OP_tup, OP_lst, OP_lenl, OP_lent, OP_lenf, OP_abs, OP_max2, OP_min2, OP_gcd, OP_ixl, OP_ixt, OP_ixf, OP_cat, OP_rep, OP_subb, OP_gN, OP_eqs, OP_eq00, OP_ne00, OP_dct1, OP_nepl, OP_eqpl, OP_isLp, OP_pop0, OP_apppl, OP_lenpl, OP_lentab, OP_inpl, OP_ninpl, OP_indk, OP_nindk, OP_setK, BQ_b, BP_t, BP_f, BP_d, BP_n, BP_eq, ↓reduceIte, Option.map_some, is_non_np, is_non_ng, is_non_tp, is_non_tg, is_non_fp, is_non_fg, is_bl_np, is_bl_ng, is_bl_tp, is_bl_tg, is_bl_fp, is_bl_fg, is_int_np, is_int_ng, is_int_tp, is_int_tg, is_int_fp, is_int_fg, is_str_np, is_str_ng, is_str_tp, is_str_tg, is_str_fp, is_str_fg, is_lst_np, is_lst_ng, is_lst_tp, is_lst_tg, is_lst_fp, is_lst_fg, is_tup_np, is_tup_ng, is_tup_tp, is_tup_tg, is_tup_fp, is_tup_fg, isi_non_int, isi_non_bool, isi_non_list, isi_non_tuple, isi_non_str, isi_non_dict, isi_non_lt, isi_bl_int, isi_bl_bool, isi_bl_list, isi_bl_tuple, isi_bl_str, isi_bl_dict, isi_bl_lt, isi_int_int, isi_int_bool, isi_int_list, isi_int_tuple, isi_int_str, isi_int_dict, isi_int_lt, isi_str_int, isi_str_bool, isi_str_list, isi_str_tuple, isi_str_str, isi_str_dict, isi_str_lt, isi_lst_int, isi_lst_bool, isi_lst_list, isi_lst_tuple, isi_lst_str, isi_lst_dict, isi_lst_lt, isi_tup_int, isi_tup_bool, isi_tup_list, isi_tup_tuple, isi_tup_str, isi_tup_dict, isi_tup_lt,  at0, at1, at2, at3, set0, set1, set2, setD_l, fillIO, putIO, ioN, permO, wpE_n, wpE_c, rst_n, rst_c, isFl, List.map_cons, List.map_nil, List.cons_append, List.nil_append, List.append_nil, List.replicate_succ, List.replicate_zero, Nat.reduceSub, Nat.reduceAdd, List.getElem?_cons_zero, List.getElem?_cons_succ, List.getD_cons_zero, List.getD_cons_succ, List.set_cons_zero, List.set_cons_succ, List.length_cons, List.length_nil, List.map_append])
      exact ⟨by decide, by decide, q _⟩
theorem sp_chk (h : Tab n T) (q : ∀ e, Q .non e) : FP (m_check_table [tabD T]) Q := by
  unfold m_check_table b_check_table
  (try simp only [RP_varm, RP_holem, RP_c, RP_1, RP_2, RP_3, RP_f, RP_nil, RP_cons, RP_if, RP_and, RP_or, RP_not, RP_B, RP_qt, RP_perm, RP_pn, RP_ps, RP_sl, RP_call, RP_src2, SrcP_l, SrcP_t, SrcP_pl, SrcP_row, SrcP_tab, RP_r1, RP_r2, RP_en2, EnP_l, EnP_row, EnP_tab, LsP_l, LsP_pl, RP_lc, RP_yes, RP_pop, RP_lr, RP_fl, RP_dct1, RP_asL,  SP_nx, SP_seq, SP_drop, SP_ret, SP_set, SP_if, SP_sub, SP_sub2, SP_app, SP_app2, SP_tgt, SP_par, SP_parO, SP_str, SP_uT, SP_uN, SP_uC, SP_uS, SP_subK, SP_for, FP_fn, OP_gT, OP_gC, OP_gE, OP_some, OP_map, OP_add, OP_sub, OP_mul, OP_fdiv, OP_fmod, OP_pow, OP_neg, OP_lt, OP_le, OP_gt, OP_ge, OP_eqi, OP_nei, OP_bits, OP_int, OP_intb, OP_tup, OP_lst, OP_lenl, OP_lent, OP_lenf, OP_abs, OP_max2, OP_min2, OP_gcd, OP_ixl, OP_ixt, OP_ixf, OP_cat, OP_rep, OP_subb, OP_gN, OP_eqs, OP_eq00, OP_ne00, OP_dct1, OP_nepl, OP_eqpl, OP_isLp, OP_pop0, OP_apppl, OP_lenpl, OP_lentab, OP_inpl, OP_ninpl, OP_indk, OP_nindk, OP_setK, BQ_b, BP_t, BP_f, BP_d, BP_n, BP_eq, ↓reduceIte, Option.map_some, is_non_np, is_non_ng, is_non_tp, is_non_tg, is_non_fp, is_non_fg, is_bl_np, is_bl_ng, is_bl_tp, is_bl_tg, is_bl_fp, is_bl_fg, is_int_np, is_int_ng, is_int_tp, is_int_tg, is_int_fp, is_int_fg, is_str_np, is_str_ng, is_str_tp, is_str_tg, is_str_fp, is_str_fg, is_lst_np, is_lst_ng, is_lst_tp, is_lst_tg, is_lst_fp, is_lst_fg, is_tup_np, is_tup_ng, is_tup_tp, is_tup_tg, is_tup_fp, is_tup_fg, isi_non_int, isi_non_bool, isi_non_list, isi_non_tuple, isi_non_str, isi_non_dict, isi_non_lt, isi_bl_int, isi_bl_bool, isi_bl_list, isi_bl_tuple, isi_bl_str, isi_bl_dict, isi_bl_lt, isi_int_int, isi_int_bool, isi_int_list, isi_int_tuple, isi_int_str, isi_int_dict, isi_int_lt, isi_str_int, isi_str_bool, isi_str_list, isi_str_tuple, isi_str_str, isi_str_dict, isi_str_lt, isi_lst_int, isi_lst_bool, isi_lst_list, isi_lst_tuple, isi_lst_str, isi_lst_dict, isi_lst_lt, isi_tup_int, isi_tup_bool, isi_tup_list, isi_tup_tuple, isi_tup_str, isi_tup_dict, isi_tup_lt,  at0, at1, at2, at3, set0, set1, set2, setD_l, fillIO, putIO, ioN, permO, wpE_n, wpE_c, rst_n, rst_c, isFl, List.map_cons, List.map_nil, List.cons_append, List.nil_append, List.append_nil, List.replicate_succ, List.replicate_zero, Nat.reduceSub, Nat.reduceAdd, List.getElem?_cons_zero, List.getElem?_cons_succ, List.getD_cons_zero, List.getD_cons_succ, List.set_cons_zero, List.set_cons_succ, List.length_cons, List.length_nil, List.map_append])
  refine sp_table h fun e => ?_
  (try simp only [RP_varm, RP_holem, RP_c, RP_1, RP_2, RP_3, RP_f, RP_nil, RP_cons, RP_if, RP_and, RP_or, RP_not, RP_B, RP_qt, RP_perm, RP_pn, RP_ps, RP_sl, RP_call, RP_src2, SrcP_l, SrcP_t, SrcP_pl, SrcP_row, SrcP_tab, RP_r1, RP_r2, RP_en2, EnP_l, EnP_row, EnP_tab, LsP_l, LsP_pl, RP_lc, RP_yes, RP_pop, RP_lr, RP_fl, RP_dct1, RP_asL,  SP_nx, SP_seq, SP_drop, SP_ret, SP_set, SP_if, SP_sub, SP_sub2, SP_app, SP_app2, SP_tgt, SP_par, SP_parO, SP_str, SP_uT, SP_uN, SP_uC, SP_uS, SP_subK, SP_for, FP_fn, OP_gT, OP_gC, OP_gE, OP_some, OP_map, OP_add, OP_sub, OP_mul, OP_fdiv, OP_fmod, OP_pow, OP_neg, OP_lt, OP_le, OP_gt, OP_ge, OP_eqi, OP_nei, OP_bits, OP_int, OP_intb, OP_tup, OP_lst, OP_lenl, OP_lent, OP_lenf, OP_abs, OP_max2, OP_min2, OP_gcd, OP_ixl, OP_ixt, OP_ixf, OP_cat, OP_rep, OP_subb, OP_gN, OP_eqs, OP_eq00, OP_ne00, OP_dct1, OP_nepl, OP_eqpl, OP_isLp, OP_pop0, OP_apppl, OP_lenpl, OP_lentab, OP_inpl, OP_ninpl, OP_indk, OP_nindk, OP_setK, BQ_b, BP_t, BP_f, BP_d, BP_n, BP_eq, ↓reduceIte, Option.map_some, is_non_np, is_non_ng, is_non_tp, is_non_tg, is_non_fp, is_non_fg, is_bl_np, is_bl_ng, is_bl_tp, is_bl_tg, is_bl_fp, is_bl_fg, is_int_np, is_int_ng, is_int_tp, is_int_tg, is_int_fp, is_int_fg, is_str_np, is_str_ng, is_str_tp, is_str_tg, is_str_fp, is_str_fg, is_lst_np, is_lst_ng, is_lst_tp, is_lst_tg, is_lst_fp, is_lst_fg, is_tup_np, is_tup_ng, is_tup_tp, is_tup_tg, is_tup_fp, is_tup_fg, isi_non_int, isi_non_bool, isi_non_list, isi_non_tuple, isi_non_str, isi_non_dict, isi_non_lt, isi_bl_int, isi_bl_bool, isi_bl_list, isi_bl_tuple, isi_bl_str, isi_bl_dict, isi_bl_lt, isi_int_int, isi_int_bool, isi_int_list, isi_int_tuple, isi_int_str, isi_int_dict, isi_int_lt, isi_str_int, isi_str_bool, isi_str_list, isi_str_tuple, isi_str_str, isi_str_dict, isi_str_lt, isi_lst_int, isi_lst_bool, isi_lst_list, isi_lst_tuple, isi_lst_str, isi_lst_dict, isi_lst_lt, isi_tup_int, isi_tup_bool, isi_tup_list, isi_tup_tuple, isi_tup_str, isi_tup_dict, isi_tup_lt,  at0, at1, at2, at3, set0, set1, set2, setD_l, fillIO, putIO, ioN, permO, wpE_n, wpE_c, rst_n, rst_c, isFl, List.map_cons, List.map_nil, List.cons_append, List.nil_append, List.append_nil, List.replicate_succ, List.replicate_zero, Nat.reduceSub, Nat.reduceAdd, List.getElem?_cons_zero, List.getElem?_cons_succ, List.getD_cons_zero, List.getD_cons_succ, List.set_cons_zero, List.set_cons_succ, List.length_cons, List.length_nil, List.map_append])
  exact ⟨trivial, q _⟩
theorem sp_chkPlayer {p : Nat} (h : p < n) (q : ∀ e, Q .non e) : FP (m_check_player [.int (n : Int), .int (p : Int)]) Q := by
  unfold m_check_player b_check_player
  (try simp only [RP_varm, RP_holem, RP_c, RP_1, RP_2, RP_3, RP_f, RP_nil, RP_cons, RP_if, RP_and, RP_or, RP_not, RP_B, RP_qt, RP_perm, RP_pn, RP_ps, RP_sl, RP_call, RP_src2, SrcP_l, SrcP_t, SrcP_pl, SrcP_row, SrcP_tab, RP_r1, RP_r2, RP_en2, EnP_l, EnP_row, EnP_tab, LsP_l, LsP_pl, RP_lc, RP_yes, RP_pop, RP_lr, RP_fl, RP_dct1, RP_asL,  SP_nx, SP_seq, SP_drop, SP_ret, SP_set, SP_if, SP_sub, SP_sub2, SP_app, SP_app2, SP_tgt, SP_par, SP_parO, SP_str, SP_uT, SP_uN, SP_uC, SP_uS, SP_subK, SP_for, FP_fn, OP_gT, OP_gC, OP_gE, OP_some, OP_map, OP_add, OP_sub, OP_mul, OP_fdiv, OP_fmod, OP_pow, OP_neg, OP_lt, OP_le, OP_gt, OP_ge, OP_eqi, OP_nei, OP_bits, OP_int, OP_intb, OP_tup, OP_lst, OP_lenl, OP_lent, OP_lenf, OP_abs, OP_max2, OP_min2, OP_gcd, OP_ixl, OP_ixt, OP_ixf, OP_cat, OP_rep, OP_subb, OP_gN, OP_eqs, OP_eq00, OP_ne00, OP_dct1, OP_nepl, OP_eqpl, OP_isLp, OP_pop0, OP_apppl, OP_lenpl, OP_lentab, OP_inpl, OP_ninpl, OP_indk, OP_nindk, OP_setK, BQ_b, BP_t, BP_f, BP_d, BP_n, BP_eq, ↓reduceIte, Option.map_some, is_non_np, is_non_ng, is_non_tp, is_non_tg, is_non_fp, is_non_fg, is_bl_np, is_bl_ng, is_bl_tp, is_bl_tg, is_bl_fp, is_bl_fg, is_int_np, is_int_ng, is_int_tp, is_int_tg, is_int_fp, is_int_fg, is_str_np, is_str_ng, is_str_tp, is_str_tg, is_str_fp, is_str_fg, is_lst_np, is_lst_ng, is_lst_tp, is_lst_tg, is_lst_fp, is_lst_fg, is_tup_np, is_tup_ng, is_tup_tp, is_tup_tg, is_tup_fp, is_tup_fg, isi_non_int, isi_non_bool, isi_non_list, isi_non_tuple, isi_non_str, isi_non_dict, isi_non_lt, isi_bl_int, isi_bl_bool, isi_bl_list, isi_bl_tuple, isi_bl_str, isi_bl_dict, isi_bl_lt, isi_int_int, isi_int_bool, isi_int_list, isi_int_tuple, isi_int_str, isi_int_dict, isi_int_lt, isi_str_int, isi_str_bool, isi_str_list, isi_str_tuple, isi_str_str, isi_str_dict, isi_str_lt, isi_lst_int, isi_lst_bool, isi_lst_list, isi_lst_tuple, isi_lst_str, isi_lst_dict, isi_lst_lt, isi_tup_int, isi_tup_bool, isi_tup_list, isi_tup_tuple, isi_tup_str, isi_tup_dict, isi_tup_lt,  at0, at1, at2, at3, set0, set1, set2, setD_l, fillIO, putIO, ioN, permO, wpE_n, wpE_c, rst_n, rst_c, isFl, List.map_cons, List.map_nil, List.cons_append, List.nil_append, List.append_nil, List.replicate_succ, List.replicate_zero, Nat.reduceSub, Nat.reduceAdd, List.getElem?_cons_zero, List.getElem?_cons_succ, List.getD_cons_zero, List.getD_cons_succ, List.set_cons_zero, List.set_cons_succ, List.length_cons, List.length_nil, List.map_append])
  refine sp_below fun e => ?_
  (try simp only [RP_varm, RP_holem, RP_c, RP_1, RP_2, RP_3, RP_f, RP_nil, RP_cons, RP_if, RP_and, RP_or, RP_not, RP_B, RP_qt, RP_perm, RP_pn, RP_ps, RP_sl, RP_call, RP_src2, SrcP_l, SrcP_t, SrcP_pl, SrcP_row, SrcP_tab, RP_r1, RP_r2, RP_en2, EnP_l, EnP_row, EnP_tab, LsP_l, LsP_pl, RP_lc, RP_yes, RP_pop, RP_lr, RP_fl, RP_dct1, RP_asL,  SP_nx, SP_seq, SP_drop, SP_ret, SP_set, SP_if, SP_sub, SP_sub2, SP_app, SP_app2, SP_tgt, SP_par, SP_parO, SP_str, SP_uT, SP_uN, SP_uC, SP_uS, SP_subK, SP_for, FP_fn, OP_gT, OP_gC, OP_gE, OP_some, OP_map, OP_add, OP_sub, OP_mul, OP_fdiv, OP_fmod, OP_pow, OP_neg, OP_lt, OP_le, OP_gt, OP_ge, OP_eqi, OP_nei, OP_bits, OP_int, OP_intb, OP_tup, OP_lst, OP_lenl, OP_lent, OP_lenf, OP_abs, OP_max2, OP_min2, OP_gcd, OP_ixl, OP_ixt, OP_ixf, OP_cat, OP_rep, OP_subb, OP_gN, OP_eqs, OP_eq00, OP_ne00, OP_dct1, OP_nepl, OP_eqpl, OP_isLp, OP_pop0, OP_apppl, OP_lenpl, OP_lentab, OP_inpl, OP_ninpl, OP_indk, OP_nindk, OP_setK, BQ_b, BP_t, BP_f, BP_d, BP_n, BP_eq, ↓reduceIte, Option.map_some, is_non_np, is_non_ng, is_non_tp, is_non_tg, is_non_fp, is_non_fg, is_bl_np, is_bl_ng, is_bl_tp, is_bl_tg, is_bl_fp, is_bl_fg, is_int_np, is_int_ng, is_int_tp, is_int_tg, is_int_fp, is_int_fg, is_str_np, is_str_ng, is_str_tp, is_str_tg, is_str_fp, is_str_fg, is_lst_np, is_lst_ng, is_lst_tp, is_lst_tg, is_lst_fp, is_lst_fg, is_tup_np, is_tup_ng, is_tup_tp, is_tup_tg, is_tup_fp, is_tup_fg, isi_non_int, isi_non_bool, isi_non_list, isi_non_tuple, isi_non_str, isi_non_dict, isi_non_lt, isi_bl_int, isi_bl_bool, isi_bl_list, isi_bl_tuple, isi_bl_str, isi_bl_dict, isi_bl_lt, isi_int_int, isi_int_bool, isi_int_list, isi_int_tuple, isi_int_str, isi_int_dict, isi_int_lt, isi_str_int, isi_str_bool, isi_str_list, isi_str_tuple, isi_str_str, isi_str_dict, isi_str_lt, isi_lst_int, isi_lst_bool, isi_lst_list, isi_lst_tuple, isi_lst_str, isi_lst_dict, isi_lst_lt, isi_tup_int, isi_tup_bool, isi_tup_list, isi_tup_tuple, isi_tup_str, isi_tup_dict, isi_tup_lt,  at0, at1, at2, at3, set0, set1, set2, setD_l, fillIO, putIO, ioN, permO, wpE_n, wpE_c, rst_n, rst_c, isFl, List.map_cons, List.map_nil, List.cons_append, List.nil_append, List.append_nil, List.replicate_succ, List.replicate_zero, Nat.reduceSub, Nat.reduceAdd, List.getElem?_cons_zero, List.getElem?_cons_succ, List.getD_cons_zero, List.getD_cons_succ, List.set_cons_zero, List.set_cons_succ, List.length_cons, List.length_nil, List.map_append])
  refine ⟨fun _ => ⟨trivial, q _⟩, fun z => absurd (by omega) z⟩
theorem sp_chkPair {p r : Nat} (h : p < n) (h2 : r < n) (h3 : p ≠ r) (q : ∀ e, Q .non e) : FP (m_check_pair [.int (n : Int), .int (p : Int), .int (r : Int)]) Q := by
  unfold m_check_pair b_check_pair
  (try simp only [RP_varm, RP_holem, RP_c, RP_1, RP_2, RP_3, RP_f, RP_nil, RP_cons, RP_if, RP_and, RP_or, RP_not, RP_B, RP_qt, RP_perm, RP_pn, RP_ps, RP_sl, RP_call, RP_src2, SrcP_l, SrcP_t, SrcP_pl, SrcP_row, SrcP_tab, RP_r1, RP_r2, RP_en2, EnP_l, EnP_row, EnP_tab, LsP_l, LsP_pl, RP_lc, RP_yes, RP_pop, RP_lr, RP_fl, RP_dct1, RP_asL,  SP_nx, SP_seq, SP_drop, SP_ret, SP_set, SP_if, SP_sub, SP_sub2, SP_app, SP_app2, SP_tgt, SP_par, SP_parO, SP_str, SP_uT, SP_uN, SP_uC, SP_uS, SP_subK, SP_for, FP_fn, OP_gT, OP_gC, OP_gE, OP_some, OP_map, OP_add, OP_sub, OP_mul, OP_fdiv, OP_fmod, OP_pow, OP_neg, OP_lt, OP_le, OP_gt, OP_ge, OP_eqi, OP_nei, OP_bits, OP_int, OP_intb, OP_tup, OP_lst, OP_lenl, OP_lent, OP_lenf, OP_abs, OP_max2, OP_min2, OP_gcd, OP_ixl, OP_ixt, OP_ixf, OP_cat, OP_rep, OP_subb, OP_gN, OP_eqs, OP_eq00, OP_ne00, OP_dct1, OP_nepl, OP_eqpl, OP_isLp, OP_pop0, OP_apppl, OP_lenpl, OP_lentab, OP_inpl, OP_ninpl, OP_indk, OP_nindk, OP_setK, BQ_b, BP_t, BP_f, BP_d, BP_n, BP_eq, ↓reduceIte, Option.map_some, is_non_np, is_non_ng, is_non_tp, is_non_tg, is_non_fp, is_non_fg, is_bl_np, is_bl_ng, is_bl_tp, is_bl_tg, is_bl_fp, is_bl_fg, is_int_np, is_int_ng, is_int_tp, is_int_tg, is_int_fp, is_int_fg, is_str_np, is_str_ng, is_str_tp, is_str_tg, is_str_fp, is_str_fg, is_lst_np, is_lst_ng, is_lst_tp, is_lst_tg, is_lst_fp, is_lst_fg, is_tup_np, is_tup_ng, is_tup_tp, is_tup_tg, is_tup_fp, is_tup_fg, isi_non_int, isi_non_bool, isi_non_list, isi_non_tuple, isi_non_str, isi_non_dict, isi_non_lt, isi_bl_int, isi_bl_bool, isi_bl_list, isi_bl_tuple, isi_bl_str, isi_bl_dict, isi_bl_lt, isi_int_int, isi_int_bool, isi_int_list, isi_int_tuple, isi_int_str, isi_int_dict, isi_int_lt, isi_str_int, isi_str_bool, isi_str_list, isi_str_tuple, isi_str_str, isi_str_dict, isi_str_lt, isi_lst_int, isi_lst_bool, isi_lst_list, isi_lst_tuple, isi_lst_str, isi_lst_dict, isi_lst_lt, isi_tup_int, isi_tup_bool, isi_tup_list, isi_tup_tuple, isi_tup_str, isi_tup_dict, isi_tup_lt,  at0, at1, at2, at3, set0, set1, set2, setD_l, fillIO, putIO, ioN, permO, wpE_n, wpE_c, rst_n, rst_c, isFl, List.map_cons, List.map_nil, List.cons_append, List.nil_append, List.append_nil, List.replicate_succ, List.replicate_zero, Nat.reduceSub, Nat.reduceAdd, List.getElem?_cons_zero, List.getElem?_cons_succ, List.getD_cons_zero, List.getD_cons_succ, List.set_cons_zero, List.set_cons_succ, List.length_cons, List.length_nil, List.map_append])
  refine sp_chkPlayer h fun e => ?_
  (try simp only [RP_varm, RP_holem, RP_c, RP_1, RP_2, RP_3, RP_f, RP_nil, RP_cons, RP_if, RP_and, RP_or, RP_not, RP_B, RP_qt, RP_perm, RP_pn, RP_ps, RP_sl, RP_call, RP_src2, SrcP_l, SrcP_t, SrcP_pl, SrcP_row, SrcP_tab, RP_r1, RP_r2, RP_en2, EnP_l, EnP_row, EnP_tab, LsP_l, LsP_pl, RP_lc, RP_yes, RP_pop, RP_lr, RP_fl, RP_dct1, RP_asL,  SP_nx, SP_seq, SP_drop, SP_ret, SP_set, SP_if, SP_sub, SP_sub2, SP_app, SP_app2, SP_tgt, SP_par, SP_parO, SP_str, SP_uT, SP_uN, SP_uC, SP_uS, SP_subK, SP_for, FP_fn, OP_gT, OP_gC, OP_gE, OP_some, OP_map, OP_add, OP_sub, OP_mul, OP_fdiv, OP_fmod, OP_pow, OP_neg, OP_lt, OP_le, OP_gt, OP_ge, OP_eqi, OP_nei, OP_bits, OP_int, OP_intb, OP_tup, OP_lst, OP_lenl, OP_lent, OP_lenf, OP_abs, OP_max2, OP_min2, OP_gcd, OP_ixl, OP_ixt, OP_ixf, OP_cat, OP_rep, OP_subb, OP_gN, OP_eqs, OP_eq00, OP_ne00, OP_dct1, OP_nepl, OP_eqpl, OP_isLp, OP_pop0, OP_apppl, OP_lenpl, OP_lentab, OP_inpl, OP_ninpl, OP_indk, OP_nindk, OP_setK, BQ_b, BP_t, BP_f, BP_d, BP_n, BP_eq, ↓reduceIte, Option.map_some, is_non_np, is_non_ng, is_non_tp, is_non_tg, is_non_fp, is_non_fg, is_bl_np, is_bl_ng, is_bl_tp, is_bl_tg, is_bl_fp, is_bl_fg, is_int_np, is_int_ng, is_int_tp, is_int_tg, is_int_fp, is_int_fg, is_str_np, is_str_ng, is_str_tp, is_str_tg, is_str_fp, is_str_fg, is_lst_np, is_lst_ng, is_lst_tp, is_lst_tg, is_lst_fp, is_lst_fg, is_tup_np, is_tup_ng, is_tup_tp, is_tup_tg, is_tup_fp, is_tup_fg, isi_non_int, isi_non_bool, isi_non_list, isi_non_tuple, isi_non_str, isi_non_dict, isi_non_lt, isi_bl_int, isi_bl_bool, isi_bl_list, isi_bl_tuple, isi_bl_str, isi_bl_dict, isi_bl_lt, isi_int_int, isi_int_bool, isi_int_list, isi_int_tuple, isi_int_str, isi_int_dict, isi_int_lt, isi_str_int, isi_str_bool, isi_str_list, isi_str_tuple, isi_str_str, isi_str_dict, isi_str_lt, isi_lst_int, isi_lst_bool, isi_lst_list, isi_lst_tuple, isi_lst_str, isi_lst_dict, isi_lst_lt, isi_tup_int, isi_tup_bool, isi_tup_list, isi_tup_tuple, isi_tup_str, isi_tup_dict, isi_tup_lt,  at0, at1, at2, at3, set0, set1, set2, setD_l, fillIO, putIO, ioN, permO, wpE_n, wpE_c, rst_n, rst_c, isFl, List.map_cons, List.map_nil, List.cons_append, List.nil_append, List.append_nil, List.replicate_succ, List.replicate_zero, Nat.reduceSub, Nat.reduceAdd, List.getElem?_cons_zero, List.getElem?_cons_succ, List.getD_cons_zero, List.getD_cons_succ, List.set_cons_zero, List.set_cons_succ, List.length_cons, List.length_nil, List.map_append])
  refine sp_chkPlayer h2 fun e => ?_
  (try simp only [RP_varm, RP_holem, RP_c, RP_1, RP_2, RP_3, RP_f, RP_nil, RP_cons, RP_if, RP_and, RP_or, RP_not, RP_B, RP_qt, RP_perm, RP_pn, RP_ps, RP_sl, RP_call, RP_src2, SrcP_l, SrcP_t, SrcP_pl, SrcP_row, SrcP_tab, RP_r1, RP_r2, RP_en2, EnP_l, EnP_row, EnP_tab, LsP_l, LsP_pl, RP_lc, RP_yes, RP_pop, RP_lr, RP_fl, RP_dct1, RP_asL,  SP_nx, SP_seq, SP_drop, SP_ret, SP_set, SP_if, SP_sub, SP_sub2, SP_app, SP_app2, SP_tgt, SP_par, SP_parO, SP_str, SP_uT, SP_uN, SP_uC, SP_uS, SP_subK, SP_for, FP_fn, OP_gT, OP_gC, OP_gE, OP_some, OP_map, OP_add, OP_sub, OP_mul, OP_fdiv, OP_fmod, OP_pow, OP_neg, OP_lt, OP_le, OP_gt, OP_ge, OP_eqi, OP_nei, OP_bits, OP_int, OP_intb, OP_tup, OP_lst, OP_lenl, OP_lent, OP_lenf, OP_abs, OP_max2, OP_min2, OP_gcd, OP_ixl, OP_ixt, OP_ixf, OP_cat, OP_rep, OP_subb, OP_gN, OP_eqs, OP_eq00, OP_ne00, OP_dct1, OP_nepl, OP_eqpl, OP_isLp, OP_pop0, OP_apppl, OP_lenpl, OP_lentab, OP_inpl, OP_ninpl, OP_indk, OP_nindk, OP_setK, BQ_b, BP_t, BP_f, BP_d, BP_n, BP_eq, ↓reduceIte, Option.map_some, is_non_np, is_non_ng, is_non_tp, is_non_tg, is_non_fp, is_non_fg, is_bl_np, is_bl_ng, is_bl_tp, is_bl_tg, is_bl_fp, is_bl_fg, is_int_np, is_int_ng, is_int_tp, is_int_tg, is_int_fp, is_int_fg, is_str_np, is_str_ng, is_str_tp, is_str_tg, is_str_fp, is_str_fg, is_lst_np, is_lst_ng, is_lst_tp, is_lst_tg, is_lst_fp, is_lst_fg, is_tup_np, is_tup_ng, is_tup_tp, is_tup_tg, is_tup_fp, is_tup_fg, isi_non_int, isi_non_bool, isi_non_list, isi_non_tuple, isi_non_str, isi_non_dict, isi_non_lt, isi_bl_int, isi_bl_bool, isi_bl_list, isi_bl_tuple, isi_bl_str, isi_bl_dict, isi_bl_lt, isi_int_int, isi_int_bool, isi_int_list, isi_int_tuple, isi_int_str, isi_int_dict, isi_int_lt, isi_str_int, isi_str_bool, isi_str_list, isi_str_tuple, isi_str_str, isi_str_dict, isi_str_lt, isi_lst_int, isi_lst_bool, isi_lst_list, isi_lst_tuple, isi_lst_str, isi_lst_dict, isi_lst_lt, isi_tup_int, isi_tup_bool, isi_tup_list, isi_tup_tuple, isi_tup_str, isi_tup_dict, isi_tup_lt,  at0, at1, at2, at3, set0, set1, set2, setD_l, fillIO, putIO, ioN, permO, wpE_n, wpE_c, rst_n, rst_c, isFl, List.map_cons, List.map_nil, List.cons_append, List.nil_append, List.append_nil, List.replicate_succ, List.replicate_zero, Nat.reduceSub, Nat.reduceAdd, List.getElem?_cons_zero, List.getElem?_cons_succ, List.getD_cons_zero, List.getD_cons_succ, List.set_cons_zero, List.set_cons_succ, List.length_cons, List.length_nil, List.map_append])
  exact ⟨fun z => absurd (by omega) h3, fun _ => ⟨trivial, q _⟩⟩
/-- rising players below n -/
def Ris (n : Nat) (l : List Nat) : Prop := (∀ x ∈ l, x < n) ∧ ∀ i, i + 1 < l.length → l.getD i 0 < l.getD (i + 1) 0
theorem sp_players {l : List Nat} (h : Ris n l) (hl : l.length ≤ 1000) (q : ∀ e, Q (.bl true) e) : FP (m_are_players_of [.int (n : Int), plD l]) Q := by
  unfold m_are_players_of b_are_players_of
  have e0 : plD l = .lst (l.map fun k : Nat => D.int (k : Int)) := rfl
  rw [e0]
  (try simp only [RP_varm, RP_holem, RP_c, RP_1, RP_2, RP_3, RP_f, RP_nil, RP_cons, RP_if, RP_and, RP_or, RP_not, RP_B, RP_qt, RP_perm, RP_pn, RP_ps, RP_sl, RP_call, RP_src2, SrcP_l, SrcP_t, SrcP_pl, SrcP_row, SrcP_tab, RP_r1, RP_r2, RP_en2, EnP_l, EnP_row, EnP_tab, LsP_l, LsP_pl, RP_lc, RP_yes, RP_pop, RP_lr, RP_fl, RP_dct1, RP_asL,  SP_nx, SP_seq, SP_drop, SP_ret, SP_set, SP_if, SP_sub, SP_sub2, SP_app, SP_app2, SP_tgt, SP_par, SP_parO, SP_str, SP_uT, SP_uN, SP_uC, SP_uS, SP_subK, SP_for, FP_fn, OP_gT, OP_gC, OP_gE, OP_some, OP_map, OP_add, OP_sub, OP_mul, OP_fdiv, OP_fmod, OP_pow, OP_neg, OP_lt, OP_le, OP_gt, OP_ge, OP_eqi, OP_nei, OP_bits, OP_int, OP_intb, OP_tup, OP_lst, OP_lenl, OP_lent, OP_lenf, OP_abs, OP_max2, OP_min2, OP_gcd, OP_ixl, OP_ixt, OP_ixf, OP_cat, OP_rep, OP_subb, OP_gN, OP_eqs, OP_eq00, OP_ne00, OP_dct1, OP_nepl, OP_eqpl, OP_isLp, OP_pop0, OP_apppl, OP_lenpl, OP_lentab, OP_inpl, OP_ninpl, OP_indk, OP_nindk, OP_setK, BQ_b, BP_t, BP_f, BP_d, BP_n, BP_eq, ↓reduceIte, Option.map_some, is_non_np, is_non_ng, is_non_tp, is_non_tg, is_non_fp, is_non_fg, is_bl_np, is_bl_ng, is_bl_tp, is_bl_tg, is_bl_fp, is_bl_fg, is_int_np, is_int_ng, is_int_tp, is_int_tg, is_int_fp, is_int_fg, is_str_np, is_str_ng, is_str_tp, is_str_tg, is_str_fp, is_str_fg, is_lst_np, is_lst_ng, is_lst_tp, is_lst_tg, is_lst_fp, is_lst_fg, is_tup_np, is_tup_ng, is_tup_tp, is_tup_tg, is_tup_fp, is_tup_fg, isi_non_int, isi_non_bool, isi_non_list, isi_non_tuple, isi_non_str, isi_non_dict, isi_non_lt, isi_bl_int, isi_bl_bool, isi_bl_list, isi_bl_tuple, isi_bl_str, isi_bl_dict, isi_bl_lt, isi_int_int, isi_int_bool, isi_int_list, isi_int_tuple, isi_int_str, isi_int_dict, isi_int_lt, isi_str_int, isi_str_bool, isi_str_list, isi_str_tuple, isi_str_str, isi_str_dict, isi_str_lt, isi_lst_int, isi_lst_bool, isi_lst_list, isi_lst_tuple, isi_lst_str, isi_lst_dict, isi_lst_lt, isi_tup_int, isi_tup_bool, isi_tup_list, isi_tup_tuple, isi_tup_str, isi_tup_dict, isi_tup_lt,  at0, at1, at2, at3, set0, set1, set2, setD_l, fillIO, putIO, ioN, permO, wpE_n, wpE_c, rst_n, rst_c, isFl, List.map_cons, List.map_nil, List.cons_append, List.nil_append, List.append_nil, List.replicate_succ, List.replicate_zero, Nat.reduceSub, Nat.reduceAdd, List.getElem?_cons_zero, List.getElem?_cons_succ, List.getD_cons_zero, List.getD_cons_succ, List.set_cons_zero, List.set_cons_succ, List.length_cons, List.length_nil, List.map_append])
  refine RP_lcP (fun _ => false) (fun x => .int (x : Int)) (fun x hx => ?_) ?_
  · (try simp only [RP_varm, RP_holem, RP_c, RP_1, RP_2, RP_3, RP_f, RP_nil, RP_cons, RP_if, RP_and, RP_or, RP_not, RP_B, RP_qt, RP_perm, RP_pn, RP_ps, RP_sl, RP_call, RP_src2, SrcP_l, SrcP_t, SrcP_pl, SrcP_row, SrcP_tab, RP_r1, RP_r2, RP_en2, EnP_l, EnP_row, EnP_tab, LsP_l, LsP_pl, RP_lc, RP_yes, RP_pop, RP_lr, RP_fl, RP_dct1, RP_asL,  SP_nx, SP_seq, SP_drop, SP_ret, SP_set, SP_if, SP_sub, SP_sub2, SP_app, SP_app2, SP_tgt, SP_par, SP_parO, SP_str, SP_uT, SP_uN, SP_uC, SP_uS, SP_subK, SP_for, FP_fn, OP_gT, OP_gC, OP_gE, OP_some, OP_map, OP_add, OP_sub, OP_mul, OP_fdiv, OP_fmod, OP_pow, OP_neg, OP_lt, OP_le, OP_gt, OP_ge, OP_eqi, OP_nei, OP_bits, OP_int, OP_intb, OP_tup, OP_lst, OP_lenl, OP_lent, OP_lenf, OP_abs, OP_max2, OP_min2, OP_gcd, OP_ixl, OP_ixt, OP_ixf, OP_cat, OP_rep, OP_subb, OP_gN, OP_eqs, OP_eq00, OP_ne00, OP_dct1, OP_nepl, OP_eqpl, OP_isLp, OP_pop0, OP_apppl, OP_lenpl, OP_lentab, OP_inpl, OP_ninpl, OP_indk, OP_nindk, OP_setK, BQ_b, BP_t, BP_f, BP_d, BP_n, BP_eq, ↓reduceIte, Option.map_some, is_non_np, is_non_ng, is_non_tp, is_non_tg, is_non_fp, is_non_fg, is_bl_np, is_bl_ng, is_bl_tp, is_bl_tg, is_bl_fp, is_bl_fg, is_int_np, is_int_ng, is_int_tp, is_int_tg, is_int_fp, is_int_fg, is_str_np, is_str_ng, is_str_tp, is_str_tg, is_str_fp, is_str_fg, is_lst_np, is_lst_ng, is_lst_tp, is_lst_tg, is_lst_fp, is_lst_fg, is_tup_np, is_tup_ng, is_tup_tp, is_tup_tg, is_tup_fp, is_tup_fg, isi_non_int, isi_non_bool, isi_non_list, isi_non_tuple, isi_non_str, isi_non_dict, isi_non_lt, isi_bl_int, isi_bl_bool, isi_bl_list, isi_bl_tuple, isi_bl_str, isi_bl_dict, isi_bl_lt, isi_int_int, isi_int_bool, isi_int_list, isi_int_tuple, isi_int_str, isi_int_dict, isi_int_lt, isi_str_int, isi_str_bool, isi_str_list, isi_str_tuple, isi_str_str, isi_str_dict, isi_str_lt, isi_lst_int, isi_lst_bool, isi_lst_list, isi_lst_tuple, isi_lst_str, isi_lst_dict, isi_lst_lt, isi_tup_int, isi_tup_bool, isi_tup_list, isi_tup_tuple, isi_tup_str, isi_tup_dict, isi_tup_lt,  at0, at1, at2, at3, set0, set1, set2, setD_l, fillIO, putIO, ioN, permO, wpE_n, wpE_c, rst_n, rst_c, isFl, List.map_cons, List.map_nil, List.cons_append, List.nil_append, List.append_nil, List.replicate_succ, List.replicate_zero, Nat.reduceSub, Nat.reduceAdd, List.getElem?_cons_zero, List.getElem?_cons_succ, List.getD_cons_zero, List.getD_cons_succ, List.set_cons_zero, List.set_cons_succ, List.length_cons, List.length_nil, List.map_append])
    refine sp_below fun e => ?_
    (try simp only [RP_varm, RP_holem, RP_c, RP_1, RP_2, RP_3, RP_f, RP_nil, RP_cons, RP_if, RP_and, RP_or, RP_not, RP_B, RP_qt, RP_perm, RP_pn, RP_ps, RP_sl, RP_call, RP_src2, SrcP_l, SrcP_t, SrcP_pl, SrcP_row, SrcP_tab, RP_r1, RP_r2, RP_en2, EnP_l, EnP_row, EnP_tab, LsP_l, LsP_pl, RP_lc, RP_yes, RP_pop, RP_lr, RP_fl, RP_dct1, RP_asL,  SP_nx, SP_seq, SP_drop, SP_ret, SP_set, SP_if, SP_sub, SP_sub2, SP_app, SP_app2, SP_tgt, SP_par, SP_parO, SP_str, SP_uT, SP_uN, SP_uC, SP_uS, SP_subK, SP_for, FP_fn, OP_gT, OP_gC, OP_gE, OP_some, OP_map, OP_add, OP_sub, OP_mul, OP_fdiv, OP_fmod, OP_pow, OP_neg, OP_lt, OP_le, OP_gt, OP_ge, OP_eqi, OP_nei, OP_bits, OP_int, OP_intb, OP_tup, OP_lst, OP_lenl, OP_lent, OP_lenf, OP_abs, OP_max2, OP_min2, OP_gcd, OP_ixl, OP_ixt, OP_ixf, OP_cat, OP_rep, OP_subb, OP_gN, OP_eqs, OP_eq00, OP_ne00, OP_dct1, OP_nepl, OP_eqpl, OP_isLp, OP_pop0, OP_apppl, OP_lenpl, OP_lentab, OP_inpl, OP_ninpl, OP_indk, OP_nindk, OP_setK, BQ_b, BP_t, BP_f, BP_d, BP_n, BP_eq, ↓reduceIte, Option.map_some, is_non_np, is_non_ng, is_non_tp, is_non_tg, is_non_fp, is_non_fg, is_bl_np, is_bl_ng, is_bl_tp, is_bl_tg, is_bl_fp, is_bl_fg, is_int_np, is_int_ng, is_int_tp, is_int_tg, is_int_fp, is_int_fg, is_str_np, is_str_ng, is_str_tp, is_str_tg, is_str_fp, is_str_fg, is_lst_np, is_lst_ng, is_lst_tp, is_lst_tg, is_lst_fp, is_lst_fg, is_tup_np, is_tup_ng, is_tup_tp, is_tup_tg, is_tup_fp, is_tup_fg, isi_non_int, isi_non_bool, isi_non_list, isi_non_tuple, isi_non_str, isi_non_dict, isi_non_lt, isi_bl_int, isi_bl_bool, isi_bl_list, isi_bl_tuple, isi_bl_str, isi_bl_dict, isi_bl_lt, isi_int_int, isi_int_bool, isi_int_list, isi_int_tuple, isi_int_str, isi_int_dict, isi_int_lt, isi_str_int, isi_str_bool, isi_str_list, isi_str_tuple, isi_str_str, isi_str_dict, isi_str_lt, isi_lst_int, isi_lst_bool, isi_lst_list, isi_lst_tuple, isi_lst_str, isi_lst_dict, isi_lst_lt, isi_tup_int, isi_tup_bool, isi_tup_list, isi_tup_tuple, isi_tup_str, isi_tup_dict, isi_tup_lt,  at0, at1, at2, at3, set0, set1, set2, setD_l, fillIO, putIO, ioN, permO, wpE_n, wpE_c, rst_n, rst_c, isFl, List.map_cons, List.map_nil, List.cons_append, List.nil_append, List.append_nil, List.replicate_succ, List.replicate_zero, Nat.reduceSub, Nat.reduceAdd, List.getElem?_cons_zero, List.getElem?_cons_succ, List.getD_cons_zero, List.getD_cons_succ, List.set_cons_zero, List.set_cons_succ, List.length_cons, List.length_nil, List.map_append])
    have := h.1 x hx
    rw [decide_eq_true (by omega : (0 : Int) ≤ x ∧ (x : Int) < n)]
    (first | exact trivial | (simp; done) | (simp_all; done))
  · rw [filter_none fun _ _ => rfl]
    (try simp only [RP_varm, RP_holem, RP_c, RP_1, RP_2, RP_3, RP_f, RP_nil, RP_cons, RP_if, RP_and, RP_or, RP_not, RP_B, RP_qt, RP_perm, RP_pn, RP_ps, RP_sl, RP_call, RP_src2, SrcP_l, SrcP_t, SrcP_pl, SrcP_row, SrcP_tab, RP_r1, RP_r2, RP_en2, EnP_l, EnP_row, EnP_tab, LsP_l, LsP_pl, RP_lc, RP_yes, RP_pop, RP_lr, RP_fl, RP_dct1, RP_asL,  SP_nx, SP_seq, SP_drop, SP_ret, SP_set, SP_if, SP_sub, SP_sub2, SP_app, SP_app2, SP_tgt, SP_par, SP_parO, SP_str, SP_uT, SP_uN, SP_uC, SP_uS, SP_subK, SP_for, FP_fn, OP_gT, OP_gC, OP_gE, OP_some, OP_map, OP_add, OP_sub, OP_mul, OP_fdiv, OP_fmod, OP_pow, OP_neg, OP_lt, OP_le, OP_gt, OP_ge, OP_eqi, OP_nei, OP_bits, OP_int, OP_intb, OP_tup, OP_lst, OP_lenl, OP_lent, OP_lenf, OP_abs, OP_max2, OP_min2, OP_gcd, OP_ixl, OP_ixt, OP_ixf, OP_cat, OP_rep, OP_subb, OP_gN, OP_eqs, OP_eq00, OP_ne00, OP_dct1, OP_nepl, OP_eqpl, OP_isLp, OP_pop0, OP_apppl, OP_lenpl, OP_lentab, OP_inpl, OP_ninpl, OP_indk, OP_nindk, OP_setK, BQ_b, BP_t, BP_f, BP_d, BP_n, BP_eq, ↓reduceIte, Option.map_some, is_non_np, is_non_ng, is_non_tp, is_non_tg, is_non_fp, is_non_fg, is_bl_np, is_bl_ng, is_bl_tp, is_bl_tg, is_bl_fp, is_bl_fg, is_int_np, is_int_ng, is_int_tp, is_int_tg, is_int_fp, is_int_fg, is_str_np, is_str_ng, is_str_tp, is_str_tg, is_str_fp, is_str_fg, is_lst_np, is_lst_ng, is_lst_tp, is_lst_tg, is_lst_fp, is_lst_fg, is_tup_np, is_tup_ng, is_tup_tp, is_tup_tg, is_tup_fp, is_tup_fg, isi_non_int, isi_non_bool, isi_non_list, isi_non_tuple, isi_non_str, isi_non_dict, isi_non_lt, isi_bl_int, isi_bl_bool, isi_bl_list, isi_bl_tuple, isi_bl_str, isi_bl_dict, isi_bl_lt, isi_int_int, isi_int_bool, isi_int_list, isi_int_tuple, isi_int_str, isi_int_dict, isi_int_lt, isi_str_int, isi_str_bool, isi_str_list, isi_str_tuple, isi_str_str, isi_str_dict, isi_str_lt, isi_lst_int, isi_lst_bool, isi_lst_list, isi_lst_tuple, isi_lst_str, isi_lst_dict, isi_lst_lt, isi_tup_int, isi_tup_bool, isi_tup_list, isi_tup_tuple, isi_tup_str, isi_tup_dict, isi_tup_lt,  at0, at1, at2, at3, set0, set1, set2, setD_l, fillIO, putIO, ioN, permO, wpE_n, wpE_c, rst_n, rst_c, isFl, List.map_cons, List.map_nil, List.cons_append, List.nil_append, List.append_nil, List.replicate_succ, List.replicate_zero, Nat.reduceSub, Nat.reduceAdd, List.getElem?_cons_zero, List.getElem?_cons_succ, List.getD_cons_zero, List.getD_cons_succ, List.set_cons_zero, List.set_cons_succ, List.length_cons, List.length_nil, List.map_append])
    rw [List.length_map]
    refine ⟨by decide, by decide, ⟨by decide, rOk_n (by omega)⟩, ?_⟩
    rw [show rngD 1 ((l.length : Int) - 1).toNat = (List.range (l.length - 1)).map fun k : Nat => D.int (1 + (k : Int)) by
      unfold rngD
      rw [show ((l.length : Int) - 1).toNat = l.length - 1 by omega]]
    refine RP_lcP (fun _ => false) (fun x => .int (x : Int)) (fun x hx => ?_) ?_
    · have hx := List.mem_range.mp hx
      (try simp only [RP_varm, RP_holem, RP_c, RP_1, RP_2, RP_3, RP_f, RP_nil, RP_cons, RP_if, RP_and, RP_or, RP_not, RP_B, RP_qt, RP_perm, RP_pn, RP_ps, RP_sl, RP_call, RP_src2, SrcP_l, SrcP_t, SrcP_pl, SrcP_row, SrcP_tab, RP_r1, RP_r2, RP_en2, EnP_l, EnP_row, EnP_tab, LsP_l, LsP_pl, RP_lc, RP_yes, RP_pop, RP_lr, RP_fl, RP_dct1, RP_asL,  SP_nx, SP_seq, SP_drop, SP_ret, SP_set, SP_if, SP_sub, SP_sub2, SP_app, SP_app2, SP_tgt, SP_par, SP_parO, SP_str, SP_uT, SP_uN, SP_uC, SP_uS, SP_subK, SP_for, FP_fn, OP_gT, OP_gC, OP_gE, OP_some, OP_map, OP_add, OP_sub, OP_mul, OP_fdiv, OP_fmod, OP_pow, OP_neg, OP_lt, OP_le, OP_gt, OP_ge, OP_eqi, OP_nei, OP_bits, OP_int, OP_intb, OP_tup, OP_lst, OP_lenl, OP_lent, OP_lenf, OP_abs, OP_max2, OP_min2, OP_gcd, OP_ixl, OP_ixt, OP_ixf, OP_cat, OP_rep, OP_subb, OP_gN, OP_eqs, OP_eq00, OP_ne00, OP_dct1, OP_nepl, OP_eqpl, OP_isLp, OP_pop0, OP_apppl, OP_lenpl, OP_lentab, OP_inpl, OP_ninpl, OP_indk, OP_nindk, OP_setK, BQ_b, BP_t, BP_f, BP_d, BP_n, BP_eq, ↓reduceIte, Option.map_some, is_non_np, is_non_ng, is_non_tp, is_non_tg, is_non_fp, is_non_fg, is_bl_np, is_bl_ng, is_bl_tp, is_bl_tg, is_bl_fp, is_bl_fg, is_int_np, is_int_ng, is_int_tp, is_int_tg, is_int_fp, is_int_fg, is_str_np, is_str_ng, is_str_tp, is_str_tg, is_str_fp, is_str_fg, is_lst_np, is_lst_ng, is_lst_tp, is_lst_tg, is_lst_fp, is_lst_fg, is_tup_np, is_tup_ng, is_tup_tp, is_tup_tg, is_tup_fp, is_tup_fg, isi_non_int, isi_non_bool, isi_non_list, isi_non_tuple, isi_non_str, isi_non_dict, isi_non_lt, isi_bl_int, isi_bl_bool, isi_bl_list, isi_bl_tuple, isi_bl_str, isi_bl_dict, isi_bl_lt, isi_int_int, isi_int_bool, isi_int_list, isi_int_tuple, isi_int_str, isi_int_dict, isi_int_lt, isi_str_int, isi_str_bool, isi_str_list, isi_str_tuple, isi_str_str, isi_str_dict, isi_str_lt, isi_lst_int, isi_lst_bool, isi_lst_list, isi_lst_tuple, isi_lst_str, isi_lst_dict, isi_lst_lt, isi_tup_int, isi_tup_bool, isi_tup_list, isi_tup_tuple, isi_tup_str, isi_tup_dict, isi_tup_lt,  at0, at1, at2, at3, set0, set1, set2, setD_l, fillIO, putIO, ioN, permO, wpE_n, wpE_c, rst_n, rst_c, isFl, List.map_cons, List.map_nil, List.cons_append, List.nil_append, List.append_nil, List.replicate_succ, List.replicate_zero, Nat.reduceSub, Nat.reduceAdd, List.getElem?_cons_zero, List.getElem?_cons_succ, List.getD_cons_zero, List.getD_cons_succ, List.set_cons_zero, List.set_cons_succ, List.length_cons, List.length_nil, List.map_append])
      rw [show (1 + (x : Int) - 1) = ((x : Nat) : Int) by omega, show (1 + (x : Int)) = ((x + 1 : Nat) : Int) by omega]
      rw [OP_at (c := fun k : Nat => D.int (k : Int)) (d := 0) (by omega), OP_at (c := fun k : Nat => D.int (k : Int)) (d := 0) (by omega)]
      (try simp only [RP_varm, RP_holem, RP_c, RP_1, RP_2, RP_3, RP_f, RP_nil, RP_cons, RP_if, RP_and, RP_or, RP_not, RP_B, RP_qt, RP_perm, RP_pn, RP_ps, RP_sl, RP_call, RP_src2, SrcP_l, SrcP_t, SrcP_pl, SrcP_row, SrcP_tab, RP_r1, RP_r2, RP_en2, EnP_l, EnP_row, EnP_tab, LsP_l, LsP_pl, RP_lc, RP_yes, RP_pop, RP_lr, RP_fl, RP_dct1, RP_asL,  SP_nx, SP_seq, SP_drop, SP_ret, SP_set, SP_if, SP_sub, SP_sub2, SP_app, SP_app2, SP_tgt, SP_par, SP_parO, SP_str, SP_uT, SP_uN, SP_uC, SP_uS, SP_subK, SP_for, FP_fn, OP_gT, OP_gC, OP_gE, OP_some, OP_map, OP_add, OP_sub, OP_mul, OP_fdiv, OP_fmod, OP_pow, OP_neg, OP_lt, OP_le, OP_gt, OP_ge, OP_eqi, OP_nei, OP_bits, OP_int, OP_intb, OP_tup, OP_lst, OP_lenl, OP_lent, OP_lenf, OP_abs, OP_max2, OP_min2, OP_gcd, OP_ixl, OP_ixt, OP_ixf, OP_cat, OP_rep, OP_subb, OP_gN, OP_eqs, OP_eq00, OP_ne00, OP_dct1, OP_nepl, OP_eqpl, OP_isLp, OP_pop0, OP_apppl, OP_lenpl, OP_lentab, OP_inpl, OP_ninpl, OP_indk, OP_nindk, OP_setK, BQ_b, BP_t, BP_f, BP_d, BP_n, BP_eq, ↓reduceIte, Option.map_some, is_non_np, is_non_ng, is_non_tp, is_non_tg, is_non_fp, is_non_fg, is_bl_np, is_bl_ng, is_bl_tp, is_bl_tg, is_bl_fp, is_bl_fg, is_int_np, is_int_ng, is_int_tp, is_int_tg, is_int_fp, is_int_fg, is_str_np, is_str_ng, is_str_tp, is_str_tg, is_str_fp, is_str_fg, is_lst_np, is_lst_ng, is_lst_tp, is_lst_tg, is_lst_fp, is_lst_fg, is_tup_np, is_tup_ng, is_tup_tp, is_tup_tg, is_tup_fp, is_tup_fg, isi_non_int, isi_non_bool, isi_non_list, isi_non_tuple, isi_non_str, isi_non_dict, isi_non_lt, isi_bl_int, isi_bl_bool, isi_bl_list, isi_bl_tuple, isi_bl_str, isi_bl_dict, isi_bl_lt, isi_int_int, isi_int_bool, isi_int_list, isi_int_tuple, isi_int_str, isi_int_dict, isi_int_lt, isi_str_int, isi_str_bool, isi_str_list, isi_str_tuple, isi_str_str, isi_str_dict, isi_str_lt, isi_lst_int, isi_lst_bool, isi_lst_list, isi_lst_tuple, isi_lst_str, isi_lst_dict, isi_lst_lt, isi_tup_int, isi_tup_bool, isi_tup_list, isi_tup_tuple, isi_tup_str, isi_tup_dict, isi_tup_lt,  at0, at1, at2, at3, set0, set1, set2, setD_l, fillIO, putIO, ioN, permO, wpE_n, wpE_c, rst_n, rst_c, isFl, List.map_cons, List.map_nil, List.cons_append, List.nil_append, List.append_nil, List.replicate_succ, List.replicate_zero, Nat.reduceSub, Nat.reduceAdd, List.getElem?_cons_zero, List.getElem?_cons_succ, List.getD_cons_zero, List.getD_cons_succ, List.set_cons_zero, List.set_cons_succ, List.length_cons, List.length_nil, List.map_append])
      have := h.2 x (by omega)
      rw [decide_eq_false (by omega)]
      (first | exact trivial | (simp; done) | (simp_all; done))
    · rw [filter_none fun _ _ => rfl]
      (try simp only [RP_varm, RP_holem, RP_c, RP_1, RP_2, RP_3, RP_f, RP_nil, RP_cons, RP_if, RP_and, RP_or, RP_not, RP_B, RP_qt, RP_perm, RP_pn, RP_ps, RP_sl, RP_call, RP_src2, SrcP_l, SrcP_t, SrcP_pl, SrcP_row, SrcP_tab, RP_r1, RP_r2, RP_en2, EnP_l, EnP_row, EnP_tab, LsP_l, LsP_pl, RP_lc, RP_yes, RP_pop, RP_lr, RP_fl, RP_dct1, RP_asL,  SP_nx, SP_seq, SP_drop, SP_ret, SP_set, SP_if, SP_sub, SP_sub2, SP_app, SP_app2, SP_tgt, SP_par, SP_parO, SP_str, SP_uT, SP_uN, SP_uC, SP_uS, SP_subK, SP_for, FP_fn, OP_gT, OP_gC, OP_gE, OP_some, OP_map, OP_add, OP_sub, OP_mul, OP_fdiv, OP_fmod, OP_pow, OP_neg, OP_lt, OP_le, OP_gt, OP_ge, OP_eqi, OP_nei, OP_bits, OP_int, OP_intb, OP_tup, OP_lst, OP_lenl, OP_lent, OP_lenf, OP_abs, OP_max2, OP_min2, OP_gcd, OP_ixl, OP_ixt, OP_ixf, OP_cat, OP_rep, OP_subb, OP_gN, OP_eqs, OP_eq00, OP_ne00, OP_dct1, OP_nepl, OP_eqpl, OP_isLp, OP_pop0, OP_apppl, OP_lenpl, OP_lentab, OP_inpl, OP_ninpl, OP_indk, OP_nindk, OP_setK, BQ_b, BP_t, BP_f, BP_d, BP_n, BP_eq, ↓reduceIte, Option.map_some, is_non_np, is_non_ng, is_non_tp, is_non_tg, is_non_fp, is_non_fg, is_bl_np, is_bl_ng, is_bl_tp, is_bl_tg, is_bl_fp, is_bl_fg, is_int_np, is_int_ng, is_int_tp, is_int_tg, is_int_fp, is_int_fg, is_str_np, is_str_ng, is_str_tp, is_str_tg, is_str_fp, is_str_fg, is_lst_np, is_lst_ng, is_lst_tp, is_lst_tg, is_lst_fp, is_lst_fg, is_tup_np, is_tup_ng, is_tup_tp, is_tup_tg, is_tup_fp, is_tup_fg, isi_non_int, isi_non_bool, isi_non_list, isi_non_tuple, isi_non_str, isi_non_dict, isi_non_lt, isi_bl_int, isi_bl_bool, isi_bl_list, isi_bl_tuple, isi_bl_str, isi_bl_dict, isi_bl_lt, isi_int_int, isi_int_bool, isi_int_list, isi_int_tuple, isi_int_str, isi_int_dict, isi_int_lt, isi_str_int, isi_str_bool, isi_str_list, isi_str_tuple, isi_str_str, isi_str_dict, isi_str_lt, isi_lst_int, isi_lst_bool, isi_lst_list, isi_lst_tuple, isi_lst_str, isi_lst_dict, isi_lst_lt, isi_tup_int, isi_tup_bool, isi_tup_list, isi_tup_tuple, isi_tup_str, isi_tup_dict, isi_tup_lt,  at0, at1, at2, at3, set0, set1, set2, setD_l, fillIO, putIO, ioN, permO, wpE_n, wpE_c, rst_n, rst_c, isFl, List.map_cons, List.map_nil, List.cons_append, List.nil_append, List.append_nil, List.replicate_succ, List.replicate_zero, Nat.reduceSub, Nat.reduceAdd, List.getElem?_cons_zero, List.getElem?_cons_succ, List.getD_cons_zero, List.getD_cons_succ, List.set_cons_zero, List.set_cons_succ, List.length_cons, List.length_nil, List.map_append])
      exact ⟨by decide, by decide, q _⟩
theorem sp_lot {l : List Nat} (h : Ris n l) (h0 : 0 < l.length) (h1 : l.length < n) (hn : n ≤ 1000) (q : ∀ e, Q (.bl true) e) : FP (m_is_lot_of [.int (n : Int), plD l]) Q := by
  unfold m_is_lot_of b_is_lot_of
  (try simp only [RP_varm, RP_holem, RP_c, RP_1, RP_2, RP_3, RP_f, RP_nil, RP_cons, RP_if, RP_and, RP_or, RP_not, RP_B, RP_qt, RP_perm, RP_pn, RP_ps, RP_sl, RP_call, RP_src2, SrcP_l, SrcP_t, SrcP_pl, SrcP_row, SrcP_tab, RP_r1, RP_r2, RP_en2, EnP_l, EnP_row, EnP_tab, LsP_l, LsP_pl, RP_lc, RP_yes, RP_pop, RP_lr, RP_fl, RP_dct1, RP_asL,  SP_nx, SP_seq, SP_drop, SP_ret, SP_set, SP_if, SP_sub, SP_sub2, SP_app, SP_app2, SP_tgt, SP_par, SP_parO, SP_str, SP_uT, SP_uN, SP_uC, SP_uS, SP_subK, SP_for, FP_fn, OP_gT, OP_gC, OP_gE, OP_some, OP_map, OP_add, OP_sub, OP_mul, OP_fdiv, OP_fmod, OP_pow, OP_neg, OP_lt, OP_le, OP_gt, OP_ge, OP_eqi, OP_nei, OP_bits, OP_int, OP_intb, OP_tup, OP_lst, OP_lenl, OP_lent, OP_lenf, OP_abs, OP_max2, OP_min2, OP_gcd, OP_ixl, OP_ixt, OP_ixf, OP_cat, OP_rep, OP_subb, OP_gN, OP_eqs, OP_eq00, OP_ne00, OP_dct1, OP_nepl, OP_eqpl, OP_isLp, OP_pop0, OP_apppl, OP_lenpl, OP_lentab, OP_inpl, OP_ninpl, OP_indk, OP_nindk, OP_setK, BQ_b, BP_t, BP_f, BP_d, BP_n, BP_eq, ↓reduceIte, Option.map_some, is_non_np, is_non_ng, is_non_tp, is_non_tg, is_non_fp, is_non_fg, is_bl_np, is_bl_ng, is_bl_tp, is_bl_tg, is_bl_fp, is_bl_fg, is_int_np, is_int_ng, is_int_tp, is_int_tg, is_int_fp, is_int_fg, is_str_np, is_str_ng, is_str_tp, is_str_tg, is_str_fp, is_str_fg, is_lst_np, is_lst_ng, is_lst_tp, is_lst_tg, is_lst_fp, is_lst_fg, is_tup_np, is_tup_ng, is_tup_tp, is_tup_tg, is_tup_fp, is_tup_fg, isi_non_int, isi_non_bool, isi_non_list, isi_non_tuple, isi_non_str, isi_non_dict, isi_non_lt, isi_bl_int, isi_bl_bool, isi_bl_list, isi_bl_tuple, isi_bl_str, isi_bl_dict, isi_bl_lt, isi_int_int, isi_int_bool, isi_int_list, isi_int_tuple, isi_int_str, isi_int_dict, isi_int_lt, isi_str_int, isi_str_bool, isi_str_list, isi_str_tuple, isi_str_str, isi_str_dict, isi_str_lt, isi_lst_int, isi_lst_bool, isi_lst_list, isi_lst_tuple, isi_lst_str, isi_lst_dict, isi_lst_lt, isi_tup_int, isi_tup_bool, isi_tup_list, isi_tup_tuple, isi_tup_str, isi_tup_dict, isi_tup_lt,  at0, at1, at2, at3, set0, set1, set2, setD_l, fillIO, putIO, ioN, permO, wpE_n, wpE_c, rst_n, rst_c, isFl, List.map_cons, List.map_nil, List.cons_append, List.nil_append, List.append_nil, List.replicate_succ, List.replicate_zero, Nat.reduceSub, Nat.reduceAdd, List.getElem?_cons_zero, List.getElem?_cons_succ, List.getD_cons_zero, List.getD_cons_succ, List.set_cons_zero, List.set_cons_succ, List.length_cons, List.length_nil, List.map_append])
  refine sp_players h (by omega) fun e => ?_
  have e0 : plD l = .lst (l.map fun k : Nat => D.int (k : Int)) := rfl
  (try simp only [RP_varm, RP_holem, RP_c, RP_1, RP_2, RP_3, RP_f, RP_nil, RP_cons, RP_if, RP_and, RP_or, RP_not, RP_B, RP_qt, RP_perm, RP_pn, RP_ps, RP_sl, RP_call, RP_src2, SrcP_l, SrcP_t, SrcP_pl, SrcP_row, SrcP_tab, RP_r1, RP_r2, RP_en2, EnP_l, EnP_row, EnP_tab, LsP_l, LsP_pl, RP_lc, RP_yes, RP_pop, RP_lr, RP_fl, RP_dct1, RP_asL,  SP_nx, SP_seq, SP_drop, SP_ret, SP_set, SP_if, SP_sub, SP_sub2, SP_app, SP_app2, SP_tgt, SP_par, SP_parO, SP_str, SP_uT, SP_uN, SP_uC, SP_uS, SP_subK, SP_for, FP_fn, OP_gT, OP_gC, OP_gE, OP_some, OP_map, OP_add, OP_sub, OP_mul, OP_fdiv, OP_fmod, OP_pow, OP_neg, OP_lt, OP_le, OP_gt, OP_ge, OP_eqi, OP_nei, OP_bits, OP_int, OP_intb, OP_tup, OP_lst, OP_lenl, OP_lent, OP_lenf, OP_abs, OP_max2, OP_min2, OP_gcd, OP_ixl, OP_ixt, OP_ixf, OP_cat, OP_rep, OP_subb, OP_gN, OP_eqs, OP_eq00, OP_ne00, OP_dct1, OP_nepl, OP_eqpl, OP_isLp, OP_pop0, OP_apppl, OP_lenpl, OP_lentab, OP_inpl, OP_ninpl, OP_indk, OP_nindk, OP_setK, BQ_b, BP_t, BP_f, BP_d, BP_n, BP_eq, ↓reduceIte, Option.map_some, is_non_np, is_non_ng, is_non_tp, is_non_tg, is_non_fp, is_non_fg, is_bl_np, is_bl_ng, is_bl_tp, is_bl_tg, is_bl_fp, is_bl_fg, is_int_np, is_int_ng, is_int_tp, is_int_tg, is_int_fp, is_int_fg, is_str_np, is_str_ng, is_str_tp, is_str_tg, is_str_fp, is_str_fg, is_lst_np, is_lst_ng, is_lst_tp, is_lst_tg, is_lst_fp, is_lst_fg, is_tup_np, is_tup_ng, is_tup_tp, is_tup_tg, is_tup_fp, is_tup_fg, isi_non_int, isi_non_bool, isi_non_list, isi_non_tuple, isi_non_str, isi_non_dict, isi_non_lt, isi_bl_int, isi_bl_bool, isi_bl_list, isi_bl_tuple, isi_bl_str, isi_bl_dict, isi_bl_lt, isi_int_int, isi_int_bool, isi_int_list, isi_int_tuple, isi_int_str, isi_int_dict, isi_int_lt, isi_str_int, isi_str_bool, isi_str_list, isi_str_tuple, isi_str_str, isi_str_dict, isi_str_lt, isi_lst_int, isi_lst_bool, isi_lst_list, isi_lst_tuple, isi_lst_str, isi_lst_dict, isi_lst_lt, isi_tup_int, isi_tup_bool, isi_tup_list, isi_tup_tuple, isi_tup_str, isi_tup_dict, isi_tup_lt,  at0, at1, at2, at3, set0, set1, set2, setD_l, fillIO, putIO, ioN, permO, wpE_n, wpE_c, rst_n, rst_c, isFl, List.map_cons, List.map_nil, List.cons_append, List.nil_append, List.append_nil, List.replicate_succ, List.replicate_zero, Nat.reduceSub, Nat.reduceAdd, List.getElem?_cons_zero, List.getElem?_cons_succ, List.getD_cons_zero, List.getD_cons_succ, List.set_cons_zero, List.set_cons_succ, List.length_cons, List.length_nil, List.map_append])
  refine ⟨fun _ => ?_, fun z => absurd (by omega) z⟩
  rw [decide_eq_true (by omega)]
  exact q _
theorem sp_chkLot {l : List Nat} (h : Ris n l) (h0 : 0 < l.length) (h1 : l.length < n) (hn : n ≤ 1000) (q : ∀ e, Q .non e) : FP (m_check_lot [.int (n : Int), plD l]) Q := by
  unfold m_check_lot b_check_lot
  (try simp only [RP_varm, RP_holem, RP_c, RP_1, RP_2, RP_3, RP_f, RP_nil, RP_cons, RP_if, RP_and, RP_or, RP_not, RP_B, RP_qt, RP_perm, RP_pn, RP_ps, RP_sl, RP_call, RP_src2, SrcP_l, SrcP_t, SrcP_pl, SrcP_row, SrcP_tab, RP_r1, RP_r2, RP_en2, EnP_l, EnP_row, EnP_tab, LsP_l, LsP_pl, RP_lc, RP_yes, RP_pop, RP_lr, RP_fl, RP_dct1, RP_asL,  SP_nx, SP_seq, SP_drop, SP_ret, SP_set, SP_if, SP_sub, SP_sub2, SP_app, SP_app2, SP_tgt, SP_par, SP_parO, SP_str, SP_uT, SP_uN, SP_uC, SP_uS, SP_subK, SP_for, FP_fn, OP_gT, OP_gC, OP_gE, OP_some, OP_map, OP_add, OP_sub, OP_mul, OP_fdiv, OP_fmod, OP_pow, OP_neg, OP_lt, OP_le, OP_gt, OP_ge, OP_eqi, OP_nei, OP_bits, OP_int, OP_intb, OP_tup, OP_lst, OP_lenl, OP_lent, OP_lenf, OP_abs, OP_max2, OP_min2, OP_gcd, OP_ixl, OP_ixt, OP_ixf, OP_cat, OP_rep, OP_subb, OP_gN, OP_eqs, OP_eq00, OP_ne00, OP_dct1, OP_nepl, OP_eqpl, OP_isLp, OP_pop0, OP_apppl, OP_lenpl, OP_lentab, OP_inpl, OP_ninpl, OP_indk, OP_nindk, OP_setK, BQ_b, BP_t, BP_f, BP_d, BP_n, BP_eq, ↓reduceIte, Option.map_some, is_non_np, is_non_ng, is_non_tp, is_non_tg, is_non_fp, is_non_fg, is_bl_np, is_bl_ng, is_bl_tp, is_bl_tg, is_bl_fp, is_bl_fg, is_int_np, is_int_ng, is_int_tp, is_int_tg, is_int_fp, is_int_fg, is_str_np, is_str_ng, is_str_tp, is_str_tg, is_str_fp, is_str_fg, is_lst_np, is_lst_ng, is_lst_tp, is_lst_tg, is_lst_fp, is_lst_fg, is_tup_np, is_tup_ng, is_tup_tp, is_tup_tg, is_tup_fp, is_tup_fg, isi_non_int, isi_non_bool, isi_non_list, isi_non_tuple, isi_non_str, isi_non_dict, isi_non_lt, isi_bl_int, isi_bl_bool, isi_bl_list, isi_bl_tuple, isi_bl_str, isi_bl_dict, isi_bl_lt, isi_int_int, isi_int_bool, isi_int_list, isi_int_tuple, isi_int_str, isi_int_dict, isi_int_lt, isi_str_int, isi_str_bool, isi_str_list, isi_str_tuple, isi_str_str, isi_str_dict, isi_str_lt, isi_lst_int, isi_lst_bool, isi_lst_list, isi_lst_tuple, isi_lst_str, isi_lst_dict, isi_lst_lt, isi_tup_int, isi_tup_bool, isi_tup_list, isi_tup_tuple, isi_tup_str, isi_tup_dict, isi_tup_lt,  at0, at1, at2, at3, set0, set1, set2, setD_l, fillIO, putIO, ioN, permO, wpE_n, wpE_c, rst_n, rst_c, isFl, List.map_cons, List.map_nil, List.cons_append, List.nil_append, List.append_nil, List.replicate_succ, List.replicate_zero, Nat.reduceSub, Nat.reduceAdd, List.getElem?_cons_zero, List.getElem?_cons_succ, List.getD_cons_zero, List.getD_cons_succ, List.set_cons_zero, List.set_cons_succ, List.length_cons, List.length_nil, List.map_append])
  refine sp_lot h h0 h1 hn fun e => ?_
  (try simp only [RP_varm, RP_holem, RP_c, RP_1, RP_2, RP_3, RP_f, RP_nil, RP_cons, RP_if, RP_and, RP_or, RP_not, RP_B, RP_qt, RP_perm, RP_pn, RP_ps, RP_sl, RP_call, RP_src2, SrcP_l, SrcP_t, SrcP_pl, SrcP_row, SrcP_tab, RP_r1, RP_r2, RP_en2, EnP_l, EnP_row, EnP_tab, LsP_l, LsP_pl, RP_lc, RP_yes, RP_pop, RP_lr, RP_fl, RP_dct1, RP_asL,  SP_nx, SP_seq, SP_drop, SP_ret, SP_set, SP_if, SP_sub, SP_sub2, SP_app, SP_app2, SP_tgt, SP_par, SP_parO, SP_str, SP_uT, SP_uN, SP_uC, SP_uS, SP_subK, SP_for, FP_fn, OP_gT, OP_gC, OP_gE, OP_some, OP_map, OP_add, OP_sub, OP_mul, OP_fdiv, OP_fmod, OP_pow, OP_neg, OP_lt, OP_le, OP_gt, OP_ge, OP_eqi, OP_nei, OP_bits, OP_int, OP_intb, OP_tup, OP_lst, OP_lenl, OP_lent, OP_lenf, OP_abs, OP_max2, OP_min2, OP_gcd, OP_ixl, OP_ixt, OP_ixf, OP_cat, OP_rep, OP_subb, OP_gN, OP_eqs, OP_eq00, OP_ne00, OP_dct1, OP_nepl, OP_eqpl, OP_isLp, OP_pop0, OP_apppl, OP_lenpl, OP_lentab, OP_inpl, OP_ninpl, OP_indk, OP_nindk, OP_setK, BQ_b, BP_t, BP_f, BP_d, BP_n, BP_eq, ↓reduceIte, Option.map_some, is_non_np, is_non_ng, is_non_tp, is_non_tg, is_non_fp, is_non_fg, is_bl_np, is_bl_ng, is_bl_tp, is_bl_tg, is_bl_fp, is_bl_fg, is_int_np, is_int_ng, is_int_tp, is_int_tg, is_int_fp, is_int_fg, is_str_np, is_str_ng, is_str_tp, is_str_tg, is_str_fp, is_str_fg, is_lst_np, is_lst_ng, is_lst_tp, is_lst_tg, is_lst_fp, is_lst_fg, is_tup_np, is_tup_ng, is_tup_tp, is_tup_tg, is_tup_fp, is_tup_fg, isi_non_int, isi_non_bool, isi_non_list, isi_non_tuple, isi_non_str, isi_non_dict, isi_non_lt, isi_bl_int, isi_bl_bool, isi_bl_list, isi_bl_tuple, isi_bl_str, isi_bl_dict, isi_bl_lt, isi_int_int, isi_int_bool, isi_int_list, isi_int_tuple, isi_int_str, isi_int_dict, isi_int_lt, isi_str_int, isi_str_bool, isi_str_list, isi_str_tuple, isi_str_str, isi_str_dict, isi_str_lt, isi_lst_int, isi_lst_bool, isi_lst_list, isi_lst_tuple, isi_lst_str, isi_lst_dict, isi_lst_lt, isi_tup_int, isi_tup_bool, isi_tup_list, isi_tup_tuple, isi_tup_str, isi_tup_dict, isi_tup_lt,  at0, at1, at2, at3, set0, set1, set2, setD_l, fillIO, putIO, ioN, permO, wpE_n, wpE_c, rst_n, rst_c, isFl, List.map_cons, List.map_nil, List.cons_append, List.nil_append, List.append_nil, List.replicate_succ, List.replicate_zero, Nat.reduceSub, Nat.reduceAdd, List.getElem?_cons_zero, List.getElem?_cons_succ, List.getD_cons_zero, List.getD_cons_succ, List.set_cons_zero, List.set_cons_succ, List.length_cons, List.length_nil, List.map_append])
  exact ⟨trivial, q _⟩
end
end M3

/-! PG -/
set_option Elab.async false
set_option linter.all false
set_option maxRecDepth 100000
set_option maxHeartbeats 400000
namespace M3
open PySem PySem.Spec PyProof.Rows L2

/-! ### coming by steps of taking -/
/-- a square of n rows -/
structure Sq (n : Nat) (T : List (List Int)) : Prop where
  len : T.length = n
  row : ∀ i, i < n → (T.getD i []).length = n
theorem Tab.sq {n : Nat} {T : List (List Int)} (h : Tab n T) : Sq n T := ⟨h.len, fun i hi => h.rowLen hi⟩
def edg (T : List (List Int)) (i j : Nat) : Bool := decide (0 < ent T i j)
def psD (E : BE) : List D := (List.range E.length).map fun i => if i = 0 then .non else .int (nd E (pr E i) : Int)
section
variable {n s m k : Nat} {T : List (List Int)} {E : BE} {Q : D → Sl → Prop}
theorem nds_app {x : Nat × Nat × Nat} : nds (E ++ [x]) = nds E ++ [x.1] := by unfold nds; rw [List.map_append]; rfl
theorem nds_len : (nds E).length = E.length := by unfold nds; rw [List.length_map]
theorem nds_get (h : m < E.length) : (nds E)[m]'(by rw [nds_len]; exact h) = nd E m := by
  unfold nds nd
  rw [List.getElem_map, List.getD_eq_getElem?_getD, List.getElem?_eq_getElem h]
  rfl
theorem drop_nds (h : m < E.length) : (nds E).drop m = nd E m :: (nds E).drop (m + 1) := by
  rw [List.drop_eq_getElem_cons (by rw [nds_len]; exact h), nds_get h]
theorem psD_app {v l : Nat} (h : BS n (edg T) s m k E) (hm : m < E.length) : psD (E ++ [(v, m, l)]) = psD E ++ [.int (nd E m : Int)] := by
  unfold psD
  rw [List.length_append, List.length_singleton, List.range_succ, List.map_append]
  congr 1
  · refine List.map_congr_left fun i hi => ?_
    have hi := List.mem_range.mp hi
    by_cases h0 : i = 0
    · rw [if_pos h0, if_pos h0]
    · have hp := (h.par i (by omega) hi).1
      rw [if_neg h0, if_neg h0, pr_app hi, nd_app (by omega)]
  · have := h.pos
    rw [List.map_singleton, if_neg (by omega), pr_new, nd_app hm]
theorem OP_rowL (h : Sq n T) {i : Nat} (hi : i < n) {R : D → Prop} : OP (D.ix (tabD T) (.int (i : Int))) R = R (.lst ((T.getD i []).map .int)) := OP_tab (by rw [h.len]; exact hi)
theorem OP_entS (h : Sq n T) {i j : Nat} (hi : i < n) (hj : j < n) {R : D → Prop} : (OP (D.ix (tabD T) (.int (i : Int))) fun r => OP (D.ix r (.int (j : Int))) R) = R (.int (ent T i j)) := by
  rw [OP_tab (by rw [h.len]; exact hi), OP_row (by rw [h.row i hi]; exact hj)]
  rfl
theorem sp_come (h : Sq n T) (hs : s < n) (hn : n ≤ 1000) (q : ∀ E e, BS n (edg T) s E.length 0 E → Q (.dct (kNs (nds E)) (psD E)) e) : FP (m_come_to [tabD T, .int (s : Int)]) Q := by
  unfold m_come_to b_come_to
  (try simp only [RP_varm, RP_holem, RP_c, RP_1, RP_2, RP_3, RP_f, RP_nil, RP_cons, RP_if, RP_and, RP_or, RP_not, RP_B, RP_qt, RP_perm, RP_pn, RP_ps, RP_sl, RP_call, RP_src2, SrcP_l, SrcP_t, SrcP_pl, SrcP_row, SrcP_tab, RP_r1, RP_r2, RP_en2, EnP_l, EnP_row, EnP_tab, LsP_l, LsP_pl, RP_lc, RP_yes, RP_pop, RP_lr, RP_fl, RP_dct1, RP_asL,  SP_nx, SP_seq, SP_drop, SP_ret, SP_set, SP_if, SP_sub, SP_sub2, SP_app, SP_app2, SP_tgt, SP_par, SP_parO, SP_str, SP_uT, SP_uN, SP_uC, SP_uS, SP_subK, SP_for, FP_fn, OP_gT, OP_gC, OP_gE, OP_some, OP_map, OP_add, OP_sub, OP_mul, OP_fdiv, OP_fmod, OP_pow, OP_neg, OP_lt, OP_le, OP_gt, OP_ge, OP_eqi, OP_nei, OP_bits, OP_int, OP_intb, OP_tup, OP_lst, OP_lenl, OP_lent, OP_lenf, OP_abs, OP_max2, OP_min2, OP_gcd, OP_ixl, OP_ixt, OP_ixf, OP_cat, OP_rep, OP_subb, OP_gN, OP_eqs, OP_eq00, OP_ne00, OP_dct1, OP_nepl, OP_eqpl, OP_isLp, OP_pop0, OP_apppl, OP_lenpl, OP_lentab, OP_inpl, OP_ninpl, OP_indk, OP_nindk, OP_setK, BQ_b, BP_t, BP_f, BP_d, BP_n, BP_eq, ↓reduceIte, Option.map_some, is_non_np, is_non_ng, is_non_tp, is_non_tg, is_non_fp, is_non_fg, is_bl_np, is_bl_ng, is_bl_tp, is_bl_tg, is_bl_fp, is_bl_fg, is_int_np, is_int_ng, is_int_tp, is_int_tg, is_int_fp, is_int_fg, is_str_np, is_str_ng, is_str_tp, is_str_tg, is_str_fp, is_str_fg, is_lst_np, is_lst_ng, is_lst_tp, is_lst_tg, is_lst_fp, is_lst_fg, is_tup_np, is_tup_ng, is_tup_tp, is_tup_tg, is_tup_fp, is_tup_fg, isi_non_int, isi_non_bool, isi_non_list, isi_non_tuple, isi_non_str, isi_non_dict, isi_non_lt, isi_bl_int, isi_bl_bool, isi_bl_list, isi_bl_tuple, isi_bl_str, isi_bl_dict, isi_bl_lt, isi_int_int, isi_int_bool, isi_int_list, isi_int_tuple, isi_int_str, isi_int_dict, isi_int_lt, isi_str_int, isi_str_bool, isi_str_list, isi_str_tuple, isi_str_str, isi_str_dict, isi_str_lt, isi_lst_int, isi_lst_bool, isi_lst_list, isi_lst_tuple, isi_lst_str, isi_lst_dict, isi_lst_lt, isi_tup_int, isi_tup_bool, isi_tup_list, isi_tup_tuple, isi_tup_str, isi_tup_dict, isi_tup_lt,  at0, at1, at2, at3, set0, set1, set2, setD_l, fillIO, putIO, ioN, permO, wpE_n, wpE_c, rst_n, rst_c, isFl, List.map_cons, List.map_nil, List.cons_append, List.nil_append, List.append_nil, List.replicate_succ, List.replicate_zero, Nat.reduceSub, Nat.reduceAdd, List.getElem?_cons_zero, List.getElem?_cons_succ, List.getD_cons_zero, List.getD_cons_succ, List.set_cons_zero, List.set_cons_succ, List.length_cons, List.length_nil, List.map_append])
  refine ⟨by decide, ?_⟩
  refine SP_whl (fun μ e => ∃ m E x4 x5 x6, μ = n - m ∧ BS n (edg T) s m 0 E ∧ e = [some (tabD T), some (.int s), some (.dct (kNs (nds E)) (psD E)), some (plD ((nds E).drop m)), x4, x5, x6]) n (Nat.lt_of_le_of_lt hn (by unfold fuel; decide)) ⟨0, [(s, 0, 0)], none, none, none, rfl, BS.start hs, rfl⟩ ?_
  rintro μ e ⟨m, E, x4, x5, x6, hμ, B, rfl⟩
  have hEn := B.len
  (try simp only [RP_varm, RP_holem, RP_c, RP_1, RP_2, RP_3, RP_f, RP_nil, RP_cons, RP_if, RP_and, RP_or, RP_not, RP_B, RP_qt, RP_perm, RP_pn, RP_ps, RP_sl, RP_call, RP_src2, SrcP_l, SrcP_t, SrcP_pl, SrcP_row, SrcP_tab, RP_r1, RP_r2, RP_en2, EnP_l, EnP_row, EnP_tab, LsP_l, LsP_pl, RP_lc, RP_yes, RP_pop, RP_lr, RP_fl, RP_dct1, RP_asL,  SP_nx, SP_seq, SP_drop, SP_ret, SP_set, SP_if, SP_sub, SP_sub2, SP_app, SP_app2, SP_tgt, SP_par, SP_parO, SP_str, SP_uT, SP_uN, SP_uC, SP_uS, SP_subK, SP_for, FP_fn, OP_gT, OP_gC, OP_gE, OP_some, OP_map, OP_add, OP_sub, OP_mul, OP_fdiv, OP_fmod, OP_pow, OP_neg, OP_lt, OP_le, OP_gt, OP_ge, OP_eqi, OP_nei, OP_bits, OP_int, OP_intb, OP_tup, OP_lst, OP_lenl, OP_lent, OP_lenf, OP_abs, OP_max2, OP_min2, OP_gcd, OP_ixl, OP_ixt, OP_ixf, OP_cat, OP_rep, OP_subb, OP_gN, OP_eqs, OP_eq00, OP_ne00, OP_dct1, OP_nepl, OP_eqpl, OP_isLp, OP_pop0, OP_apppl, OP_lenpl, OP_lentab, OP_inpl, OP_ninpl, OP_indk, OP_nindk, OP_setK, BQ_b, BP_t, BP_f, BP_d, BP_n, BP_eq, ↓reduceIte, Option.map_some, is_non_np, is_non_ng, is_non_tp, is_non_tg, is_non_fp, is_non_fg, is_bl_np, is_bl_ng, is_bl_tp, is_bl_tg, is_bl_fp, is_bl_fg, is_int_np, is_int_ng, is_int_tp, is_int_tg, is_int_fp, is_int_fg, is_str_np, is_str_ng, is_str_tp, is_str_tg, is_str_fp, is_str_fg, is_lst_np, is_lst_ng, is_lst_tp, is_lst_tg, is_lst_fp, is_lst_fg, is_tup_np, is_tup_ng, is_tup_tp, is_tup_tg, is_tup_fp, is_tup_fg, isi_non_int, isi_non_bool, isi_non_list, isi_non_tuple, isi_non_str, isi_non_dict, isi_non_lt, isi_bl_int, isi_bl_bool, isi_bl_list, isi_bl_tuple, isi_bl_str, isi_bl_dict, isi_bl_lt, isi_int_int, isi_int_bool, isi_int_list, isi_int_tuple, isi_int_str, isi_int_dict, isi_int_lt, isi_str_int, isi_str_bool, isi_str_list, isi_str_tuple, isi_str_str, isi_str_dict, isi_str_lt, isi_lst_int, isi_lst_bool, isi_lst_list, isi_lst_tuple, isi_lst_str, isi_lst_dict, isi_lst_lt, isi_tup_int, isi_tup_bool, isi_tup_list, isi_tup_tuple, isi_tup_str, isi_tup_dict, isi_tup_lt,  at0, at1, at2, at3, set0, set1, set2, setD_l, fillIO, putIO, ioN, permO, wpE_n, wpE_c, rst_n, rst_c, isFl, List.map_cons, List.map_nil, List.cons_append, List.nil_append, List.append_nil, List.replicate_succ, List.replicate_zero, Nat.reduceSub, Nat.reduceAdd, List.getElem?_cons_zero, List.getElem?_cons_succ, List.getD_cons_zero, List.getD_cons_succ, List.set_cons_zero, List.set_cons_succ, List.length_cons, List.length_nil, List.map_append])
  by_cases hm : m < E.length
  · rw [drop_nds hm]
    have hv : nd E m < n := B.lt _ (nd_mem hm)
    refine ⟨by decide, ?_⟩
    (try simp only [RP_varm, RP_holem, RP_c, RP_1, RP_2, RP_3, RP_f, RP_nil, RP_cons, RP_if, RP_and, RP_or, RP_not, RP_B, RP_qt, RP_perm, RP_pn, RP_ps, RP_sl, RP_call, RP_src2, SrcP_l, SrcP_t, SrcP_pl, SrcP_row, SrcP_tab, RP_r1, RP_r2, RP_en2, EnP_l, EnP_row, EnP_tab, LsP_l, LsP_pl, RP_lc, RP_yes, RP_pop, RP_lr, RP_fl, RP_dct1, RP_asL,  SP_nx, SP_seq, SP_drop, SP_ret, SP_set, SP_if, SP_sub, SP_sub2, SP_app, SP_app2, SP_tgt, SP_par, SP_parO, SP_str, SP_uT, SP_uN, SP_uC, SP_uS, SP_subK, SP_for, FP_fn, OP_gT, OP_gC, OP_gE, OP_some, OP_map, OP_add, OP_sub, OP_mul, OP_fdiv, OP_fmod, OP_pow, OP_neg, OP_lt, OP_le, OP_gt, OP_ge, OP_eqi, OP_nei, OP_bits, OP_int, OP_intb, OP_tup, OP_lst, OP_lenl, OP_lent, OP_lenf, OP_abs, OP_max2, OP_min2, OP_gcd, OP_ixl, OP_ixt, OP_ixf, OP_cat, OP_rep, OP_subb, OP_gN, OP_eqs, OP_eq00, OP_ne00, OP_dct1, OP_nepl, OP_eqpl, OP_isLp, OP_pop0, OP_apppl, OP_lenpl, OP_lentab, OP_inpl, OP_ninpl, OP_indk, OP_nindk, OP_setK, BQ_b, BP_t, BP_f, BP_d, BP_n, BP_eq, ↓reduceIte, Option.map_some, is_non_np, is_non_ng, is_non_tp, is_non_tg, is_non_fp, is_non_fg, is_bl_np, is_bl_ng, is_bl_tp, is_bl_tg, is_bl_fp, is_bl_fg, is_int_np, is_int_ng, is_int_tp, is_int_tg, is_int_fp, is_int_fg, is_str_np, is_str_ng, is_str_tp, is_str_tg, is_str_fp, is_str_fg, is_lst_np, is_lst_ng, is_lst_tp, is_lst_tg, is_lst_fp, is_lst_fg, is_tup_np, is_tup_ng, is_tup_tp, is_tup_tg, is_tup_fp, is_tup_fg, isi_non_int, isi_non_bool, isi_non_list, isi_non_tuple, isi_non_str, isi_non_dict, isi_non_lt, isi_bl_int, isi_bl_bool, isi_bl_list, isi_bl_tuple, isi_bl_str, isi_bl_dict, isi_bl_lt, isi_int_int, isi_int_bool, isi_int_list, isi_int_tuple, isi_int_str, isi_int_dict, isi_int_lt, isi_str_int, isi_str_bool, isi_str_list, isi_str_tuple, isi_str_str, isi_str_dict, isi_str_lt, isi_lst_int, isi_lst_bool, isi_lst_list, isi_lst_tuple, isi_lst_str, isi_lst_dict, isi_lst_lt, isi_tup_int, isi_tup_bool, isi_tup_list, isi_tup_tuple, isi_tup_str, isi_tup_dict, isi_tup_lt,  at0, at1, at2, at3, set0, set1, set2, setD_l, fillIO, putIO, ioN, permO, wpE_n, wpE_c, rst_n, rst_c, isFl, List.map_cons, List.map_nil, List.cons_append, List.nil_append, List.append_nil, List.replicate_succ, List.replicate_zero, Nat.reduceSub, Nat.reduceAdd, List.getElem?_cons_zero, List.getElem?_cons_succ, List.getD_cons_zero, List.getD_cons_succ, List.set_cons_zero, List.set_cons_succ, List.length_cons, List.length_nil, List.map_append])
    refine ⟨by rw [List.length_drop, nds_len]; show _ ≤ 1000000; omega, ?_⟩
    rw [OP_rowL h hv]
    (try simp only [RP_varm, RP_holem, RP_c, RP_1, RP_2, RP_3, RP_f, RP_nil, RP_cons, RP_if, RP_and, RP_or, RP_not, RP_B, RP_qt, RP_perm, RP_pn, RP_ps, RP_sl, RP_call, RP_src2, SrcP_l, SrcP_t, SrcP_pl, SrcP_row, SrcP_tab, RP_r1, RP_r2, RP_en2, EnP_l, EnP_row, EnP_tab, LsP_l, LsP_pl, RP_lc, RP_yes, RP_pop, RP_lr, RP_fl, RP_dct1, RP_asL,  SP_nx, SP_seq, SP_drop, SP_ret, SP_set, SP_if, SP_sub, SP_sub2, SP_app, SP_app2, SP_tgt, SP_par, SP_parO, SP_str, SP_uT, SP_uN, SP_uC, SP_uS, SP_subK, SP_for, FP_fn, OP_gT, OP_gC, OP_gE, OP_some, OP_map, OP_add, OP_sub, OP_mul, OP_fdiv, OP_fmod, OP_pow, OP_neg, OP_lt, OP_le, OP_gt, OP_ge, OP_eqi, OP_nei, OP_bits, OP_int, OP_intb, OP_tup, OP_lst, OP_lenl, OP_lent, OP_lenf, OP_abs, OP_max2, OP_min2, OP_gcd, OP_ixl, OP_ixt, OP_ixf, OP_cat, OP_rep, OP_subb, OP_gN, OP_eqs, OP_eq00, OP_ne00, OP_dct1, OP_nepl, OP_eqpl, OP_isLp, OP_pop0, OP_apppl, OP_lenpl, OP_lentab, OP_inpl, OP_ninpl, OP_indk, OP_nindk, OP_setK, BQ_b, BP_t, BP_f, BP_d, BP_n, BP_eq, ↓reduceIte, Option.map_some, is_non_np, is_non_ng, is_non_tp, is_non_tg, is_non_fp, is_non_fg, is_bl_np, is_bl_ng, is_bl_tp, is_bl_tg, is_bl_fp, is_bl_fg, is_int_np, is_int_ng, is_int_tp, is_int_tg, is_int_fp, is_int_fg, is_str_np, is_str_ng, is_str_tp, is_str_tg, is_str_fp, is_str_fg, is_lst_np, is_lst_ng, is_lst_tp, is_lst_tg, is_lst_fp, is_lst_fg, is_tup_np, is_tup_ng, is_tup_tp, is_tup_tg, is_tup_fp, is_tup_fg, isi_non_int, isi_non_bool, isi_non_list, isi_non_tuple, isi_non_str, isi_non_dict, isi_non_lt, isi_bl_int, isi_bl_bool, isi_bl_list, isi_bl_tuple, isi_bl_str, isi_bl_dict, isi_bl_lt, isi_int_int, isi_int_bool, isi_int_list, isi_int_tuple, isi_int_str, isi_int_dict, isi_int_lt, isi_str_int, isi_str_bool, isi_str_list, isi_str_tuple, isi_str_str, isi_str_dict, isi_str_lt, isi_lst_int, isi_lst_bool, isi_lst_list, isi_lst_tuple, isi_lst_str, isi_lst_dict, isi_lst_lt, isi_tup_int, isi_tup_bool, isi_tup_list, isi_tup_tuple, isi_tup_str, isi_tup_dict, isi_tup_lt,  at0, at1, at2, at3, set0, set1, set2, setD_l, fillIO, putIO, ioN, permO, wpE_n, wpE_c, rst_n, rst_c, isFl, List.map_cons, List.map_nil, List.cons_append, List.nil_append, List.append_nil, List.replicate_succ, List.replicate_zero, Nat.reduceSub, Nat.reduceAdd, List.getElem?_cons_zero, List.getElem?_cons_succ, List.getD_cons_zero, List.getD_cons_succ, List.set_cons_zero, List.set_cons_succ, List.length_cons, List.length_nil, List.map_append])
    rw [enumD_zip]
    have hrl : (((T.getD (nd E m) []).map D.int).zipIdx.map fun p : D × Nat => D.tup [.int (p.2 : Int), p.1]).length = n := by
      rw [List.length_map, List.length_zipIdx, List.length_map, h.row _ hv]
    refine SP_forI (fun k e => ∃ E' x5 x6, BS n (edg T) s m k E' ∧ nd E' m = nd E m ∧ m < E'.length ∧ e = [some (tabD T), some (.int s), some (.dct (kNs (nds E')) (psD E')), some (plD ((nds E').drop (m + 1))), some (.int (nd E m)), x5, x6]) ⟨E, x5, x6, B, rfl, hm, rfl⟩ ?_ ?_
    · rintro k hk e ⟨E', y5, y6, B', hnd, hm', rfl⟩
      rw [hrl] at hk
      have hEn' := B'.len
      have e1 : (((T.getD (nd E m) []).map D.int).zipIdx.map fun p : D × Nat => D.tup [.int (p.2 : Int), p.1])[k]'(by rw [hrl]; exact hk) = .tup [.int (k : Int), .int (ent T (nd E m) k)] := by
        rw [List.getElem_map, List.getElem_zipIdx, List.getElem_map]
        simp only [Nat.zero_add]
        unfold ent
        rw [List.getD_eq_getElem?_getD (l := T.getD (nd E m) []), List.getElem?_eq_getElem (by rw [h.row _ hv]; exact hk)]
        rfl
      rw [e1]
      (try simp only [RP_varm, RP_holem, RP_c, RP_1, RP_2, RP_3, RP_f, RP_nil, RP_cons, RP_if, RP_and, RP_or, RP_not, RP_B, RP_qt, RP_perm, RP_pn, RP_ps, RP_sl, RP_call, RP_src2, SrcP_l, SrcP_t, SrcP_pl, SrcP_row, SrcP_tab, RP_r1, RP_r2, RP_en2, EnP_l, EnP_row, EnP_tab, LsP_l, LsP_pl, RP_lc, RP_yes, RP_pop, RP_lr, RP_fl, RP_dct1, RP_asL,  SP_nx, SP_seq, SP_drop, SP_ret, SP_set, SP_if, SP_sub, SP_sub2, SP_app, SP_app2, SP_tgt, SP_par, SP_parO, SP_str, SP_uT, SP_uN, SP_uC, SP_uS, SP_subK, SP_for, FP_fn, OP_gT, OP_gC, OP_gE, OP_some, OP_map, OP_add, OP_sub, OP_mul, OP_fdiv, OP_fmod, OP_pow, OP_neg, OP_lt, OP_le, OP_gt, OP_ge, OP_eqi, OP_nei, OP_bits, OP_int, OP_intb, OP_tup, OP_lst, OP_lenl, OP_lent, OP_lenf, OP_abs, OP_max2, OP_min2, OP_gcd, OP_ixl, OP_ixt, OP_ixf, OP_cat, OP_rep, OP_subb, OP_gN, OP_eqs, OP_eq00, OP_ne00, OP_dct1, OP_nepl, OP_eqpl, OP_isLp, OP_pop0, OP_apppl, OP_lenpl, OP_lentab, OP_inpl, OP_ninpl, OP_indk, OP_nindk, OP_setK, BQ_b, BP_t, BP_f, BP_d, BP_n, BP_eq, ↓reduceIte, Option.map_some, is_non_np, is_non_ng, is_non_tp, is_non_tg, is_non_fp, is_non_fg, is_bl_np, is_bl_ng, is_bl_tp, is_bl_tg, is_bl_fp, is_bl_fg, is_int_np, is_int_ng, is_int_tp, is_int_tg, is_int_fp, is_int_fg, is_str_np, is_str_ng, is_str_tp, is_str_tg, is_str_fp, is_str_fg, is_lst_np, is_lst_ng, is_lst_tp, is_lst_tg, is_lst_fp, is_lst_fg, is_tup_np, is_tup_ng, is_tup_tp, is_tup_tg, is_tup_fp, is_tup_fg, isi_non_int, isi_non_bool, isi_non_list, isi_non_tuple, isi_non_str, isi_non_dict, isi_non_lt, isi_bl_int, isi_bl_bool, isi_bl_list, isi_bl_tuple, isi_bl_str, isi_bl_dict, isi_bl_lt, isi_int_int, isi_int_bool, isi_int_list, isi_int_tuple, isi_int_str, isi_int_dict, isi_int_lt, isi_str_int, isi_str_bool, isi_str_list, isi_str_tuple, isi_str_str, isi_str_dict, isi_str_lt, isi_lst_int, isi_lst_bool, isi_lst_list, isi_lst_tuple, isi_lst_str, isi_lst_dict, isi_lst_lt, isi_tup_int, isi_tup_bool, isi_tup_list, isi_tup_tuple, isi_tup_str, isi_tup_dict, isi_tup_lt,  at0, at1, at2, at3, set0, set1, set2, setD_l, fillIO, putIO, ioN, permO, wpE_n, wpE_c, rst_n, rst_c, isFl, List.map_cons, List.map_nil, List.cons_append, List.nil_append, List.append_nil, List.replicate_succ, List.replicate_zero, Nat.reduceSub, Nat.reduceAdd, List.getElem?_cons_zero, List.getElem?_cons_succ, List.getD_cons_zero, List.getD_cons_succ, List.set_cons_zero, List.set_cons_succ, List.length_cons, List.length_nil, List.map_append])
      refine ⟨trivial, ⟨fun hp => ?_, fun hp => ?_⟩⟩
      · have hg : edg T (nd E' m) k = true := by rw [hnd]; exact decide_eq_true hp
        refine ⟨fun hin => ⟨E', _, _, B'.skip hm' (fun _ => hin), hnd, hm', rfl⟩, fun hin => ?_⟩
        refine ⟨⟨by rw [nds_len]; show _ < 1000000; omega, hin⟩, ?_, ?_⟩
        · rw [List.length_drop, nds_len]; show _ < 1000000; omega
        · refine ⟨E' ++ [(k, m, lv E' m + 1)], some (.int (k : Int)), some (.int (ent T (nd E m) k)), B'.add hm' hg hin hk, by rw [nd_app hm']; exact hnd, by rw [List.length_append]; omega, ?_⟩
          rw [nds_app, psD_app B' hm', hnd, List.drop_append_of_le_length (by rw [nds_len]; omega)]
      · exact ⟨E', _, _, B'.skip hm' (fun hg => by rw [hnd] at hg; exact absurd (of_decide_eq_true hg) hp), hnd, hm', rfl⟩
    · rintro e ⟨E', y5, y6, B', hnd, hm', rfl⟩
      rw [hrl] at B'
      refine ⟨n - (m + 1), by omega, m + 1, E', _, _, _, rfl, B'.next hm', rfl⟩
  · have e0 : m = E.length := by have := B.ml; omega
    subst e0
    rw [List.drop_eq_nil_of_le (by rw [nds_len]; exact Nat.le_refl _)]
    refine ⟨by decide, ?_⟩
    (try simp only [RP_varm, RP_holem, RP_c, RP_1, RP_2, RP_3, RP_f, RP_nil, RP_cons, RP_if, RP_and, RP_or, RP_not, RP_B, RP_qt, RP_perm, RP_pn, RP_ps, RP_sl, RP_call, RP_src2, SrcP_l, SrcP_t, SrcP_pl, SrcP_row, SrcP_tab, RP_r1, RP_r2, RP_en2, EnP_l, EnP_row, EnP_tab, LsP_l, LsP_pl, RP_lc, RP_yes, RP_pop, RP_lr, RP_fl, RP_dct1, RP_asL,  SP_nx, SP_seq, SP_drop, SP_ret, SP_set, SP_if, SP_sub, SP_sub2, SP_app, SP_app2, SP_tgt, SP_par, SP_parO, SP_str, SP_uT, SP_uN, SP_uC, SP_uS, SP_subK, SP_for, FP_fn, OP_gT, OP_gC, OP_gE, OP_some, OP_map, OP_add, OP_sub, OP_mul, OP_fdiv, OP_fmod, OP_pow, OP_neg, OP_lt, OP_le, OP_gt, OP_ge, OP_eqi, OP_nei, OP_bits, OP_int, OP_intb, OP_tup, OP_lst, OP_lenl, OP_lent, OP_lenf, OP_abs, OP_max2, OP_min2, OP_gcd, OP_ixl, OP_ixt, OP_ixf, OP_cat, OP_rep, OP_subb, OP_gN, OP_eqs, OP_eq00, OP_ne00, OP_dct1, OP_nepl, OP_eqpl, OP_isLp, OP_pop0, OP_apppl, OP_lenpl, OP_lentab, OP_inpl, OP_ninpl, OP_indk, OP_nindk, OP_setK, BQ_b, BP_t, BP_f, BP_d, BP_n, BP_eq, ↓reduceIte, Option.map_some, is_non_np, is_non_ng, is_non_tp, is_non_tg, is_non_fp, is_non_fg, is_bl_np, is_bl_ng, is_bl_tp, is_bl_tg, is_bl_fp, is_bl_fg, is_int_np, is_int_ng, is_int_tp, is_int_tg, is_int_fp, is_int_fg, is_str_np, is_str_ng, is_str_tp, is_str_tg, is_str_fp, is_str_fg, is_lst_np, is_lst_ng, is_lst_tp, is_lst_tg, is_lst_fp, is_lst_fg, is_tup_np, is_tup_ng, is_tup_tp, is_tup_tg, is_tup_fp, is_tup_fg, isi_non_int, isi_non_bool, isi_non_list, isi_non_tuple, isi_non_str, isi_non_dict, isi_non_lt, isi_bl_int, isi_bl_bool, isi_bl_list, isi_bl_tuple, isi_bl_str, isi_bl_dict, isi_bl_lt, isi_int_int, isi_int_bool, isi_int_list, isi_int_tuple, isi_int_str, isi_int_dict, isi_int_lt, isi_str_int, isi_str_bool, isi_str_list, isi_str_tuple, isi_str_str, isi_str_dict, isi_str_lt, isi_lst_int, isi_lst_bool, isi_lst_list, isi_lst_tuple, isi_lst_str, isi_lst_dict, isi_lst_lt, isi_tup_int, isi_tup_bool, isi_tup_list, isi_tup_tuple, isi_tup_str, isi_tup_dict, isi_tup_lt,  at0, at1, at2, at3, set0, set1, set2, setD_l, fillIO, putIO, ioN, permO, wpE_n, wpE_c, rst_n, rst_c, isFl, List.map_cons, List.map_nil, List.cons_append, List.nil_append, List.append_nil, List.replicate_succ, List.replicate_zero, Nat.reduceSub, Nat.reduceAdd, List.getElem?_cons_zero, List.getElem?_cons_succ, List.getD_cons_zero, List.getD_cons_succ, List.set_cons_zero, List.set_cons_succ, List.length_cons, List.length_nil, List.map_append])
    exact q E _ B
theorem pl_one {a : Nat} : D.lst [.int (a : Int)] = plD [a] := rfl
theorem OP_inpl2 {l : List Nat} {i : Nat} {R : D → Prop} : OP (D.isin (.int (i : Int)) (plD l)) R = R (.bl (decide (i ∈ l))) := OP_inpl
theorem sp_comes {a : Nat} (h : Sq n T) (ha : a < n) (hn : n ≤ 1000) (q : ∀ e, Q (plD (comes n (edg T) a)) e) : FP (m_law_comes [tabD T, .int (a : Int)]) Q := by
  unfold m_law_comes b_law_comes
  (try simp only [RP_varm, RP_holem, RP_c, RP_1, RP_2, RP_3, RP_f, RP_nil, RP_cons, RP_if, RP_and, RP_or, RP_not, RP_B, RP_qt, RP_perm, RP_pn, RP_ps, RP_sl, RP_call, RP_src2, SrcP_l, SrcP_t, SrcP_pl, SrcP_row, SrcP_tab, RP_r1, RP_r2, RP_en2, EnP_l, EnP_row, EnP_tab, LsP_l, LsP_pl, RP_lc, RP_yes, RP_pop, RP_lr, RP_fl, RP_dct1, RP_asL,  SP_nx, SP_seq, SP_drop, SP_ret, SP_set, SP_if, SP_sub, SP_sub2, SP_app, SP_app2, SP_tgt, SP_par, SP_parO, SP_str, SP_uT, SP_uN, SP_uC, SP_uS, SP_subK, SP_for, FP_fn, OP_gT, OP_gC, OP_gE, OP_some, OP_map, OP_add, OP_sub, OP_mul, OP_fdiv, OP_fmod, OP_pow, OP_neg, OP_lt, OP_le, OP_gt, OP_ge, OP_eqi, OP_nei, OP_bits, OP_int, OP_intb, OP_tup, OP_lst, OP_lenl, OP_lent, OP_lenf, OP_abs, OP_max2, OP_min2, OP_gcd, OP_ixl, OP_ixt, OP_ixf, OP_cat, OP_rep, OP_subb, OP_gN, OP_eqs, OP_eq00, OP_ne00, OP_dct1, OP_nepl, OP_eqpl, OP_isLp, OP_pop0, OP_apppl, OP_lenpl, OP_lentab, OP_inpl, OP_ninpl, OP_indk, OP_nindk, OP_setK, BQ_b, BP_t, BP_f, BP_d, BP_n, BP_eq, ↓reduceIte, Option.map_some, is_non_np, is_non_ng, is_non_tp, is_non_tg, is_non_fp, is_non_fg, is_bl_np, is_bl_ng, is_bl_tp, is_bl_tg, is_bl_fp, is_bl_fg, is_int_np, is_int_ng, is_int_tp, is_int_tg, is_int_fp, is_int_fg, is_str_np, is_str_ng, is_str_tp, is_str_tg, is_str_fp, is_str_fg, is_lst_np, is_lst_ng, is_lst_tp, is_lst_tg, is_lst_fp, is_lst_fg, is_tup_np, is_tup_ng, is_tup_tp, is_tup_tg, is_tup_fp, is_tup_fg, isi_non_int, isi_non_bool, isi_non_list, isi_non_tuple, isi_non_str, isi_non_dict, isi_non_lt, isi_bl_int, isi_bl_bool, isi_bl_list, isi_bl_tuple, isi_bl_str, isi_bl_dict, isi_bl_lt, isi_int_int, isi_int_bool, isi_int_list, isi_int_tuple, isi_int_str, isi_int_dict, isi_int_lt, isi_str_int, isi_str_bool, isi_str_list, isi_str_tuple, isi_str_str, isi_str_dict, isi_str_lt, isi_lst_int, isi_lst_bool, isi_lst_list, isi_lst_tuple, isi_lst_str, isi_lst_dict, isi_lst_lt, isi_tup_int, isi_tup_bool, isi_tup_list, isi_tup_tuple, isi_tup_str, isi_tup_dict, isi_tup_lt,  at0, at1, at2, at3, set0, set1, set2, setD_l, fillIO, putIO, ioN, permO, wpE_n, wpE_c, rst_n, rst_c, isFl, List.map_cons, List.map_nil, List.cons_append, List.nil_append, List.append_nil, List.replicate_succ, List.replicate_zero, Nat.reduceSub, Nat.reduceAdd, List.getElem?_cons_zero, List.getElem?_cons_succ, List.getD_cons_zero, List.getD_cons_succ, List.set_cons_zero, List.set_cons_succ, List.length_cons, List.length_nil, List.map_append])
  rw [h.len, Int.toNat_natCast]
  refine ⟨by decide, rOk_n (by omega), ?_⟩
  refine SP_forR (fun k e => ∃ x3, e = [some (tabD T), some (.int a), some (plD (nears n (edg T) a k)), x3, none, none]) ⟨none, rfl⟩ ?_ ?_
  · rintro k hk e ⟨x3, rfl⟩
    have hlt := nears_lt (g := edg T) ha k
    (try simp only [RP_varm, RP_holem, RP_c, RP_1, RP_2, RP_3, RP_f, RP_nil, RP_cons, RP_if, RP_and, RP_or, RP_not, RP_B, RP_qt, RP_perm, RP_pn, RP_ps, RP_sl, RP_call, RP_src2, SrcP_l, SrcP_t, SrcP_pl, SrcP_row, SrcP_tab, RP_r1, RP_r2, RP_en2, EnP_l, EnP_row, EnP_tab, LsP_l, LsP_pl, RP_lc, RP_yes, RP_pop, RP_lr, RP_fl, RP_dct1, RP_asL,  SP_nx, SP_seq, SP_drop, SP_ret, SP_set, SP_if, SP_sub, SP_sub2, SP_app, SP_app2, SP_tgt, SP_par, SP_parO, SP_str, SP_uT, SP_uN, SP_uC, SP_uS, SP_subK, SP_for, FP_fn, OP_gT, OP_gC, OP_gE, OP_some, OP_map, OP_add, OP_sub, OP_mul, OP_fdiv, OP_fmod, OP_pow, OP_neg, OP_lt, OP_le, OP_gt, OP_ge, OP_eqi, OP_nei, OP_bits, OP_int, OP_intb, OP_tup, OP_lst, OP_lenl, OP_lent, OP_lenf, OP_abs, OP_max2, OP_min2, OP_gcd, OP_ixl, OP_ixt, OP_ixf, OP_cat, OP_rep, OP_subb, OP_gN, OP_eqs, OP_eq00, OP_ne00, OP_dct1, OP_nepl, OP_eqpl, OP_isLp, OP_pop0, OP_apppl, OP_lenpl, OP_lentab, OP_inpl, OP_ninpl, OP_indk, OP_nindk, OP_setK, BQ_b, BP_t, BP_f, BP_d, BP_n, BP_eq, ↓reduceIte, Option.map_some, is_non_np, is_non_ng, is_non_tp, is_non_tg, is_non_fp, is_non_fg, is_bl_np, is_bl_ng, is_bl_tp, is_bl_tg, is_bl_fp, is_bl_fg, is_int_np, is_int_ng, is_int_tp, is_int_tg, is_int_fp, is_int_fg, is_str_np, is_str_ng, is_str_tp, is_str_tg, is_str_fp, is_str_fg, is_lst_np, is_lst_ng, is_lst_tp, is_lst_tg, is_lst_fp, is_lst_fg, is_tup_np, is_tup_ng, is_tup_tp, is_tup_tg, is_tup_fp, is_tup_fg, isi_non_int, isi_non_bool, isi_non_list, isi_non_tuple, isi_non_str, isi_non_dict, isi_non_lt, isi_bl_int, isi_bl_bool, isi_bl_list, isi_bl_tuple, isi_bl_str, isi_bl_dict, isi_bl_lt, isi_int_int, isi_int_bool, isi_int_list, isi_int_tuple, isi_int_str, isi_int_dict, isi_int_lt, isi_str_int, isi_str_bool, isi_str_list, isi_str_tuple, isi_str_str, isi_str_dict, isi_str_lt, isi_lst_int, isi_lst_bool, isi_lst_list, isi_lst_tuple, isi_lst_str, isi_lst_dict, isi_lst_lt, isi_tup_int, isi_tup_bool, isi_tup_list, isi_tup_tuple, isi_tup_str, isi_tup_dict, isi_tup_lt,  at0, at1, at2, at3, set0, set1, set2, setD_l, fillIO, putIO, ioN, permO, wpE_n, wpE_c, rst_n, rst_c, isFl, List.map_cons, List.map_nil, List.cons_append, List.nil_append, List.append_nil, List.replicate_succ, List.replicate_zero, Nat.reduceSub, Nat.reduceAdd, List.getElem?_cons_zero, List.getElem?_cons_succ, List.getD_cons_zero, List.getD_cons_succ, List.set_cons_zero, List.set_cons_succ, List.length_cons, List.length_nil, List.map_append])
    rw [h.len, Int.toNat_natCast, rngD0]
    refine ⟨rOk_n (by omega), ?_⟩
    refine RP_lcP (fun o => decide (o ∈ nears n (edg T) a k) || !((nears n (edg T) a k).filter fun h => edg T h o).isEmpty) (fun o => .int (o : Int)) (fun o ho => ?_) ?_
    · have ho := List.mem_range.mp ho
      (try simp only [RP_varm, RP_holem, RP_c, RP_1, RP_2, RP_3, RP_f, RP_nil, RP_cons, RP_if, RP_and, RP_or, RP_not, RP_B, RP_qt, RP_perm, RP_pn, RP_ps, RP_sl, RP_call, RP_src2, SrcP_l, SrcP_t, SrcP_pl, SrcP_row, SrcP_tab, RP_r1, RP_r2, RP_en2, EnP_l, EnP_row, EnP_tab, LsP_l, LsP_pl, RP_lc, RP_yes, RP_pop, RP_lr, RP_fl, RP_dct1, RP_asL,  SP_nx, SP_seq, SP_drop, SP_ret, SP_set, SP_if, SP_sub, SP_sub2, SP_app, SP_app2, SP_tgt, SP_par, SP_parO, SP_str, SP_uT, SP_uN, SP_uC, SP_uS, SP_subK, SP_for, FP_fn, OP_gT, OP_gC, OP_gE, OP_some, OP_map, OP_add, OP_sub, OP_mul, OP_fdiv, OP_fmod, OP_pow, OP_neg, OP_lt, OP_le, OP_gt, OP_ge, OP_eqi, OP_nei, OP_bits, OP_int, OP_intb, OP_tup, OP_lst, OP_lenl, OP_lent, OP_lenf, OP_abs, OP_max2, OP_min2, OP_gcd, OP_ixl, OP_ixt, OP_ixf, OP_cat, OP_rep, OP_subb, OP_gN, OP_eqs, OP_eq00, OP_ne00, OP_dct1, OP_nepl, OP_eqpl, OP_isLp, OP_pop0, OP_apppl, OP_lenpl, OP_lentab, OP_inpl, OP_ninpl, OP_indk, OP_nindk, OP_setK, BQ_b, BP_t, BP_f, BP_d, BP_n, BP_eq, ↓reduceIte, Option.map_some, is_non_np, is_non_ng, is_non_tp, is_non_tg, is_non_fp, is_non_fg, is_bl_np, is_bl_ng, is_bl_tp, is_bl_tg, is_bl_fp, is_bl_fg, is_int_np, is_int_ng, is_int_tp, is_int_tg, is_int_fp, is_int_fg, is_str_np, is_str_ng, is_str_tp, is_str_tg, is_str_fp, is_str_fg, is_lst_np, is_lst_ng, is_lst_tp, is_lst_tg, is_lst_fp, is_lst_fg, is_tup_np, is_tup_ng, is_tup_tp, is_tup_tg, is_tup_fp, is_tup_fg, isi_non_int, isi_non_bool, isi_non_list, isi_non_tuple, isi_non_str, isi_non_dict, isi_non_lt, isi_bl_int, isi_bl_bool, isi_bl_list, isi_bl_tuple, isi_bl_str, isi_bl_dict, isi_bl_lt, isi_int_int, isi_int_bool, isi_int_list, isi_int_tuple, isi_int_str, isi_int_dict, isi_int_lt, isi_str_int, isi_str_bool, isi_str_list, isi_str_tuple, isi_str_str, isi_str_dict, isi_str_lt, isi_lst_int, isi_lst_bool, isi_lst_list, isi_lst_tuple, isi_lst_str, isi_lst_dict, isi_lst_lt, isi_tup_int, isi_tup_bool, isi_tup_list, isi_tup_tuple, isi_tup_str, isi_tup_dict, isi_tup_lt,  at0, at1, at2, at3, set0, set1, set2, setD_l, fillIO, putIO, ioN, permO, wpE_n, wpE_c, rst_n, rst_c, isFl, List.map_cons, List.map_nil, List.cons_append, List.nil_append, List.append_nil, List.replicate_succ, List.replicate_zero, Nat.reduceSub, Nat.reduceAdd, List.getElem?_cons_zero, List.getElem?_cons_succ, List.getD_cons_zero, List.getD_cons_succ, List.set_cons_zero, List.set_cons_succ, List.length_cons, List.length_nil, List.map_append])
      refine ⟨fun hin => ?_, fun hin => ?_⟩
      · rw [decide_eq_true hin, Bool.true_or]
        (first | exact trivial | (simp; done) | (simp_all; done))
      · rw [decide_eq_false hin, Bool.false_or]
        refine RP_lcP (fun x => edg T x o) (fun x => .int (x : Int)) (fun x hx => ?_) ?_
        · (try simp only [RP_varm, RP_holem, RP_c, RP_1, RP_2, RP_3, RP_f, RP_nil, RP_cons, RP_if, RP_and, RP_or, RP_not, RP_B, RP_qt, RP_perm, RP_pn, RP_ps, RP_sl, RP_call, RP_src2, SrcP_l, SrcP_t, SrcP_pl, SrcP_row, SrcP_tab, RP_r1, RP_r2, RP_en2, EnP_l, EnP_row, EnP_tab, LsP_l, LsP_pl, RP_lc, RP_yes, RP_pop, RP_lr, RP_fl, RP_dct1, RP_asL,  SP_nx, SP_seq, SP_drop, SP_ret, SP_set, SP_if, SP_sub, SP_sub2, SP_app, SP_app2, SP_tgt, SP_par, SP_parO, SP_str, SP_uT, SP_uN, SP_uC, SP_uS, SP_subK, SP_for, FP_fn, OP_gT, OP_gC, OP_gE, OP_some, OP_map, OP_add, OP_sub, OP_mul, OP_fdiv, OP_fmod, OP_pow, OP_neg, OP_lt, OP_le, OP_gt, OP_ge, OP_eqi, OP_nei, OP_bits, OP_int, OP_intb, OP_tup, OP_lst, OP_lenl, OP_lent, OP_lenf, OP_abs, OP_max2, OP_min2, OP_gcd, OP_ixl, OP_ixt, OP_ixf, OP_cat, OP_rep, OP_subb, OP_gN, OP_eqs, OP_eq00, OP_ne00, OP_dct1, OP_nepl, OP_eqpl, OP_isLp, OP_pop0, OP_apppl, OP_lenpl, OP_lentab, OP_inpl, OP_ninpl, OP_indk, OP_nindk, OP_setK, BQ_b, BP_t, BP_f, BP_d, BP_n, BP_eq, ↓reduceIte, Option.map_some, is_non_np, is_non_ng, is_non_tp, is_non_tg, is_non_fp, is_non_fg, is_bl_np, is_bl_ng, is_bl_tp, is_bl_tg, is_bl_fp, is_bl_fg, is_int_np, is_int_ng, is_int_tp, is_int_tg, is_int_fp, is_int_fg, is_str_np, is_str_ng, is_str_tp, is_str_tg, is_str_fp, is_str_fg, is_lst_np, is_lst_ng, is_lst_tp, is_lst_tg, is_lst_fp, is_lst_fg, is_tup_np, is_tup_ng, is_tup_tp, is_tup_tg, is_tup_fp, is_tup_fg, isi_non_int, isi_non_bool, isi_non_list, isi_non_tuple, isi_non_str, isi_non_dict, isi_non_lt, isi_bl_int, isi_bl_bool, isi_bl_list, isi_bl_tuple, isi_bl_str, isi_bl_dict, isi_bl_lt, isi_int_int, isi_int_bool, isi_int_list, isi_int_tuple, isi_int_str, isi_int_dict, isi_int_lt, isi_str_int, isi_str_bool, isi_str_list, isi_str_tuple, isi_str_str, isi_str_dict, isi_str_lt, isi_lst_int, isi_lst_bool, isi_lst_list, isi_lst_tuple, isi_lst_str, isi_lst_dict, isi_lst_lt, isi_tup_int, isi_tup_bool, isi_tup_list, isi_tup_tuple, isi_tup_str, isi_tup_dict, isi_tup_lt,  at0, at1, at2, at3, set0, set1, set2, setD_l, fillIO, putIO, ioN, permO, wpE_n, wpE_c, rst_n, rst_c, isFl, List.map_cons, List.map_nil, List.cons_append, List.nil_append, List.append_nil, List.replicate_succ, List.replicate_zero, Nat.reduceSub, Nat.reduceAdd, List.getElem?_cons_zero, List.getElem?_cons_succ, List.getD_cons_zero, List.getD_cons_succ, List.set_cons_zero, List.set_cons_succ, List.length_cons, List.length_nil, List.map_append])
          rw [OP_entS h (hlt x hx) ho]
          (try simp only [RP_varm, RP_holem, RP_c, RP_1, RP_2, RP_3, RP_f, RP_nil, RP_cons, RP_if, RP_and, RP_or, RP_not, RP_B, RP_qt, RP_perm, RP_pn, RP_ps, RP_sl, RP_call, RP_src2, SrcP_l, SrcP_t, SrcP_pl, SrcP_row, SrcP_tab, RP_r1, RP_r2, RP_en2, EnP_l, EnP_row, EnP_tab, LsP_l, LsP_pl, RP_lc, RP_yes, RP_pop, RP_lr, RP_fl, RP_dct1, RP_asL,  SP_nx, SP_seq, SP_drop, SP_ret, SP_set, SP_if, SP_sub, SP_sub2, SP_app, SP_app2, SP_tgt, SP_par, SP_parO, SP_str, SP_uT, SP_uN, SP_uC, SP_uS, SP_subK, SP_for, FP_fn, OP_gT, OP_gC, OP_gE, OP_some, OP_map, OP_add, OP_sub, OP_mul, OP_fdiv, OP_fmod, OP_pow, OP_neg, OP_lt, OP_le, OP_gt, OP_ge, OP_eqi, OP_nei, OP_bits, OP_int, OP_intb, OP_tup, OP_lst, OP_lenl, OP_lent, OP_lenf, OP_abs, OP_max2, OP_min2, OP_gcd, OP_ixl, OP_ixt, OP_ixf, OP_cat, OP_rep, OP_subb, OP_gN, OP_eqs, OP_eq00, OP_ne00, OP_dct1, OP_nepl, OP_eqpl, OP_isLp, OP_pop0, OP_apppl, OP_lenpl, OP_lentab, OP_inpl, OP_ninpl, OP_indk, OP_nindk, OP_setK, BQ_b, BP_t, BP_f, BP_d, BP_n, BP_eq, ↓reduceIte, Option.map_some, is_non_np, is_non_ng, is_non_tp, is_non_tg, is_non_fp, is_non_fg, is_bl_np, is_bl_ng, is_bl_tp, is_bl_tg, is_bl_fp, is_bl_fg, is_int_np, is_int_ng, is_int_tp, is_int_tg, is_int_fp, is_int_fg, is_str_np, is_str_ng, is_str_tp, is_str_tg, is_str_fp, is_str_fg, is_lst_np, is_lst_ng, is_lst_tp, is_lst_tg, is_lst_fp, is_lst_fg, is_tup_np, is_tup_ng, is_tup_tp, is_tup_tg, is_tup_fp, is_tup_fg, isi_non_int, isi_non_bool, isi_non_list, isi_non_tuple, isi_non_str, isi_non_dict, isi_non_lt, isi_bl_int, isi_bl_bool, isi_bl_list, isi_bl_tuple, isi_bl_str, isi_bl_dict, isi_bl_lt, isi_int_int, isi_int_bool, isi_int_list, isi_int_tuple, isi_int_str, isi_int_dict, isi_int_lt, isi_str_int, isi_str_bool, isi_str_list, isi_str_tuple, isi_str_str, isi_str_dict, isi_str_lt, isi_lst_int, isi_lst_bool, isi_lst_list, isi_lst_tuple, isi_lst_str, isi_lst_dict, isi_lst_lt, isi_tup_int, isi_tup_bool, isi_tup_list, isi_tup_tuple, isi_tup_str, isi_tup_dict, isi_tup_lt,  at0, at1, at2, at3, set0, set1, set2, setD_l, fillIO, putIO, ioN, permO, wpE_n, wpE_c, rst_n, rst_c, isFl, List.map_cons, List.map_nil, List.cons_append, List.nil_append, List.append_nil, List.replicate_succ, List.replicate_zero, Nat.reduceSub, Nat.reduceAdd, List.getElem?_cons_zero, List.getElem?_cons_succ, List.getD_cons_zero, List.getD_cons_succ, List.set_cons_zero, List.set_cons_succ, List.length_cons, List.length_nil, List.map_append])
          unfold edg
          (first | exact trivial | (simp; done) | (simp_all; done))
        · refine ⟨?_, ?_⟩
          · rw [List.length_map]
            refine Nat.le_trans (List.length_filter_le _ _) ?_
            have : (nears n (edg T) a k).length ≤ n + 1 := by
              cases k with
              | zero => show 1 ≤ n + 1; omega
              | succ k =>
                have := List.length_filter_le (fun o => decide (o ∈ nears n (edg T) a k) || !((nears n (edg T) a k).filter fun h => edg T h o).isEmpty) (List.range n)
                rw [List.length_range] at this
                exact Nat.le_succ_of_le this
            show _ ≤ 1000000
            omega
          · (try simp only [RP_varm, RP_holem, RP_c, RP_1, RP_2, RP_3, RP_f, RP_nil, RP_cons, RP_if, RP_and, RP_or, RP_not, RP_B, RP_qt, RP_perm, RP_pn, RP_ps, RP_sl, RP_call, RP_src2, SrcP_l, SrcP_t, SrcP_pl, SrcP_row, SrcP_tab, RP_r1, RP_r2, RP_en2, EnP_l, EnP_row, EnP_tab, LsP_l, LsP_pl, RP_lc, RP_yes, RP_pop, RP_lr, RP_fl, RP_dct1, RP_asL,  SP_nx, SP_seq, SP_drop, SP_ret, SP_set, SP_if, SP_sub, SP_sub2, SP_app, SP_app2, SP_tgt, SP_par, SP_parO, SP_str, SP_uT, SP_uN, SP_uC, SP_uS, SP_subK, SP_for, FP_fn, OP_gT, OP_gC, OP_gE, OP_some, OP_map, OP_add, OP_sub, OP_mul, OP_fdiv, OP_fmod, OP_pow, OP_neg, OP_lt, OP_le, OP_gt, OP_ge, OP_eqi, OP_nei, OP_bits, OP_int, OP_intb, OP_tup, OP_lst, OP_lenl, OP_lent, OP_lenf, OP_abs, OP_max2, OP_min2, OP_gcd, OP_ixl, OP_ixt, OP_ixf, OP_cat, OP_rep, OP_subb, OP_gN, OP_eqs, OP_eq00, OP_ne00, OP_dct1, OP_nepl, OP_eqpl, OP_isLp, OP_pop0, OP_apppl, OP_lenpl, OP_lentab, OP_inpl, OP_ninpl, OP_indk, OP_nindk, OP_setK, BQ_b, BP_t, BP_f, BP_d, BP_n, BP_eq, ↓reduceIte, Option.map_some, is_non_np, is_non_ng, is_non_tp, is_non_tg, is_non_fp, is_non_fg, is_bl_np, is_bl_ng, is_bl_tp, is_bl_tg, is_bl_fp, is_bl_fg, is_int_np, is_int_ng, is_int_tp, is_int_tg, is_int_fp, is_int_fg, is_str_np, is_str_ng, is_str_tp, is_str_tg, is_str_fp, is_str_fg, is_lst_np, is_lst_ng, is_lst_tp, is_lst_tg, is_lst_fp, is_lst_fg, is_tup_np, is_tup_ng, is_tup_tp, is_tup_tg, is_tup_fp, is_tup_fg, isi_non_int, isi_non_bool, isi_non_list, isi_non_tuple, isi_non_str, isi_non_dict, isi_non_lt, isi_bl_int, isi_bl_bool, isi_bl_list, isi_bl_tuple, isi_bl_str, isi_bl_dict, isi_bl_lt, isi_int_int, isi_int_bool, isi_int_list, isi_int_tuple, isi_int_str, isi_int_dict, isi_int_lt, isi_str_int, isi_str_bool, isi_str_list, isi_str_tuple, isi_str_str, isi_str_dict, isi_str_lt, isi_lst_int, isi_lst_bool, isi_lst_list, isi_lst_tuple, isi_lst_str, isi_lst_dict, isi_lst_lt, isi_tup_int, isi_tup_bool, isi_tup_list, isi_tup_tuple, isi_tup_str, isi_tup_dict, isi_tup_lt,  at0, at1, at2, at3, set0, set1, set2, setD_l, fillIO, putIO, ioN, permO, wpE_n, wpE_c, rst_n, rst_c, isFl, List.map_cons, List.map_nil, List.cons_append, List.nil_append, List.append_nil, List.replicate_succ, List.replicate_zero, Nat.reduceSub, Nat.reduceAdd, List.getElem?_cons_zero, List.getElem?_cons_succ, List.getD_cons_zero, List.getD_cons_succ, List.set_cons_zero, List.set_cons_succ, List.length_cons, List.length_nil, List.map_append])
            refine ⟨by decide, ?_⟩
            rw [show D.lst (((nears n (edg T) a k).filter fun x => edg T x o).map fun x : Nat => D.int (x : Int)) = plD ((nears n (edg T) a k).filter fun x => edg T x o) from rfl]
            (try simp only [RP_varm, RP_holem, RP_c, RP_1, RP_2, RP_3, RP_f, RP_nil, RP_cons, RP_if, RP_and, RP_or, RP_not, RP_B, RP_qt, RP_perm, RP_pn, RP_ps, RP_sl, RP_call, RP_src2, SrcP_l, SrcP_t, SrcP_pl, SrcP_row, SrcP_tab, RP_r1, RP_r2, RP_en2, EnP_l, EnP_row, EnP_tab, LsP_l, LsP_pl, RP_lc, RP_yes, RP_pop, RP_lr, RP_fl, RP_dct1, RP_asL,  SP_nx, SP_seq, SP_drop, SP_ret, SP_set, SP_if, SP_sub, SP_sub2, SP_app, SP_app2, SP_tgt, SP_par, SP_parO, SP_str, SP_uT, SP_uN, SP_uC, SP_uS, SP_subK, SP_for, FP_fn, OP_gT, OP_gC, OP_gE, OP_some, OP_map, OP_add, OP_sub, OP_mul, OP_fdiv, OP_fmod, OP_pow, OP_neg, OP_lt, OP_le, OP_gt, OP_ge, OP_eqi, OP_nei, OP_bits, OP_int, OP_intb, OP_tup, OP_lst, OP_lenl, OP_lent, OP_lenf, OP_abs, OP_max2, OP_min2, OP_gcd, OP_ixl, OP_ixt, OP_ixf, OP_cat, OP_rep, OP_subb, OP_gN, OP_eqs, OP_eq00, OP_ne00, OP_dct1, OP_nepl, OP_eqpl, OP_isLp, OP_pop0, OP_apppl, OP_lenpl, OP_lentab, OP_inpl, OP_ninpl, OP_indk, OP_nindk, OP_setK, BQ_b, BP_t, BP_f, BP_d, BP_n, BP_eq, ↓reduceIte, Option.map_some, is_non_np, is_non_ng, is_non_tp, is_non_tg, is_non_fp, is_non_fg, is_bl_np, is_bl_ng, is_bl_tp, is_bl_tg, is_bl_fp, is_bl_fg, is_int_np, is_int_ng, is_int_tp, is_int_tg, is_int_fp, is_int_fg, is_str_np, is_str_ng, is_str_tp, is_str_tg, is_str_fp, is_str_fg, is_lst_np, is_lst_ng, is_lst_tp, is_lst_tg, is_lst_fp, is_lst_fg, is_tup_np, is_tup_ng, is_tup_tp, is_tup_tg, is_tup_fp, is_tup_fg, isi_non_int, isi_non_bool, isi_non_list, isi_non_tuple, isi_non_str, isi_non_dict, isi_non_lt, isi_bl_int, isi_bl_bool, isi_bl_list, isi_bl_tuple, isi_bl_str, isi_bl_dict, isi_bl_lt, isi_int_int, isi_int_bool, isi_int_list, isi_int_tuple, isi_int_str, isi_int_dict, isi_int_lt, isi_str_int, isi_str_bool, isi_str_list, isi_str_tuple, isi_str_str, isi_str_dict, isi_str_lt, isi_lst_int, isi_lst_bool, isi_lst_list, isi_lst_tuple, isi_lst_str, isi_lst_dict, isi_lst_lt, isi_tup_int, isi_tup_bool, isi_tup_list, isi_tup_tuple, isi_tup_str, isi_tup_dict, isi_tup_lt,  at0, at1, at2, at3, set0, set1, set2, setD_l, fillIO, putIO, ioN, permO, wpE_n, wpE_c, rst_n, rst_c, isFl, List.map_cons, List.map_nil, List.cons_append, List.nil_append, List.append_nil, List.replicate_succ, List.replicate_zero, Nat.reduceSub, Nat.reduceAdd, List.getElem?_cons_zero, List.getElem?_cons_succ, List.getD_cons_zero, List.getD_cons_succ, List.set_cons_zero, List.set_cons_succ, List.length_cons, List.length_nil, List.map_append])
            (first | exact trivial | (simp; done) | (simp_all; done))
    · refine ⟨?_, _, rfl⟩
      rw [List.length_map]
      refine Nat.le_trans (List.length_filter_le _ _) ?_
      rw [List.length_range]
      show _ ≤ 1000000
      omega
  · rintro e ⟨x3, rfl⟩
    (try simp only [RP_varm, RP_holem, RP_c, RP_1, RP_2, RP_3, RP_f, RP_nil, RP_cons, RP_if, RP_and, RP_or, RP_not, RP_B, RP_qt, RP_perm, RP_pn, RP_ps, RP_sl, RP_call, RP_src2, SrcP_l, SrcP_t, SrcP_pl, SrcP_row, SrcP_tab, RP_r1, RP_r2, RP_en2, EnP_l, EnP_row, EnP_tab, LsP_l, LsP_pl, RP_lc, RP_yes, RP_pop, RP_lr, RP_fl, RP_dct1, RP_asL,  SP_nx, SP_seq, SP_drop, SP_ret, SP_set, SP_if, SP_sub, SP_sub2, SP_app, SP_app2, SP_tgt, SP_par, SP_parO, SP_str, SP_uT, SP_uN, SP_uC, SP_uS, SP_subK, SP_for, FP_fn, OP_gT, OP_gC, OP_gE, OP_some, OP_map, OP_add, OP_sub, OP_mul, OP_fdiv, OP_fmod, OP_pow, OP_neg, OP_lt, OP_le, OP_gt, OP_ge, OP_eqi, OP_nei, OP_bits, OP_int, OP_intb, OP_tup, OP_lst, OP_lenl, OP_lent, OP_lenf, OP_abs, OP_max2, OP_min2, OP_gcd, OP_ixl, OP_ixt, OP_ixf, OP_cat, OP_rep, OP_subb, OP_gN, OP_eqs, OP_eq00, OP_ne00, OP_dct1, OP_nepl, OP_eqpl, OP_isLp, OP_pop0, OP_apppl, OP_lenpl, OP_lentab, OP_inpl, OP_ninpl, OP_indk, OP_nindk, OP_setK, BQ_b, BP_t, BP_f, BP_d, BP_n, BP_eq, ↓reduceIte, Option.map_some, is_non_np, is_non_ng, is_non_tp, is_non_tg, is_non_fp, is_non_fg, is_bl_np, is_bl_ng, is_bl_tp, is_bl_tg, is_bl_fp, is_bl_fg, is_int_np, is_int_ng, is_int_tp, is_int_tg, is_int_fp, is_int_fg, is_str_np, is_str_ng, is_str_tp, is_str_tg, is_str_fp, is_str_fg, is_lst_np, is_lst_ng, is_lst_tp, is_lst_tg, is_lst_fp, is_lst_fg, is_tup_np, is_tup_ng, is_tup_tp, is_tup_tg, is_tup_fp, is_tup_fg, isi_non_int, isi_non_bool, isi_non_list, isi_non_tuple, isi_non_str, isi_non_dict, isi_non_lt, isi_bl_int, isi_bl_bool, isi_bl_list, isi_bl_tuple, isi_bl_str, isi_bl_dict, isi_bl_lt, isi_int_int, isi_int_bool, isi_int_list, isi_int_tuple, isi_int_str, isi_int_dict, isi_int_lt, isi_str_int, isi_str_bool, isi_str_list, isi_str_tuple, isi_str_str, isi_str_dict, isi_str_lt, isi_lst_int, isi_lst_bool, isi_lst_list, isi_lst_tuple, isi_lst_str, isi_lst_dict, isi_lst_lt, isi_tup_int, isi_tup_bool, isi_tup_list, isi_tup_tuple, isi_tup_str, isi_tup_dict, isi_tup_lt,  at0, at1, at2, at3, set0, set1, set2, setD_l, fillIO, putIO, ioN, permO, wpE_n, wpE_c, rst_n, rst_c, isFl, List.map_cons, List.map_nil, List.cons_append, List.nil_append, List.append_nil, List.replicate_succ, List.replicate_zero, Nat.reduceSub, Nat.reduceAdd, List.getElem?_cons_zero, List.getElem?_cons_succ, List.getD_cons_zero, List.getD_cons_succ, List.set_cons_zero, List.set_cons_succ, List.length_cons, List.length_nil, List.map_append])
    exact q _
end
end M3

/-! PDr -/
set_option Elab.async false
set_option linter.all false
set_option maxRecDepth 100000
set_option maxHeartbeats 400000
namespace M3
open PySem PySem.Spec PyProof.Rows L2

/-! ### tables that are drawn -/
theorem GenOk.mono {k k' : Nat} {g : D} (h : GenOk k g) (hk : k ≤ k') : GenOk k' g := by
  obtain ⟨a, b, c, h1, h2, h3, h4, h5, h6, h7⟩ := h
  exact ⟨a, b, c, h1, h2, h3, h4, h5, h6, by omega⟩
structure Drn (n : Nat) (most : Int) (T : List (List Int)) : Prop where
  len : T.length = n
  row : ∀ r ∈ T, r.length = n ∧ ∀ x ∈ r, 0 ≤ x ∧ x ≤ most
  dia : ∀ i, i < n → ent T i i = 0
theorem Drn.tab {n : Nat} {most : Int} {T : List (List Int)} (h : Drn n most T) (h1 : 2 ≤ n) (h2 : n ≤ 16) (h3 : most ≤ 1000) : Tab n T :=
  ⟨h1, h2, h.len, fun r hr => ⟨(h.row r hr).1, fun x hx => ⟨((h.row r hr).2 x hx).1, Int.le_trans ((h.row r hr).2 x hx).2 h3⟩⟩, h.dia⟩
section
variable {n k0 : Nat} {most spare : Int} {g : D} {Q : D → Sl → Prop}
theorem OP_setAt {r : List Int} {i : Nat} {v : Int} {R : List D → Prop} (h : i < r.length) : OP (setAt (r.map D.int) (i : Int) (.int v)) R = R ((r.set i v).map D.int) := by
  rw [set_of (by rw [List.length_map]; exact h), ← List.map_set]
  rfl
theorem OP_isLt {T : List (List Int)} {R : Unit → Prop} : OP (isL (tabD T)) R = R () := rfl
theorem OP_apptab {T : List (List Int)} {r : List Int} {R : D → Prop} : OP (appD (.lst (r.map D.int)) (some (some (tabD T)))) R = (T.length < lim ∧ R (tabD (T ++ [r]))) := by
  show OP (if (T.map rowD).length < lim then some (D.lst (T.map rowD ++ [rowD r])) else none) R = _
  rw [OP_ite, List.length_map]
  unfold tabD
  rw [List.map_append]
  rfl
theorem ent_app {T : List (List Int)} {r : List Int} {i j : Nat} (h : i < T.length) : ent (T ++ [r]) i j = ent T i j := by unfold ent; rw [getD_app_lt h]
theorem ent_new {T : List (List Int)} {r : List Int} {j : Nat} : ent (T ++ [r]) T.length j = r.getD j 0 := by unfold ent; rw [getD_app_eq]
theorem set_self {r : List Int} {i : Nat} {v : Int} (h : i < r.length) : (r.set i v).getD i 0 = v := by
  rw [List.getD_eq_getElem?_getD, List.getElem?_set_self h]; rfl
theorem set_rng {r : List Int} {i : Nat} (h0 : 0 ≤ most) (h : ∀ x ∈ r, 0 ≤ x ∧ x ≤ most) : ∀ x ∈ r.set i 0, 0 ≤ x ∧ x ≤ most := by
  intro x hx
  rcases List.mem_or_eq_of_mem_set hx with hx | hx
  · exact h x hx
  · subst hx; exact ⟨Int.le_refl _, h0⟩
theorem sp_drawn (hg : GenOk k0 g) (hk : k0 + 2 * n * n ≤ 1000000000) (hn : n ≤ 1000) (hm : 0 ≤ most ∧ most ≤ 1000) (hs : 1 ≤ spare ∧ spare ≤ 1000)
    (q : ∀ T g' e, Drn n most T → GenOk (k0 + 2 * n * n) g' → e[0]? = some (some g') → Q (tabD T) e) : FP (m_law_drawn_table [g, .int (n : Int), .int most, .int spare]) Q := by
  unfold m_law_drawn_table b_law_drawn_table
  (try simp only [RP_varm, RP_holem, RP_c, RP_1, RP_2, RP_3, RP_f, RP_nil, RP_cons, RP_if, RP_and, RP_or, RP_not, RP_B, RP_qt, RP_perm, RP_pn, RP_ps, RP_sl, RP_call, RP_src2, SrcP_l, SrcP_t, SrcP_pl, SrcP_row, SrcP_tab, RP_r1, RP_r2, RP_en2, EnP_l, EnP_row, EnP_tab, LsP_l, LsP_pl, RP_lc, RP_yes, RP_pop, RP_lr, RP_fl, RP_dct1, RP_asL,  SP_nx, SP_seq, SP_drop, SP_ret, SP_set, SP_if, SP_sub, SP_sub2, SP_app, SP_app2, SP_tgt, SP_par, SP_parO, SP_str, SP_uT, SP_uN, SP_uC, SP_uS, SP_subK, SP_for, FP_fn, OP_gT, OP_gC, OP_gE, OP_some, OP_map, OP_add, OP_sub, OP_mul, OP_fdiv, OP_fmod, OP_pow, OP_neg, OP_lt, OP_le, OP_gt, OP_ge, OP_eqi, OP_nei, OP_bits, OP_int, OP_intb, OP_tup, OP_lst, OP_lenl, OP_lent, OP_lenf, OP_abs, OP_max2, OP_min2, OP_gcd, OP_ixl, OP_ixt, OP_ixf, OP_cat, OP_rep, OP_subb, OP_gN, OP_eqs, OP_eq00, OP_ne00, OP_dct1, OP_nepl, OP_eqpl, OP_isLp, OP_pop0, OP_apppl, OP_lenpl, OP_lentab, OP_inpl, OP_ninpl, OP_indk, OP_nindk, OP_setK, BQ_b, BP_t, BP_f, BP_d, BP_n, BP_eq, ↓reduceIte, Option.map_some, is_non_np, is_non_ng, is_non_tp, is_non_tg, is_non_fp, is_non_fg, is_bl_np, is_bl_ng, is_bl_tp, is_bl_tg, is_bl_fp, is_bl_fg, is_int_np, is_int_ng, is_int_tp, is_int_tg, is_int_fp, is_int_fg, is_str_np, is_str_ng, is_str_tp, is_str_tg, is_str_fp, is_str_fg, is_lst_np, is_lst_ng, is_lst_tp, is_lst_tg, is_lst_fp, is_lst_fg, is_tup_np, is_tup_ng, is_tup_tp, is_tup_tg, is_tup_fp, is_tup_fg, isi_non_int, isi_non_bool, isi_non_list, isi_non_tuple, isi_non_str, isi_non_dict, isi_non_lt, isi_bl_int, isi_bl_bool, isi_bl_list, isi_bl_tuple, isi_bl_str, isi_bl_dict, isi_bl_lt, isi_int_int, isi_int_bool, isi_int_list, isi_int_tuple, isi_int_str, isi_int_dict, isi_int_lt, isi_str_int, isi_str_bool, isi_str_list, isi_str_tuple, isi_str_str, isi_str_dict, isi_str_lt, isi_lst_int, isi_lst_bool, isi_lst_list, isi_lst_tuple, isi_lst_str, isi_lst_dict, isi_lst_lt, isi_tup_int, isi_tup_bool, isi_tup_list, isi_tup_tuple, isi_tup_str, isi_tup_dict, isi_tup_lt,  at0, at1, at2, at3, set0, set1, set2, setD_l, fillIO, putIO, ioN, permO, wpE_n, wpE_c, rst_n, rst_c, isFl, List.map_cons, List.map_nil, List.cons_append, List.nil_append, List.append_nil, List.replicate_succ, List.replicate_zero, Nat.reduceSub, Nat.reduceAdd, List.getElem?_cons_zero, List.getElem?_cons_succ, List.getD_cons_zero, List.getD_cons_succ, List.set_cons_zero, List.set_cons_succ, List.length_cons, List.length_nil, List.map_append])
  rw [Int.toNat_natCast]
  have bm : Bd 3000 (most + 1) := by unfold Bd; exact Nat.lt_of_le_of_lt (show (most + 1).natAbs ≤ 2000 by omega) (Nat.lt_of_lt_of_le (by decide : 2000 < 2 ^ 11) (Nat.pow_le_pow_right (by decide) (by decide)))
  have bs : Bd 3000 spare := by unfold Bd; exact Nat.lt_of_le_of_lt (show spare.natAbs ≤ 2000 by omega) (Nat.lt_of_lt_of_le (by decide : 2000 < 2 ^ 11) (Nat.pow_le_pow_right (by decide) (by decide)))
  refine ⟨by decide, rOk_n (by omega), ?_⟩
  refine SP_forR (fun i e => i ≤ n ∧ ∃ g' T x5 x6, GenOk (k0 + 2 * n * i) g' ∧ T.length = i ∧ (∀ r ∈ T, r.length = n ∧ ∀ x ∈ r, 0 ≤ x ∧ x ≤ most) ∧ (∀ j, j < i → ent T j j = 0) ∧ e = [some g', some (.int n), some (.int most), some (.int spare), some (tabD T), x5, x6, none])
    ⟨Nat.zero_le _, g, [], none, none, hg.mono (by omega), rfl, fun r hr => (by cases hr), fun j hj => absurd hj (by omega), rfl⟩ ?_ ?_
  · rintro i hi e ⟨_, g1, T, x5, x6, hg1, hT, hrow, hdia, rfl⟩
    have hK : k0 + 2 * n * i + 2 * n ≤ k0 + 2 * n * n := by
      have : 2 * n * (i + 1) ≤ 2 * n * n := Nat.mul_le_mul_left _ hi
      rw [Nat.mul_succ] at this
      omega
    (try simp only [RP_varm, RP_holem, RP_c, RP_1, RP_2, RP_3, RP_f, RP_nil, RP_cons, RP_if, RP_and, RP_or, RP_not, RP_B, RP_qt, RP_perm, RP_pn, RP_ps, RP_sl, RP_call, RP_src2, SrcP_l, SrcP_t, SrcP_pl, SrcP_row, SrcP_tab, RP_r1, RP_r2, RP_en2, EnP_l, EnP_row, EnP_tab, LsP_l, LsP_pl, RP_lc, RP_yes, RP_pop, RP_lr, RP_fl, RP_dct1, RP_asL,  SP_nx, SP_seq, SP_drop, SP_ret, SP_set, SP_if, SP_sub, SP_sub2, SP_app, SP_app2, SP_tgt, SP_par, SP_parO, SP_str, SP_uT, SP_uN, SP_uC, SP_uS, SP_subK, SP_for, FP_fn, OP_gT, OP_gC, OP_gE, OP_some, OP_map, OP_add, OP_sub, OP_mul, OP_fdiv, OP_fmod, OP_pow, OP_neg, OP_lt, OP_le, OP_gt, OP_ge, OP_eqi, OP_nei, OP_bits, OP_int, OP_intb, OP_tup, OP_lst, OP_lenl, OP_lent, OP_lenf, OP_abs, OP_max2, OP_min2, OP_gcd, OP_ixl, OP_ixt, OP_ixf, OP_cat, OP_rep, OP_subb, OP_gN, OP_eqs, OP_eq00, OP_ne00, OP_dct1, OP_nepl, OP_eqpl, OP_isLp, OP_pop0, OP_apppl, OP_lenpl, OP_lentab, OP_inpl, OP_ninpl, OP_indk, OP_nindk, OP_setK, BQ_b, BP_t, BP_f, BP_d, BP_n, BP_eq, ↓reduceIte, Option.map_some, is_non_np, is_non_ng, is_non_tp, is_non_tg, is_non_fp, is_non_fg, is_bl_np, is_bl_ng, is_bl_tp, is_bl_tg, is_bl_fp, is_bl_fg, is_int_np, is_int_ng, is_int_tp, is_int_tg, is_int_fp, is_int_fg, is_str_np, is_str_ng, is_str_tp, is_str_tg, is_str_fp, is_str_fg, is_lst_np, is_lst_ng, is_lst_tp, is_lst_tg, is_lst_fp, is_lst_fg, is_tup_np, is_tup_ng, is_tup_tp, is_tup_tg, is_tup_fp, is_tup_fg, isi_non_int, isi_non_bool, isi_non_list, isi_non_tuple, isi_non_str, isi_non_dict, isi_non_lt, isi_bl_int, isi_bl_bool, isi_bl_list, isi_bl_tuple, isi_bl_str, isi_bl_dict, isi_bl_lt, isi_int_int, isi_int_bool, isi_int_list, isi_int_tuple, isi_int_str, isi_int_dict, isi_int_lt, isi_str_int, isi_str_bool, isi_str_list, isi_str_tuple, isi_str_str, isi_str_dict, isi_str_lt, isi_lst_int, isi_lst_bool, isi_lst_list, isi_lst_tuple, isi_lst_str, isi_lst_dict, isi_lst_lt, isi_tup_int, isi_tup_bool, isi_tup_list, isi_tup_tuple, isi_tup_str, isi_tup_dict, isi_tup_lt,  at0, at1, at2, at3, set0, set1, set2, setD_l, fillIO, putIO, ioN, permO, wpE_n, wpE_c, rst_n, rst_c, isFl, List.map_cons, List.map_nil, List.cons_append, List.nil_append, List.append_nil, List.replicate_succ, List.replicate_zero, Nat.reduceSub, Nat.reduceAdd, List.getElem?_cons_zero, List.getElem?_cons_succ, List.getD_cons_zero, List.getD_cons_succ, List.set_cons_zero, List.set_cons_succ, List.length_cons, List.length_nil, List.map_append])
    rw [Int.toNat_natCast]
    refine ⟨rOk_n (by omega), ?_⟩
    refine RP_lcI (fun j acc e => j ≤ n ∧ ∃ g' r, GenOk (k0 + 2 * n * i + 2 * j) g' ∧ acc = r.map D.int ∧ r.length = j ∧ (∀ x ∈ r, 0 ≤ x ∧ x ≤ most) ∧ e = [some g', some (.int n), some (.int most), some (.int spare), some (tabD T), some (.int (i : Int)), x6, none])
      ⟨Nat.zero_le _, g1, [], hg1.mono (by omega), rfl, rfl, fun x hx => (by cases hx), rfl⟩ ?_ ?_
    · rintro j hj acc e ⟨_, g2, r, hg2, rfl, hr, hx, rfl⟩
      have hj' : j < n := by simpa [rngD] using hj
      rw [OP_gN]
      (try simp only [RP_varm, RP_holem, RP_c, RP_1, RP_2, RP_3, RP_f, RP_nil, RP_cons, RP_if, RP_and, RP_or, RP_not, RP_B, RP_qt, RP_perm, RP_pn, RP_ps, RP_sl, RP_call, RP_src2, SrcP_l, SrcP_t, SrcP_pl, SrcP_row, SrcP_tab, RP_r1, RP_r2, RP_en2, EnP_l, EnP_row, EnP_tab, LsP_l, LsP_pl, RP_lc, RP_yes, RP_pop, RP_lr, RP_fl, RP_dct1, RP_asL,  SP_nx, SP_seq, SP_drop, SP_ret, SP_set, SP_if, SP_sub, SP_sub2, SP_app, SP_app2, SP_tgt, SP_par, SP_parO, SP_str, SP_uT, SP_uN, SP_uC, SP_uS, SP_subK, SP_for, FP_fn, OP_gT, OP_gC, OP_gE, OP_some, OP_map, OP_add, OP_sub, OP_mul, OP_fdiv, OP_fmod, OP_pow, OP_neg, OP_lt, OP_le, OP_gt, OP_ge, OP_eqi, OP_nei, OP_bits, OP_int, OP_intb, OP_tup, OP_lst, OP_lenl, OP_lent, OP_lenf, OP_abs, OP_max2, OP_min2, OP_gcd, OP_ixl, OP_ixt, OP_ixf, OP_cat, OP_rep, OP_subb, OP_gN, OP_eqs, OP_eq00, OP_ne00, OP_dct1, OP_nepl, OP_eqpl, OP_isLp, OP_pop0, OP_apppl, OP_lenpl, OP_lentab, OP_inpl, OP_ninpl, OP_indk, OP_nindk, OP_setK, BQ_b, BP_t, BP_f, BP_d, BP_n, BP_eq, ↓reduceIte, Option.map_some, is_non_np, is_non_ng, is_non_tp, is_non_tg, is_non_fp, is_non_fg, is_bl_np, is_bl_ng, is_bl_tp, is_bl_tg, is_bl_fp, is_bl_fg, is_int_np, is_int_ng, is_int_tp, is_int_tg, is_int_fp, is_int_fg, is_str_np, is_str_ng, is_str_tp, is_str_tg, is_str_fp, is_str_fg, is_lst_np, is_lst_ng, is_lst_tp, is_lst_tg, is_lst_fp, is_lst_fg, is_tup_np, is_tup_ng, is_tup_tp, is_tup_tg, is_tup_fp, is_tup_fg, isi_non_int, isi_non_bool, isi_non_list, isi_non_tuple, isi_non_str, isi_non_dict, isi_non_lt, isi_bl_int, isi_bl_bool, isi_bl_list, isi_bl_tuple, isi_bl_str, isi_bl_dict, isi_bl_lt, isi_int_int, isi_int_bool, isi_int_list, isi_int_tuple, isi_int_str, isi_int_dict, isi_int_lt, isi_str_int, isi_str_bool, isi_str_list, isi_str_tuple, isi_str_str, isi_str_dict, isi_str_lt, isi_lst_int, isi_lst_bool, isi_lst_list, isi_lst_tuple, isi_lst_str, isi_lst_dict, isi_lst_lt, isi_tup_int, isi_tup_bool, isi_tup_list, isi_tup_tuple, isi_tup_str, isi_tup_dict, isi_tup_lt,  at0, at1, at2, at3, set0, set1, set2, setD_l, fillIO, putIO, ioN, permO, wpE_n, wpE_c, rst_n, rst_c, isFl, List.map_cons, List.map_nil, List.cons_append, List.nil_append, List.append_nil, List.replicate_succ, List.replicate_zero, Nat.reduceSub, Nat.reduceAdd, List.getElem?_cons_zero, List.getElem?_cons_succ, List.getD_cons_zero, List.getD_cons_succ, List.set_cons_zero, List.set_cons_succ, List.length_cons, List.length_nil, List.map_append])
      refine sp_random hg2 (by omega) (by omega) bs fun v g3 e v0 v1 hg3 he => ?_
      simp only [he]
      (try simp only [RP_varm, RP_holem, RP_c, RP_1, RP_2, RP_3, RP_f, RP_nil, RP_cons, RP_if, RP_and, RP_or, RP_not, RP_B, RP_qt, RP_perm, RP_pn, RP_ps, RP_sl, RP_call, RP_src2, SrcP_l, SrcP_t, SrcP_pl, SrcP_row, SrcP_tab, RP_r1, RP_r2, RP_en2, EnP_l, EnP_row, EnP_tab, LsP_l, LsP_pl, RP_lc, RP_yes, RP_pop, RP_lr, RP_fl, RP_dct1, RP_asL,  SP_nx, SP_seq, SP_drop, SP_ret, SP_set, SP_if, SP_sub, SP_sub2, SP_app, SP_app2, SP_tgt, SP_par, SP_parO, SP_str, SP_uT, SP_uN, SP_uC, SP_uS, SP_subK, SP_for, FP_fn, OP_gT, OP_gC, OP_gE, OP_some, OP_map, OP_add, OP_sub, OP_mul, OP_fdiv, OP_fmod, OP_pow, OP_neg, OP_lt, OP_le, OP_gt, OP_ge, OP_eqi, OP_nei, OP_bits, OP_int, OP_intb, OP_tup, OP_lst, OP_lenl, OP_lent, OP_lenf, OP_abs, OP_max2, OP_min2, OP_gcd, OP_ixl, OP_ixt, OP_ixf, OP_cat, OP_rep, OP_subb, OP_gN, OP_eqs, OP_eq00, OP_ne00, OP_dct1, OP_nepl, OP_eqpl, OP_isLp, OP_pop0, OP_apppl, OP_lenpl, OP_lentab, OP_inpl, OP_ninpl, OP_indk, OP_nindk, OP_setK, BQ_b, BP_t, BP_f, BP_d, BP_n, BP_eq, ↓reduceIte, Option.map_some, is_non_np, is_non_ng, is_non_tp, is_non_tg, is_non_fp, is_non_fg, is_bl_np, is_bl_ng, is_bl_tp, is_bl_tg, is_bl_fp, is_bl_fg, is_int_np, is_int_ng, is_int_tp, is_int_tg, is_int_fp, is_int_fg, is_str_np, is_str_ng, is_str_tp, is_str_tg, is_str_fp, is_str_fg, is_lst_np, is_lst_ng, is_lst_tp, is_lst_tg, is_lst_fp, is_lst_fg, is_tup_np, is_tup_ng, is_tup_tp, is_tup_tg, is_tup_fp, is_tup_fg, isi_non_int, isi_non_bool, isi_non_list, isi_non_tuple, isi_non_str, isi_non_dict, isi_non_lt, isi_bl_int, isi_bl_bool, isi_bl_list, isi_bl_tuple, isi_bl_str, isi_bl_dict, isi_bl_lt, isi_int_int, isi_int_bool, isi_int_list, isi_int_tuple, isi_int_str, isi_int_dict, isi_int_lt, isi_str_int, isi_str_bool, isi_str_list, isi_str_tuple, isi_str_str, isi_str_dict, isi_str_lt, isi_lst_int, isi_lst_bool, isi_lst_list, isi_lst_tuple, isi_lst_str, isi_lst_dict, isi_lst_lt, isi_tup_int, isi_tup_bool, isi_tup_list, isi_tup_tuple, isi_tup_str, isi_tup_dict, isi_tup_lt,  at0, at1, at2, at3, set0, set1, set2, setD_l, fillIO, putIO, ioN, permO, wpE_n, wpE_c, rst_n, rst_c, isFl, List.map_cons, List.map_nil, List.cons_append, List.nil_append, List.append_nil, List.replicate_succ, List.replicate_zero, Nat.reduceSub, Nat.reduceAdd, List.getElem?_cons_zero, List.getElem?_cons_succ, List.getD_cons_zero, List.getD_cons_succ, List.set_cons_zero, List.set_cons_succ, List.length_cons, List.length_nil, List.map_append])
      clear he e
      refine ⟨fun _ => ?_, fun _ => ?_⟩
      · refine sp_random hg3 (by omega) (by omega) bm fun w g4 e w0 w1 hg4 he => ?_
        simp only [he]
        (try simp only [RP_varm, RP_holem, RP_c, RP_1, RP_2, RP_3, RP_f, RP_nil, RP_cons, RP_if, RP_and, RP_or, RP_not, RP_B, RP_qt, RP_perm, RP_pn, RP_ps, RP_sl, RP_call, RP_src2, SrcP_l, SrcP_t, SrcP_pl, SrcP_row, SrcP_tab, RP_r1, RP_r2, RP_en2, EnP_l, EnP_row, EnP_tab, LsP_l, LsP_pl, RP_lc, RP_yes, RP_pop, RP_lr, RP_fl, RP_dct1, RP_asL,  SP_nx, SP_seq, SP_drop, SP_ret, SP_set, SP_if, SP_sub, SP_sub2, SP_app, SP_app2, SP_tgt, SP_par, SP_parO, SP_str, SP_uT, SP_uN, SP_uC, SP_uS, SP_subK, SP_for, FP_fn, OP_gT, OP_gC, OP_gE, OP_some, OP_map, OP_add, OP_sub, OP_mul, OP_fdiv, OP_fmod, OP_pow, OP_neg, OP_lt, OP_le, OP_gt, OP_ge, OP_eqi, OP_nei, OP_bits, OP_int, OP_intb, OP_tup, OP_lst, OP_lenl, OP_lent, OP_lenf, OP_abs, OP_max2, OP_min2, OP_gcd, OP_ixl, OP_ixt, OP_ixf, OP_cat, OP_rep, OP_subb, OP_gN, OP_eqs, OP_eq00, OP_ne00, OP_dct1, OP_nepl, OP_eqpl, OP_isLp, OP_pop0, OP_apppl, OP_lenpl, OP_lentab, OP_inpl, OP_ninpl, OP_indk, OP_nindk, OP_setK, BQ_b, BP_t, BP_f, BP_d, BP_n, BP_eq, ↓reduceIte, Option.map_some, is_non_np, is_non_ng, is_non_tp, is_non_tg, is_non_fp, is_non_fg, is_bl_np, is_bl_ng, is_bl_tp, is_bl_tg, is_bl_fp, is_bl_fg, is_int_np, is_int_ng, is_int_tp, is_int_tg, is_int_fp, is_int_fg, is_str_np, is_str_ng, is_str_tp, is_str_tg, is_str_fp, is_str_fg, is_lst_np, is_lst_ng, is_lst_tp, is_lst_tg, is_lst_fp, is_lst_fg, is_tup_np, is_tup_ng, is_tup_tp, is_tup_tg, is_tup_fp, is_tup_fg, isi_non_int, isi_non_bool, isi_non_list, isi_non_tuple, isi_non_str, isi_non_dict, isi_non_lt, isi_bl_int, isi_bl_bool, isi_bl_list, isi_bl_tuple, isi_bl_str, isi_bl_dict, isi_bl_lt, isi_int_int, isi_int_bool, isi_int_list, isi_int_tuple, isi_int_str, isi_int_dict, isi_int_lt, isi_str_int, isi_str_bool, isi_str_list, isi_str_tuple, isi_str_str, isi_str_dict, isi_str_lt, isi_lst_int, isi_lst_bool, isi_lst_list, isi_lst_tuple, isi_lst_str, isi_lst_dict, isi_lst_lt, isi_tup_int, isi_tup_bool, isi_tup_list, isi_tup_tuple, isi_tup_str, isi_tup_dict, isi_tup_lt,  at0, at1, at2, at3, set0, set1, set2, setD_l, fillIO, putIO, ioN, permO, wpE_n, wpE_c, rst_n, rst_c, isFl, List.map_cons, List.map_nil, List.cons_append, List.nil_append, List.append_nil, List.replicate_succ, List.replicate_zero, Nat.reduceSub, Nat.reduceAdd, List.getElem?_cons_zero, List.getElem?_cons_succ, List.getD_cons_zero, List.getD_cons_succ, List.set_cons_zero, List.set_cons_succ, List.length_cons, List.length_nil, List.map_append])
        refine ⟨hj', g4, r ++ [w], hg4.mono (by omega), by rw [List.map_append]; rfl, by rw [List.length_append, hr]; rfl, fun x hm => ?_, rfl⟩
        rcases List.mem_append.mp hm with hm | hm
        · exact hx x hm
        · have : x = w := by simpa using hm
          omega
      · refine ⟨hj', g3, r ++ [0], hg3.mono (by omega), by rw [List.map_append]; rfl, by rw [List.length_append, hr]; rfl, fun x hm' => ?_, rfl⟩
        rcases List.mem_append.mp hm' with hm' | hm'
        · exact hx x hm'
        · have : x = 0 := by simpa using hm'
          omega
    · rintro acc e ⟨_, g2, r, hg2, rfl, hr, hx, rfl⟩
      have hr : r.length = n := by rw [hr]; simp [rngD]
      have hn' : (rngD 0 n).length = n := by simp [rngD]
      rw [hn'] at hg2
      (try simp only [RP_varm, RP_holem, RP_c, RP_1, RP_2, RP_3, RP_f, RP_nil, RP_cons, RP_if, RP_and, RP_or, RP_not, RP_B, RP_qt, RP_perm, RP_pn, RP_ps, RP_sl, RP_call, RP_src2, SrcP_l, SrcP_t, SrcP_pl, SrcP_row, SrcP_tab, RP_r1, RP_r2, RP_en2, EnP_l, EnP_row, EnP_tab, LsP_l, LsP_pl, RP_lc, RP_yes, RP_pop, RP_lr, RP_fl, RP_dct1, RP_asL,  SP_nx, SP_seq, SP_drop, SP_ret, SP_set, SP_if, SP_sub, SP_sub2, SP_app, SP_app2, SP_tgt, SP_par, SP_parO, SP_str, SP_uT, SP_uN, SP_uC, SP_uS, SP_subK, SP_for, FP_fn, OP_gT, OP_gC, OP_gE, OP_some, OP_map, OP_add, OP_sub, OP_mul, OP_fdiv, OP_fmod, OP_pow, OP_neg, OP_lt, OP_le, OP_gt, OP_ge, OP_eqi, OP_nei, OP_bits, OP_int, OP_intb, OP_tup, OP_lst, OP_lenl, OP_lent, OP_lenf, OP_abs, OP_max2, OP_min2, OP_gcd, OP_ixl, OP_ixt, OP_ixf, OP_cat, OP_rep, OP_subb, OP_gN, OP_eqs, OP_eq00, OP_ne00, OP_dct1, OP_nepl, OP_eqpl, OP_isLp, OP_pop0, OP_apppl, OP_lenpl, OP_lentab, OP_inpl, OP_ninpl, OP_indk, OP_nindk, OP_setK, BQ_b, BP_t, BP_f, BP_d, BP_n, BP_eq, ↓reduceIte, Option.map_some, is_non_np, is_non_ng, is_non_tp, is_non_tg, is_non_fp, is_non_fg, is_bl_np, is_bl_ng, is_bl_tp, is_bl_tg, is_bl_fp, is_bl_fg, is_int_np, is_int_ng, is_int_tp, is_int_tg, is_int_fp, is_int_fg, is_str_np, is_str_ng, is_str_tp, is_str_tg, is_str_fp, is_str_fg, is_lst_np, is_lst_ng, is_lst_tp, is_lst_tg, is_lst_fp, is_lst_fg, is_tup_np, is_tup_ng, is_tup_tp, is_tup_tg, is_tup_fp, is_tup_fg, isi_non_int, isi_non_bool, isi_non_list, isi_non_tuple, isi_non_str, isi_non_dict, isi_non_lt, isi_bl_int, isi_bl_bool, isi_bl_list, isi_bl_tuple, isi_bl_str, isi_bl_dict, isi_bl_lt, isi_int_int, isi_int_bool, isi_int_list, isi_int_tuple, isi_int_str, isi_int_dict, isi_int_lt, isi_str_int, isi_str_bool, isi_str_list, isi_str_tuple, isi_str_str, isi_str_dict, isi_str_lt, isi_lst_int, isi_lst_bool, isi_lst_list, isi_lst_tuple, isi_lst_str, isi_lst_dict, isi_lst_lt, isi_tup_int, isi_tup_bool, isi_tup_list, isi_tup_tuple, isi_tup_str, isi_tup_dict, isi_tup_lt,  at0, at1, at2, at3, set0, set1, set2, setD_l, fillIO, putIO, ioN, permO, wpE_n, wpE_c, rst_n, rst_c, isFl, List.map_cons, List.map_nil, List.cons_append, List.nil_append, List.append_nil, List.replicate_succ, List.replicate_zero, Nat.reduceSub, Nat.reduceAdd, List.getElem?_cons_zero, List.getElem?_cons_succ, List.getD_cons_zero, List.getD_cons_succ, List.set_cons_zero, List.set_cons_succ, List.length_cons, List.length_nil, List.map_append])
      refine ⟨by rw [List.length_map, hr]; show _ ≤ 1000000; omega, ?_⟩
      rw [OP_setAt (by omega), OP_isLt, OP_apptab]
      refine ⟨by rw [hT]; show _ < 1000000; omega, hi, g2, T ++ [r.set i 0], _, _, hg2.mono (by rw [Nat.mul_succ]; omega), by rw [List.length_append, hT]; rfl, fun r' hr' => ?_, fun j hj => ?_, rfl⟩
      · rcases List.mem_append.mp hr' with hr' | hr'
        · exact hrow r' hr'
        · have : r' = r.set i 0 := by simpa using hr'
          subst this
          exact ⟨by rw [List.length_set]; exact hr, set_rng hm.1 hx⟩
      · by_cases hji : j < i
        · rw [ent_app (by omega)]
          exact hdia j hji
        · have : j = T.length := by omega
          subst this
          rw [ent_new, hT, set_self (by omega)]
  · rintro e ⟨_, g1, T, x5, x6, hg1, hT, hrow, hdia, rfl⟩
    (try simp only [RP_varm, RP_holem, RP_c, RP_1, RP_2, RP_3, RP_f, RP_nil, RP_cons, RP_if, RP_and, RP_or, RP_not, RP_B, RP_qt, RP_perm, RP_pn, RP_ps, RP_sl, RP_call, RP_src2, SrcP_l, SrcP_t, SrcP_pl, SrcP_row, SrcP_tab, RP_r1, RP_r2, RP_en2, EnP_l, EnP_row, EnP_tab, LsP_l, LsP_pl, RP_lc, RP_yes, RP_pop, RP_lr, RP_fl, RP_dct1, RP_asL,  SP_nx, SP_seq, SP_drop, SP_ret, SP_set, SP_if, SP_sub, SP_sub2, SP_app, SP_app2, SP_tgt, SP_par, SP_parO, SP_str, SP_uT, SP_uN, SP_uC, SP_uS, SP_subK, SP_for, FP_fn, OP_gT, OP_gC, OP_gE, OP_some, OP_map, OP_add, OP_sub, OP_mul, OP_fdiv, OP_fmod, OP_pow, OP_neg, OP_lt, OP_le, OP_gt, OP_ge, OP_eqi, OP_nei, OP_bits, OP_int, OP_intb, OP_tup, OP_lst, OP_lenl, OP_lent, OP_lenf, OP_abs, OP_max2, OP_min2, OP_gcd, OP_ixl, OP_ixt, OP_ixf, OP_cat, OP_rep, OP_subb, OP_gN, OP_eqs, OP_eq00, OP_ne00, OP_dct1, OP_nepl, OP_eqpl, OP_isLp, OP_pop0, OP_apppl, OP_lenpl, OP_lentab, OP_inpl, OP_ninpl, OP_indk, OP_nindk, OP_setK, BQ_b, BP_t, BP_f, BP_d, BP_n, BP_eq, ↓reduceIte, Option.map_some, is_non_np, is_non_ng, is_non_tp, is_non_tg, is_non_fp, is_non_fg, is_bl_np, is_bl_ng, is_bl_tp, is_bl_tg, is_bl_fp, is_bl_fg, is_int_np, is_int_ng, is_int_tp, is_int_tg, is_int_fp, is_int_fg, is_str_np, is_str_ng, is_str_tp, is_str_tg, is_str_fp, is_str_fg, is_lst_np, is_lst_ng, is_lst_tp, is_lst_tg, is_lst_fp, is_lst_fg, is_tup_np, is_tup_ng, is_tup_tp, is_tup_tg, is_tup_fp, is_tup_fg, isi_non_int, isi_non_bool, isi_non_list, isi_non_tuple, isi_non_str, isi_non_dict, isi_non_lt, isi_bl_int, isi_bl_bool, isi_bl_list, isi_bl_tuple, isi_bl_str, isi_bl_dict, isi_bl_lt, isi_int_int, isi_int_bool, isi_int_list, isi_int_tuple, isi_int_str, isi_int_dict, isi_int_lt, isi_str_int, isi_str_bool, isi_str_list, isi_str_tuple, isi_str_str, isi_str_dict, isi_str_lt, isi_lst_int, isi_lst_bool, isi_lst_list, isi_lst_tuple, isi_lst_str, isi_lst_dict, isi_lst_lt, isi_tup_int, isi_tup_bool, isi_tup_list, isi_tup_tuple, isi_tup_str, isi_tup_dict, isi_tup_lt,  at0, at1, at2, at3, set0, set1, set2, setD_l, fillIO, putIO, ioN, permO, wpE_n, wpE_c, rst_n, rst_c, isFl, List.map_cons, List.map_nil, List.cons_append, List.nil_append, List.append_nil, List.replicate_succ, List.replicate_zero, Nat.reduceSub, Nat.reduceAdd, List.getElem?_cons_zero, List.getElem?_cons_succ, List.getD_cons_zero, List.getD_cons_succ, List.set_cons_zero, List.set_cons_succ, List.length_cons, List.length_nil, List.map_append])
    exact q T g1 _ ⟨hT, hrow, hdia⟩ hg1 rfl
end
end M3

/-! K43 -/
set_option Elab.async false
set_option linter.all false
set_option maxRecDepth 100000
set_option maxHeartbeats 400000
namespace M3
open PySem PySem.Spec PyProof.Rows L2

/-! ### k43 -/
def wrd (d u : Bool) : D := .str (PySem.Str.ofString (if d then (if u then "same" else "above") else if u then "below" else "apart"))
def cutT (T : List (List Int)) (l : List Nat) : List (List Int) := l.map fun i => l.map fun j => ent T i j
section
variable {n : Nat} {T : List (List Int)} {Q : D → Sl → Prop}
theorem sp_word {a b : Nat} (h : Sq n T) (ha : a < n) (hb : b < n) (hn : n ≤ 1000) (q : ∀ e, Q (wrd (decide (b ∈ comes n (edg T) a)) (decide (a ∈ comes n (edg T) b))) e) : FP (m_law_word [tabD T, .int (a : Int), .int (b : Int)]) Q := by
  unfold m_law_word b_law_word
  (try simp only [RP_varm, RP_holem, RP_c, RP_1, RP_2, RP_3, RP_f, RP_nil, RP_cons, RP_if, RP_and, RP_or, RP_not, RP_B, RP_qt, RP_perm, RP_pn, RP_ps, RP_sl, RP_call, RP_src2, SrcP_l, SrcP_t, SrcP_pl, SrcP_row, SrcP_tab, RP_r1, RP_r2, RP_en2, EnP_l, EnP_row, EnP_tab, LsP_l, LsP_pl, RP_lc, RP_yes, RP_pop, RP_lr, RP_fl, RP_dct1, RP_asL,  SP_nx, SP_seq, SP_drop, SP_ret, SP_set, SP_if, SP_sub, SP_sub2, SP_app, SP_app2, SP_tgt, SP_par, SP_parO, SP_str, SP_uT, SP_uN, SP_uC, SP_uS, SP_subK, SP_for, FP_fn, OP_gT, OP_gC, OP_gE, OP_some, OP_map, OP_add, OP_sub, OP_mul, OP_fdiv, OP_fmod, OP_pow, OP_neg, OP_lt, OP_le, OP_gt, OP_ge, OP_eqi, OP_nei, OP_bits, OP_int, OP_intb, OP_tup, OP_lst, OP_lenl, OP_lent, OP_lenf, OP_abs, OP_max2, OP_min2, OP_gcd, OP_ixl, OP_ixt, OP_ixf, OP_cat, OP_rep, OP_subb, OP_gN, OP_eqs, OP_eq00, OP_ne00, OP_dct1, OP_nepl, OP_eqpl, OP_isLp, OP_pop0, OP_apppl, OP_lenpl, OP_lentab, OP_inpl, OP_ninpl, OP_indk, OP_nindk, OP_setK, BQ_b, BP_t, BP_f, BP_d, BP_n, BP_eq, ↓reduceIte, Option.map_some, is_non_np, is_non_ng, is_non_tp, is_non_tg, is_non_fp, is_non_fg, is_bl_np, is_bl_ng, is_bl_tp, is_bl_tg, is_bl_fp, is_bl_fg, is_int_np, is_int_ng, is_int_tp, is_int_tg, is_int_fp, is_int_fg, is_str_np, is_str_ng, is_str_tp, is_str_tg, is_str_fp, is_str_fg, is_lst_np, is_lst_ng, is_lst_tp, is_lst_tg, is_lst_fp, is_lst_fg, is_tup_np, is_tup_ng, is_tup_tp, is_tup_tg, is_tup_fp, is_tup_fg, isi_non_int, isi_non_bool, isi_non_list, isi_non_tuple, isi_non_str, isi_non_dict, isi_non_lt, isi_bl_int, isi_bl_bool, isi_bl_list, isi_bl_tuple, isi_bl_str, isi_bl_dict, isi_bl_lt, isi_int_int, isi_int_bool, isi_int_list, isi_int_tuple, isi_int_str, isi_int_dict, isi_int_lt, isi_str_int, isi_str_bool, isi_str_list, isi_str_tuple, isi_str_str, isi_str_dict, isi_str_lt, isi_lst_int, isi_lst_bool, isi_lst_list, isi_lst_tuple, isi_lst_str, isi_lst_dict, isi_lst_lt, isi_tup_int, isi_tup_bool, isi_tup_list, isi_tup_tuple, isi_tup_str, isi_tup_dict, isi_tup_lt,  at0, at1, at2, at3, set0, set1, set2, setD_l, fillIO, putIO, ioN, permO, wpE_n, wpE_c, rst_n, rst_c, isFl, List.map_cons, List.map_nil, List.cons_append, List.nil_append, List.append_nil, List.replicate_succ, List.replicate_zero, Nat.reduceSub, Nat.reduceAdd, List.getElem?_cons_zero, List.getElem?_cons_succ, List.getD_cons_zero, List.getD_cons_succ, List.set_cons_zero, List.set_cons_succ, List.length_cons, List.length_nil, List.map_append])
  refine sp_comes h ha hn fun e => ?_
  (try simp only [RP_varm, RP_holem, RP_c, RP_1, RP_2, RP_3, RP_f, RP_nil, RP_cons, RP_if, RP_and, RP_or, RP_not, RP_B, RP_qt, RP_perm, RP_pn, RP_ps, RP_sl, RP_call, RP_src2, SrcP_l, SrcP_t, SrcP_pl, SrcP_row, SrcP_tab, RP_r1, RP_r2, RP_en2, EnP_l, EnP_row, EnP_tab, LsP_l, LsP_pl, RP_lc, RP_yes, RP_pop, RP_lr, RP_fl, RP_dct1, RP_asL,  SP_nx, SP_seq, SP_drop, SP_ret, SP_set, SP_if, SP_sub, SP_sub2, SP_app, SP_app2, SP_tgt, SP_par, SP_parO, SP_str, SP_uT, SP_uN, SP_uC, SP_uS, SP_subK, SP_for, FP_fn, OP_gT, OP_gC, OP_gE, OP_some, OP_map, OP_add, OP_sub, OP_mul, OP_fdiv, OP_fmod, OP_pow, OP_neg, OP_lt, OP_le, OP_gt, OP_ge, OP_eqi, OP_nei, OP_bits, OP_int, OP_intb, OP_tup, OP_lst, OP_lenl, OP_lent, OP_lenf, OP_abs, OP_max2, OP_min2, OP_gcd, OP_ixl, OP_ixt, OP_ixf, OP_cat, OP_rep, OP_subb, OP_gN, OP_eqs, OP_eq00, OP_ne00, OP_dct1, OP_nepl, OP_eqpl, OP_isLp, OP_pop0, OP_apppl, OP_lenpl, OP_lentab, OP_inpl, OP_ninpl, OP_indk, OP_nindk, OP_setK, BQ_b, BP_t, BP_f, BP_d, BP_n, BP_eq, ↓reduceIte, Option.map_some, is_non_np, is_non_ng, is_non_tp, is_non_tg, is_non_fp, is_non_fg, is_bl_np, is_bl_ng, is_bl_tp, is_bl_tg, is_bl_fp, is_bl_fg, is_int_np, is_int_ng, is_int_tp, is_int_tg, is_int_fp, is_int_fg, is_str_np, is_str_ng, is_str_tp, is_str_tg, is_str_fp, is_str_fg, is_lst_np, is_lst_ng, is_lst_tp, is_lst_tg, is_lst_fp, is_lst_fg, is_tup_np, is_tup_ng, is_tup_tp, is_tup_tg, is_tup_fp, is_tup_fg, isi_non_int, isi_non_bool, isi_non_list, isi_non_tuple, isi_non_str, isi_non_dict, isi_non_lt, isi_bl_int, isi_bl_bool, isi_bl_list, isi_bl_tuple, isi_bl_str, isi_bl_dict, isi_bl_lt, isi_int_int, isi_int_bool, isi_int_list, isi_int_tuple, isi_int_str, isi_int_dict, isi_int_lt, isi_str_int, isi_str_bool, isi_str_list, isi_str_tuple, isi_str_str, isi_str_dict, isi_str_lt, isi_lst_int, isi_lst_bool, isi_lst_list, isi_lst_tuple, isi_lst_str, isi_lst_dict, isi_lst_lt, isi_tup_int, isi_tup_bool, isi_tup_list, isi_tup_tuple, isi_tup_str, isi_tup_dict, isi_tup_lt,  at0, at1, at2, at3, set0, set1, set2, setD_l, fillIO, putIO, ioN, permO, wpE_n, wpE_c, rst_n, rst_c, isFl, List.map_cons, List.map_nil, List.cons_append, List.nil_append, List.append_nil, List.replicate_succ, List.replicate_zero, Nat.reduceSub, Nat.reduceAdd, List.getElem?_cons_zero, List.getElem?_cons_succ, List.getD_cons_zero, List.getD_cons_succ, List.set_cons_zero, List.set_cons_succ, List.length_cons, List.length_nil, List.map_append])
  refine sp_comes h hb hn fun e => ?_
  (try simp only [RP_varm, RP_holem, RP_c, RP_1, RP_2, RP_3, RP_f, RP_nil, RP_cons, RP_if, RP_and, RP_or, RP_not, RP_B, RP_qt, RP_perm, RP_pn, RP_ps, RP_sl, RP_call, RP_src2, SrcP_l, SrcP_t, SrcP_pl, SrcP_row, SrcP_tab, RP_r1, RP_r2, RP_en2, EnP_l, EnP_row, EnP_tab, LsP_l, LsP_pl, RP_lc, RP_yes, RP_pop, RP_lr, RP_fl, RP_dct1, RP_asL,  SP_nx, SP_seq, SP_drop, SP_ret, SP_set, SP_if, SP_sub, SP_sub2, SP_app, SP_app2, SP_tgt, SP_par, SP_parO, SP_str, SP_uT, SP_uN, SP_uC, SP_uS, SP_subK, SP_for, FP_fn, OP_gT, OP_gC, OP_gE, OP_some, OP_map, OP_add, OP_sub, OP_mul, OP_fdiv, OP_fmod, OP_pow, OP_neg, OP_lt, OP_le, OP_gt, OP_ge, OP_eqi, OP_nei, OP_bits, OP_int, OP_intb, OP_tup, OP_lst, OP_lenl, OP_lent, OP_lenf, OP_abs, OP_max2, OP_min2, OP_gcd, OP_ixl, OP_ixt, OP_ixf, OP_cat, OP_rep, OP_subb, OP_gN, OP_eqs, OP_eq00, OP_ne00, OP_dct1, OP_nepl, OP_eqpl, OP_isLp, OP_pop0, OP_apppl, OP_lenpl, OP_lentab, OP_inpl, OP_ninpl, OP_indk, OP_nindk, OP_setK, BQ_b, BP_t, BP_f, BP_d, BP_n, BP_eq, ↓reduceIte, Option.map_some, is_non_np, is_non_ng, is_non_tp, is_non_tg, is_non_fp, is_non_fg, is_bl_np, is_bl_ng, is_bl_tp, is_bl_tg, is_bl_fp, is_bl_fg, is_int_np, is_int_ng, is_int_tp, is_int_tg, is_int_fp, is_int_fg, is_str_np, is_str_ng, is_str_tp, is_str_tg, is_str_fp, is_str_fg, is_lst_np, is_lst_ng, is_lst_tp, is_lst_tg, is_lst_fp, is_lst_fg, is_tup_np, is_tup_ng, is_tup_tp, is_tup_tg, is_tup_fp, is_tup_fg, isi_non_int, isi_non_bool, isi_non_list, isi_non_tuple, isi_non_str, isi_non_dict, isi_non_lt, isi_bl_int, isi_bl_bool, isi_bl_list, isi_bl_tuple, isi_bl_str, isi_bl_dict, isi_bl_lt, isi_int_int, isi_int_bool, isi_int_list, isi_int_tuple, isi_int_str, isi_int_dict, isi_int_lt, isi_str_int, isi_str_bool, isi_str_list, isi_str_tuple, isi_str_str, isi_str_dict, isi_str_lt, isi_lst_int, isi_lst_bool, isi_lst_list, isi_lst_tuple, isi_lst_str, isi_lst_dict, isi_lst_lt, isi_tup_int, isi_tup_bool, isi_tup_list, isi_tup_tuple, isi_tup_str, isi_tup_dict, isi_tup_lt,  at0, at1, at2, at3, set0, set1, set2, setD_l, fillIO, putIO, ioN, permO, wpE_n, wpE_c, rst_n, rst_c, isFl, List.map_cons, List.map_nil, List.cons_append, List.nil_append, List.append_nil, List.replicate_succ, List.replicate_zero, Nat.reduceSub, Nat.reduceAdd, List.getElem?_cons_zero, List.getElem?_cons_succ, List.getD_cons_zero, List.getD_cons_succ, List.set_cons_zero, List.set_cons_succ, List.length_cons, List.length_nil, List.map_append])
  by_cases h1 : b ∈ comes n (edg T) a <;> by_cases h2 : a ∈ comes n (edg T) b <;> simp only [h1, h2, decide_true, decide_false, true_implies, not_true, false_implies, and_true, true_and, not_false_iff] at q ⊢ <;> (try simp only [RP_varm, RP_holem, RP_c, RP_1, RP_2, RP_3, RP_f, RP_nil, RP_cons, RP_if, RP_and, RP_or, RP_not, RP_B, RP_qt, RP_perm, RP_pn, RP_ps, RP_sl, RP_call, RP_src2, SrcP_l, SrcP_t, SrcP_pl, SrcP_row, SrcP_tab, RP_r1, RP_r2, RP_en2, EnP_l, EnP_row, EnP_tab, LsP_l, LsP_pl, RP_lc, RP_yes, RP_pop, RP_lr, RP_fl, RP_dct1, RP_asL,  SP_nx, SP_seq, SP_drop, SP_ret, SP_set, SP_if, SP_sub, SP_sub2, SP_app, SP_app2, SP_tgt, SP_par, SP_parO, SP_str, SP_uT, SP_uN, SP_uC, SP_uS, SP_subK, SP_for, FP_fn, OP_gT, OP_gC, OP_gE, OP_some, OP_map, OP_add, OP_sub, OP_mul, OP_fdiv, OP_fmod, OP_pow, OP_neg, OP_lt, OP_le, OP_gt, OP_ge, OP_eqi, OP_nei, OP_bits, OP_int, OP_intb, OP_tup, OP_lst, OP_lenl, OP_lent, OP_lenf, OP_abs, OP_max2, OP_min2, OP_gcd, OP_ixl, OP_ixt, OP_ixf, OP_cat, OP_rep, OP_subb, OP_gN, OP_eqs, OP_eq00, OP_ne00, OP_dct1, OP_nepl, OP_eqpl, OP_isLp, OP_pop0, OP_apppl, OP_lenpl, OP_lentab, OP_inpl, OP_ninpl, OP_indk, OP_nindk, OP_setK, BQ_b, BP_t, BP_f, BP_d, BP_n, BP_eq, ↓reduceIte, Option.map_some, is_non_np, is_non_ng, is_non_tp, is_non_tg, is_non_fp, is_non_fg, is_bl_np, is_bl_ng, is_bl_tp, is_bl_tg, is_bl_fp, is_bl_fg, is_int_np, is_int_ng, is_int_tp, is_int_tg, is_int_fp, is_int_fg, is_str_np, is_str_ng, is_str_tp, is_str_tg, is_str_fp, is_str_fg, is_lst_np, is_lst_ng, is_lst_tp, is_lst_tg, is_lst_fp, is_lst_fg, is_tup_np, is_tup_ng, is_tup_tp, is_tup_tg, is_tup_fp, is_tup_fg, isi_non_int, isi_non_bool, isi_non_list, isi_non_tuple, isi_non_str, isi_non_dict, isi_non_lt, isi_bl_int, isi_bl_bool, isi_bl_list, isi_bl_tuple, isi_bl_str, isi_bl_dict, isi_bl_lt, isi_int_int, isi_int_bool, isi_int_list, isi_int_tuple, isi_int_str, isi_int_dict, isi_int_lt, isi_str_int, isi_str_bool, isi_str_list, isi_str_tuple, isi_str_str, isi_str_dict, isi_str_lt, isi_lst_int, isi_lst_bool, isi_lst_list, isi_lst_tuple, isi_lst_str, isi_lst_dict, isi_lst_lt, isi_tup_int, isi_tup_bool, isi_tup_list, isi_tup_tuple, isi_tup_str, isi_tup_dict, isi_tup_lt,  at0, at1, at2, at3, set0, set1, set2, setD_l, fillIO, putIO, ioN, permO, wpE_n, wpE_c, rst_n, rst_c, isFl, List.map_cons, List.map_nil, List.cons_append, List.nil_append, List.append_nil, List.replicate_succ, List.replicate_zero, Nat.reduceSub, Nat.reduceAdd, List.getElem?_cons_zero, List.getElem?_cons_succ, List.getD_cons_zero, List.getD_cons_succ, List.set_cons_zero, List.set_cons_succ, List.length_cons, List.length_nil, List.map_append]) <;> exact q _
theorem sp_beside {a b : Nat} (h : Tab n T) (ha : a < n) (hb : b < n) (hab : a ≠ b) (q : ∀ e, Q (wrd (decide (b ∈ comes n (edg T) a)) (decide (a ∈ comes n (edg T) b))) e) : FP (m_beside [tabD T, .int (a : Int), .int (b : Int)]) Q := by
  have hn : n ≤ 1000 := Nat.le_trans h.n16 (by decide)
  unfold m_beside b_beside
  (try simp only [RP_varm, RP_holem, RP_c, RP_1, RP_2, RP_3, RP_f, RP_nil, RP_cons, RP_if, RP_and, RP_or, RP_not, RP_B, RP_qt, RP_perm, RP_pn, RP_ps, RP_sl, RP_call, RP_src2, SrcP_l, SrcP_t, SrcP_pl, SrcP_row, SrcP_tab, RP_r1, RP_r2, RP_en2, EnP_l, EnP_row, EnP_tab, LsP_l, LsP_pl, RP_lc, RP_yes, RP_pop, RP_lr, RP_fl, RP_dct1, RP_asL,  SP_nx, SP_seq, SP_drop, SP_ret, SP_set, SP_if, SP_sub, SP_sub2, SP_app, SP_app2, SP_tgt, SP_par, SP_parO, SP_str, SP_uT, SP_uN, SP_uC, SP_uS, SP_subK, SP_for, FP_fn, OP_gT, OP_gC, OP_gE, OP_some, OP_map, OP_add, OP_sub, OP_mul, OP_fdiv, OP_fmod, OP_pow, OP_neg, OP_lt, OP_le, OP_gt, OP_ge, OP_eqi, OP_nei, OP_bits, OP_int, OP_intb, OP_tup, OP_lst, OP_lenl, OP_lent, OP_lenf, OP_abs, OP_max2, OP_min2, OP_gcd, OP_ixl, OP_ixt, OP_ixf, OP_cat, OP_rep, OP_subb, OP_gN, OP_eqs, OP_eq00, OP_ne00, OP_dct1, OP_nepl, OP_eqpl, OP_isLp, OP_pop0, OP_apppl, OP_lenpl, OP_lentab, OP_inpl, OP_ninpl, OP_indk, OP_nindk, OP_setK, BQ_b, BP_t, BP_f, BP_d, BP_n, BP_eq, ↓reduceIte, Option.map_some, is_non_np, is_non_ng, is_non_tp, is_non_tg, is_non_fp, is_non_fg, is_bl_np, is_bl_ng, is_bl_tp, is_bl_tg, is_bl_fp, is_bl_fg, is_int_np, is_int_ng, is_int_tp, is_int_tg, is_int_fp, is_int_fg, is_str_np, is_str_ng, is_str_tp, is_str_tg, is_str_fp, is_str_fg, is_lst_np, is_lst_ng, is_lst_tp, is_lst_tg, is_lst_fp, is_lst_fg, is_tup_np, is_tup_ng, is_tup_tp, is_tup_tg, is_tup_fp, is_tup_fg, isi_non_int, isi_non_bool, isi_non_list, isi_non_tuple, isi_non_str, isi_non_dict, isi_non_lt, isi_bl_int, isi_bl_bool, isi_bl_list, isi_bl_tuple, isi_bl_str, isi_bl_dict, isi_bl_lt, isi_int_int, isi_int_bool, isi_int_list, isi_int_tuple, isi_int_str, isi_int_dict, isi_int_lt, isi_str_int, isi_str_bool, isi_str_list, isi_str_tuple, isi_str_str, isi_str_dict, isi_str_lt, isi_lst_int, isi_lst_bool, isi_lst_list, isi_lst_tuple, isi_lst_str, isi_lst_dict, isi_lst_lt, isi_tup_int, isi_tup_bool, isi_tup_list, isi_tup_tuple, isi_tup_str, isi_tup_dict, isi_tup_lt,  at0, at1, at2, at3, set0, set1, set2, setD_l, fillIO, putIO, ioN, permO, wpE_n, wpE_c, rst_n, rst_c, isFl, List.map_cons, List.map_nil, List.cons_append, List.nil_append, List.append_nil, List.replicate_succ, List.replicate_zero, Nat.reduceSub, Nat.reduceAdd, List.getElem?_cons_zero, List.getElem?_cons_succ, List.getD_cons_zero, List.getD_cons_succ, List.set_cons_zero, List.set_cons_succ, List.length_cons, List.length_nil, List.map_append])
  refine sp_chk h fun e => ?_
  (try simp only [RP_varm, RP_holem, RP_c, RP_1, RP_2, RP_3, RP_f, RP_nil, RP_cons, RP_if, RP_and, RP_or, RP_not, RP_B, RP_qt, RP_perm, RP_pn, RP_ps, RP_sl, RP_call, RP_src2, SrcP_l, SrcP_t, SrcP_pl, SrcP_row, SrcP_tab, RP_r1, RP_r2, RP_en2, EnP_l, EnP_row, EnP_tab, LsP_l, LsP_pl, RP_lc, RP_yes, RP_pop, RP_lr, RP_fl, RP_dct1, RP_asL,  SP_nx, SP_seq, SP_drop, SP_ret, SP_set, SP_if, SP_sub, SP_sub2, SP_app, SP_app2, SP_tgt, SP_par, SP_parO, SP_str, SP_uT, SP_uN, SP_uC, SP_uS, SP_subK, SP_for, FP_fn, OP_gT, OP_gC, OP_gE, OP_some, OP_map, OP_add, OP_sub, OP_mul, OP_fdiv, OP_fmod, OP_pow, OP_neg, OP_lt, OP_le, OP_gt, OP_ge, OP_eqi, OP_nei, OP_bits, OP_int, OP_intb, OP_tup, OP_lst, OP_lenl, OP_lent, OP_lenf, OP_abs, OP_max2, OP_min2, OP_gcd, OP_ixl, OP_ixt, OP_ixf, OP_cat, OP_rep, OP_subb, OP_gN, OP_eqs, OP_eq00, OP_ne00, OP_dct1, OP_nepl, OP_eqpl, OP_isLp, OP_pop0, OP_apppl, OP_lenpl, OP_lentab, OP_inpl, OP_ninpl, OP_indk, OP_nindk, OP_setK, BQ_b, BP_t, BP_f, BP_d, BP_n, BP_eq, ↓reduceIte, Option.map_some, is_non_np, is_non_ng, is_non_tp, is_non_tg, is_non_fp, is_non_fg, is_bl_np, is_bl_ng, is_bl_tp, is_bl_tg, is_bl_fp, is_bl_fg, is_int_np, is_int_ng, is_int_tp, is_int_tg, is_int_fp, is_int_fg, is_str_np, is_str_ng, is_str_tp, is_str_tg, is_str_fp, is_str_fg, is_lst_np, is_lst_ng, is_lst_tp, is_lst_tg, is_lst_fp, is_lst_fg, is_tup_np, is_tup_ng, is_tup_tp, is_tup_tg, is_tup_fp, is_tup_fg, isi_non_int, isi_non_bool, isi_non_list, isi_non_tuple, isi_non_str, isi_non_dict, isi_non_lt, isi_bl_int, isi_bl_bool, isi_bl_list, isi_bl_tuple, isi_bl_str, isi_bl_dict, isi_bl_lt, isi_int_int, isi_int_bool, isi_int_list, isi_int_tuple, isi_int_str, isi_int_dict, isi_int_lt, isi_str_int, isi_str_bool, isi_str_list, isi_str_tuple, isi_str_str, isi_str_dict, isi_str_lt, isi_lst_int, isi_lst_bool, isi_lst_list, isi_lst_tuple, isi_lst_str, isi_lst_dict, isi_lst_lt, isi_tup_int, isi_tup_bool, isi_tup_list, isi_tup_tuple, isi_tup_str, isi_tup_dict, isi_tup_lt,  at0, at1, at2, at3, set0, set1, set2, setD_l, fillIO, putIO, ioN, permO, wpE_n, wpE_c, rst_n, rst_c, isFl, List.map_cons, List.map_nil, List.cons_append, List.nil_append, List.append_nil, List.replicate_succ, List.replicate_zero, Nat.reduceSub, Nat.reduceAdd, List.getElem?_cons_zero, List.getElem?_cons_succ, List.getD_cons_zero, List.getD_cons_succ, List.set_cons_zero, List.set_cons_succ, List.length_cons, List.length_nil, List.map_append])
  rw [h.len]
  refine sp_chkPair ha hb hab fun e => ?_
  (try simp only [RP_varm, RP_holem, RP_c, RP_1, RP_2, RP_3, RP_f, RP_nil, RP_cons, RP_if, RP_and, RP_or, RP_not, RP_B, RP_qt, RP_perm, RP_pn, RP_ps, RP_sl, RP_call, RP_src2, SrcP_l, SrcP_t, SrcP_pl, SrcP_row, SrcP_tab, RP_r1, RP_r2, RP_en2, EnP_l, EnP_row, EnP_tab, LsP_l, LsP_pl, RP_lc, RP_yes, RP_pop, RP_lr, RP_fl, RP_dct1, RP_asL,  SP_nx, SP_seq, SP_drop, SP_ret, SP_set, SP_if, SP_sub, SP_sub2, SP_app, SP_app2, SP_tgt, SP_par, SP_parO, SP_str, SP_uT, SP_uN, SP_uC, SP_uS, SP_subK, SP_for, FP_fn, OP_gT, OP_gC, OP_gE, OP_some, OP_map, OP_add, OP_sub, OP_mul, OP_fdiv, OP_fmod, OP_pow, OP_neg, OP_lt, OP_le, OP_gt, OP_ge, OP_eqi, OP_nei, OP_bits, OP_int, OP_intb, OP_tup, OP_lst, OP_lenl, OP_lent, OP_lenf, OP_abs, OP_max2, OP_min2, OP_gcd, OP_ixl, OP_ixt, OP_ixf, OP_cat, OP_rep, OP_subb, OP_gN, OP_eqs, OP_eq00, OP_ne00, OP_dct1, OP_nepl, OP_eqpl, OP_isLp, OP_pop0, OP_apppl, OP_lenpl, OP_lentab, OP_inpl, OP_ninpl, OP_indk, OP_nindk, OP_setK, BQ_b, BP_t, BP_f, BP_d, BP_n, BP_eq, ↓reduceIte, Option.map_some, is_non_np, is_non_ng, is_non_tp, is_non_tg, is_non_fp, is_non_fg, is_bl_np, is_bl_ng, is_bl_tp, is_bl_tg, is_bl_fp, is_bl_fg, is_int_np, is_int_ng, is_int_tp, is_int_tg, is_int_fp, is_int_fg, is_str_np, is_str_ng, is_str_tp, is_str_tg, is_str_fp, is_str_fg, is_lst_np, is_lst_ng, is_lst_tp, is_lst_tg, is_lst_fp, is_lst_fg, is_tup_np, is_tup_ng, is_tup_tp, is_tup_tg, is_tup_fp, is_tup_fg, isi_non_int, isi_non_bool, isi_non_list, isi_non_tuple, isi_non_str, isi_non_dict, isi_non_lt, isi_bl_int, isi_bl_bool, isi_bl_list, isi_bl_tuple, isi_bl_str, isi_bl_dict, isi_bl_lt, isi_int_int, isi_int_bool, isi_int_list, isi_int_tuple, isi_int_str, isi_int_dict, isi_int_lt, isi_str_int, isi_str_bool, isi_str_list, isi_str_tuple, isi_str_str, isi_str_dict, isi_str_lt, isi_lst_int, isi_lst_bool, isi_lst_list, isi_lst_tuple, isi_lst_str, isi_lst_dict, isi_lst_lt, isi_tup_int, isi_tup_bool, isi_tup_list, isi_tup_tuple, isi_tup_str, isi_tup_dict, isi_tup_lt,  at0, at1, at2, at3, set0, set1, set2, setD_l, fillIO, putIO, ioN, permO, wpE_n, wpE_c, rst_n, rst_c, isFl, List.map_cons, List.map_nil, List.cons_append, List.nil_append, List.append_nil, List.replicate_succ, List.replicate_zero, Nat.reduceSub, Nat.reduceAdd, List.getElem?_cons_zero, List.getElem?_cons_succ, List.getD_cons_zero, List.getD_cons_succ, List.set_cons_zero, List.set_cons_succ, List.length_cons, List.length_nil, List.map_append])
  refine sp_come h.sq ha hn fun E e hE => ?_
  (try simp only [RP_varm, RP_holem, RP_c, RP_1, RP_2, RP_3, RP_f, RP_nil, RP_cons, RP_if, RP_and, RP_or, RP_not, RP_B, RP_qt, RP_perm, RP_pn, RP_ps, RP_sl, RP_call, RP_src2, SrcP_l, SrcP_t, SrcP_pl, SrcP_row, SrcP_tab, RP_r1, RP_r2, RP_en2, EnP_l, EnP_row, EnP_tab, LsP_l, LsP_pl, RP_lc, RP_yes, RP_pop, RP_lr, RP_fl, RP_dct1, RP_asL,  SP_nx, SP_seq, SP_drop, SP_ret, SP_set, SP_if, SP_sub, SP_sub2, SP_app, SP_app2, SP_tgt, SP_par, SP_parO, SP_str, SP_uT, SP_uN, SP_uC, SP_uS, SP_subK, SP_for, FP_fn, OP_gT, OP_gC, OP_gE, OP_some, OP_map, OP_add, OP_sub, OP_mul, OP_fdiv, OP_fmod, OP_pow, OP_neg, OP_lt, OP_le, OP_gt, OP_ge, OP_eqi, OP_nei, OP_bits, OP_int, OP_intb, OP_tup, OP_lst, OP_lenl, OP_lent, OP_lenf, OP_abs, OP_max2, OP_min2, OP_gcd, OP_ixl, OP_ixt, OP_ixf, OP_cat, OP_rep, OP_subb, OP_gN, OP_eqs, OP_eq00, OP_ne00, OP_dct1, OP_nepl, OP_eqpl, OP_isLp, OP_pop0, OP_apppl, OP_lenpl, OP_lentab, OP_inpl, OP_ninpl, OP_indk, OP_nindk, OP_setK, BQ_b, BP_t, BP_f, BP_d, BP_n, BP_eq, ↓reduceIte, Option.map_some, is_non_np, is_non_ng, is_non_tp, is_non_tg, is_non_fp, is_non_fg, is_bl_np, is_bl_ng, is_bl_tp, is_bl_tg, is_bl_fp, is_bl_fg, is_int_np, is_int_ng, is_int_tp, is_int_tg, is_int_fp, is_int_fg, is_str_np, is_str_ng, is_str_tp, is_str_tg, is_str_fp, is_str_fg, is_lst_np, is_lst_ng, is_lst_tp, is_lst_tg, is_lst_fp, is_lst_fg, is_tup_np, is_tup_ng, is_tup_tp, is_tup_tg, is_tup_fp, is_tup_fg, isi_non_int, isi_non_bool, isi_non_list, isi_non_tuple, isi_non_str, isi_non_dict, isi_non_lt, isi_bl_int, isi_bl_bool, isi_bl_list, isi_bl_tuple, isi_bl_str, isi_bl_dict, isi_bl_lt, isi_int_int, isi_int_bool, isi_int_list, isi_int_tuple, isi_int_str, isi_int_dict, isi_int_lt, isi_str_int, isi_str_bool, isi_str_list, isi_str_tuple, isi_str_str, isi_str_dict, isi_str_lt, isi_lst_int, isi_lst_bool, isi_lst_list, isi_lst_tuple, isi_lst_str, isi_lst_dict, isi_lst_lt, isi_tup_int, isi_tup_bool, isi_tup_list, isi_tup_tuple, isi_tup_str, isi_tup_dict, isi_tup_lt,  at0, at1, at2, at3, set0, set1, set2, setD_l, fillIO, putIO, ioN, permO, wpE_n, wpE_c, rst_n, rst_c, isFl, List.map_cons, List.map_nil, List.cons_append, List.nil_append, List.append_nil, List.replicate_succ, List.replicate_zero, Nat.reduceSub, Nat.reduceAdd, List.getElem?_cons_zero, List.getElem?_cons_succ, List.getD_cons_zero, List.getD_cons_succ, List.set_cons_zero, List.set_cons_succ, List.length_cons, List.length_nil, List.map_append])
  refine sp_come h.sq hb hn fun E2 e hE2 => ?_
  (try simp only [RP_varm, RP_holem, RP_c, RP_1, RP_2, RP_3, RP_f, RP_nil, RP_cons, RP_if, RP_and, RP_or, RP_not, RP_B, RP_qt, RP_perm, RP_pn, RP_ps, RP_sl, RP_call, RP_src2, SrcP_l, SrcP_t, SrcP_pl, SrcP_row, SrcP_tab, RP_r1, RP_r2, RP_en2, EnP_l, EnP_row, EnP_tab, LsP_l, LsP_pl, RP_lc, RP_yes, RP_pop, RP_lr, RP_fl, RP_dct1, RP_asL,  SP_nx, SP_seq, SP_drop, SP_ret, SP_set, SP_if, SP_sub, SP_sub2, SP_app, SP_app2, SP_tgt, SP_par, SP_parO, SP_str, SP_uT, SP_uN, SP_uC, SP_uS, SP_subK, SP_for, FP_fn, OP_gT, OP_gC, OP_gE, OP_some, OP_map, OP_add, OP_sub, OP_mul, OP_fdiv, OP_fmod, OP_pow, OP_neg, OP_lt, OP_le, OP_gt, OP_ge, OP_eqi, OP_nei, OP_bits, OP_int, OP_intb, OP_tup, OP_lst, OP_lenl, OP_lent, OP_lenf, OP_abs, OP_max2, OP_min2, OP_gcd, OP_ixl, OP_ixt, OP_ixf, OP_cat, OP_rep, OP_subb, OP_gN, OP_eqs, OP_eq00, OP_ne00, OP_dct1, OP_nepl, OP_eqpl, OP_isLp, OP_pop0, OP_apppl, OP_lenpl, OP_lentab, OP_inpl, OP_ninpl, OP_indk, OP_nindk, OP_setK, BQ_b, BP_t, BP_f, BP_d, BP_n, BP_eq, ↓reduceIte, Option.map_some, is_non_np, is_non_ng, is_non_tp, is_non_tg, is_non_fp, is_non_fg, is_bl_np, is_bl_ng, is_bl_tp, is_bl_tg, is_bl_fp, is_bl_fg, is_int_np, is_int_ng, is_int_tp, is_int_tg, is_int_fp, is_int_fg, is_str_np, is_str_ng, is_str_tp, is_str_tg, is_str_fp, is_str_fg, is_lst_np, is_lst_ng, is_lst_tp, is_lst_tg, is_lst_fp, is_lst_fg, is_tup_np, is_tup_ng, is_tup_tp, is_tup_tg, is_tup_fp, is_tup_fg, isi_non_int, isi_non_bool, isi_non_list, isi_non_tuple, isi_non_str, isi_non_dict, isi_non_lt, isi_bl_int, isi_bl_bool, isi_bl_list, isi_bl_tuple, isi_bl_str, isi_bl_dict, isi_bl_lt, isi_int_int, isi_int_bool, isi_int_list, isi_int_tuple, isi_int_str, isi_int_dict, isi_int_lt, isi_str_int, isi_str_bool, isi_str_list, isi_str_tuple, isi_str_str, isi_str_dict, isi_str_lt, isi_lst_int, isi_lst_bool, isi_lst_list, isi_lst_tuple, isi_lst_str, isi_lst_dict, isi_lst_lt, isi_tup_int, isi_tup_bool, isi_tup_list, isi_tup_tuple, isi_tup_str, isi_tup_dict, isi_tup_lt,  at0, at1, at2, at3, set0, set1, set2, setD_l, fillIO, putIO, ioN, permO, wpE_n, wpE_c, rst_n, rst_c, isFl, List.map_cons, List.map_nil, List.cons_append, List.nil_append, List.append_nil, List.replicate_succ, List.replicate_zero, Nat.reduceSub, Nat.reduceAdd, List.getElem?_cons_zero, List.getElem?_cons_succ, List.getD_cons_zero, List.getD_cons_succ, List.set_cons_zero, List.set_cons_succ, List.length_cons, List.length_nil, List.map_append])
  have e1 : (b ∈ nds E) ↔ b ∈ comes n (edg T) a := hE.rch.trans (mem_comes ha).symm
  have e2 : (a ∈ nds E2) ↔ a ∈ comes n (edg T) b := hE2.rch.trans (mem_comes hb).symm
  simp only [propext e1, propext e2]
  by_cases h1 : b ∈ comes n (edg T) a <;> by_cases h2 : a ∈ comes n (edg T) b <;> simp only [h1, h2, decide_true, decide_false, true_implies, not_true, false_implies, and_true, true_and, not_false_iff] at q ⊢ <;> (try simp only [RP_varm, RP_holem, RP_c, RP_1, RP_2, RP_3, RP_f, RP_nil, RP_cons, RP_if, RP_and, RP_or, RP_not, RP_B, RP_qt, RP_perm, RP_pn, RP_ps, RP_sl, RP_call, RP_src2, SrcP_l, SrcP_t, SrcP_pl, SrcP_row, SrcP_tab, RP_r1, RP_r2, RP_en2, EnP_l, EnP_row, EnP_tab, LsP_l, LsP_pl, RP_lc, RP_yes, RP_pop, RP_lr, RP_fl, RP_dct1, RP_asL,  SP_nx, SP_seq, SP_drop, SP_ret, SP_set, SP_if, SP_sub, SP_sub2, SP_app, SP_app2, SP_tgt, SP_par, SP_parO, SP_str, SP_uT, SP_uN, SP_uC, SP_uS, SP_subK, SP_for, FP_fn, OP_gT, OP_gC, OP_gE, OP_some, OP_map, OP_add, OP_sub, OP_mul, OP_fdiv, OP_fmod, OP_pow, OP_neg, OP_lt, OP_le, OP_gt, OP_ge, OP_eqi, OP_nei, OP_bits, OP_int, OP_intb, OP_tup, OP_lst, OP_lenl, OP_lent, OP_lenf, OP_abs, OP_max2, OP_min2, OP_gcd, OP_ixl, OP_ixt, OP_ixf, OP_cat, OP_rep, OP_subb, OP_gN, OP_eqs, OP_eq00, OP_ne00, OP_dct1, OP_nepl, OP_eqpl, OP_isLp, OP_pop0, OP_apppl, OP_lenpl, OP_lentab, OP_inpl, OP_ninpl, OP_indk, OP_nindk, OP_setK, BQ_b, BP_t, BP_f, BP_d, BP_n, BP_eq, ↓reduceIte, Option.map_some, is_non_np, is_non_ng, is_non_tp, is_non_tg, is_non_fp, is_non_fg, is_bl_np, is_bl_ng, is_bl_tp, is_bl_tg, is_bl_fp, is_bl_fg, is_int_np, is_int_ng, is_int_tp, is_int_tg, is_int_fp, is_int_fg, is_str_np, is_str_ng, is_str_tp, is_str_tg, is_str_fp, is_str_fg, is_lst_np, is_lst_ng, is_lst_tp, is_lst_tg, is_lst_fp, is_lst_fg, is_tup_np, is_tup_ng, is_tup_tp, is_tup_tg, is_tup_fp, is_tup_fg, isi_non_int, isi_non_bool, isi_non_list, isi_non_tuple, isi_non_str, isi_non_dict, isi_non_lt, isi_bl_int, isi_bl_bool, isi_bl_list, isi_bl_tuple, isi_bl_str, isi_bl_dict, isi_bl_lt, isi_int_int, isi_int_bool, isi_int_list, isi_int_tuple, isi_int_str, isi_int_dict, isi_int_lt, isi_str_int, isi_str_bool, isi_str_list, isi_str_tuple, isi_str_str, isi_str_dict, isi_str_lt, isi_lst_int, isi_lst_bool, isi_lst_list, isi_lst_tuple, isi_lst_str, isi_lst_dict, isi_lst_lt, isi_tup_int, isi_tup_bool, isi_tup_list, isi_tup_tuple, isi_tup_str, isi_tup_dict, isi_tup_lt,  at0, at1, at2, at3, set0, set1, set2, setD_l, fillIO, putIO, ioN, permO, wpE_n, wpE_c, rst_n, rst_c, isFl, List.map_cons, List.map_nil, List.cons_append, List.nil_append, List.append_nil, List.replicate_succ, List.replicate_zero, Nat.reduceSub, Nat.reduceAdd, List.getElem?_cons_zero, List.getElem?_cons_succ, List.getD_cons_zero, List.getD_cons_succ, List.set_cons_zero, List.set_cons_succ, List.length_cons, List.length_nil, List.map_append]) <;> exact q _
theorem lc_cut {own : List Nat} {E : Sl} {l : List Nat} {R : List D → Sl → Prop} {el : M} {f : D → Sl → Option Sl} (h : ∀ x ∈ l, OP (f (.int (x : Int)) E) fun e1 => RP (el e1) fun y e3 => y = rowD (l.map fun j => ent T x j) ∧ wpE e3 own = E)
    (q : R ((cutT T l).map rowD) E) : RP (lcL own f mYes el (l.map fun k : Nat => D.int (k : Int)) E) R := by
  refine RP_lcG (fun x => rowD (l.map fun j => ent T x j)) h ?_
  unfold cutT at q
  rw [List.map_map] at q
  exact q
theorem sp_cutto {l : List Nat} (h : Sq n T) (hl : ∀ x ∈ l, x < n) (hn : l.length ≤ 1000) (q : ∀ e, Q (tabD (cutT T l)) e) : FP (m_cut_to [tabD T, plD l]) Q := by
  unfold m_cut_to b_cut_to
  (try simp only [RP_varm, RP_holem, RP_c, RP_1, RP_2, RP_3, RP_f, RP_nil, RP_cons, RP_if, RP_and, RP_or, RP_not, RP_B, RP_qt, RP_perm, RP_pn, RP_ps, RP_sl, RP_call, RP_src2, SrcP_l, SrcP_t, SrcP_pl, SrcP_row, SrcP_tab, RP_r1, RP_r2, RP_en2, EnP_l, EnP_row, EnP_tab, LsP_l, LsP_pl, RP_lc, RP_yes, RP_pop, RP_lr, RP_fl, RP_dct1, RP_asL,  SP_nx, SP_seq, SP_drop, SP_ret, SP_set, SP_if, SP_sub, SP_sub2, SP_app, SP_app2, SP_tgt, SP_par, SP_parO, SP_str, SP_uT, SP_uN, SP_uC, SP_uS, SP_subK, SP_for, FP_fn, OP_gT, OP_gC, OP_gE, OP_some, OP_map, OP_add, OP_sub, OP_mul, OP_fdiv, OP_fmod, OP_pow, OP_neg, OP_lt, OP_le, OP_gt, OP_ge, OP_eqi, OP_nei, OP_bits, OP_int, OP_intb, OP_tup, OP_lst, OP_lenl, OP_lent, OP_lenf, OP_abs, OP_max2, OP_min2, OP_gcd, OP_ixl, OP_ixt, OP_ixf, OP_cat, OP_rep, OP_subb, OP_gN, OP_eqs, OP_eq00, OP_ne00, OP_dct1, OP_nepl, OP_eqpl, OP_isLp, OP_pop0, OP_apppl, OP_lenpl, OP_lentab, OP_inpl, OP_ninpl, OP_indk, OP_nindk, OP_setK, BQ_b, BP_t, BP_f, BP_d, BP_n, BP_eq, ↓reduceIte, Option.map_some, is_non_np, is_non_ng, is_non_tp, is_non_tg, is_non_fp, is_non_fg, is_bl_np, is_bl_ng, is_bl_tp, is_bl_tg, is_bl_fp, is_bl_fg, is_int_np, is_int_ng, is_int_tp, is_int_tg, is_int_fp, is_int_fg, is_str_np, is_str_ng, is_str_tp, is_str_tg, is_str_fp, is_str_fg, is_lst_np, is_lst_ng, is_lst_tp, is_lst_tg, is_lst_fp, is_lst_fg, is_tup_np, is_tup_ng, is_tup_tp, is_tup_tg, is_tup_fp, is_tup_fg, isi_non_int, isi_non_bool, isi_non_list, isi_non_tuple, isi_non_str, isi_non_dict, isi_non_lt, isi_bl_int, isi_bl_bool, isi_bl_list, isi_bl_tuple, isi_bl_str, isi_bl_dict, isi_bl_lt, isi_int_int, isi_int_bool, isi_int_list, isi_int_tuple, isi_int_str, isi_int_dict, isi_int_lt, isi_str_int, isi_str_bool, isi_str_list, isi_str_tuple, isi_str_str, isi_str_dict, isi_str_lt, isi_lst_int, isi_lst_bool, isi_lst_list, isi_lst_tuple, isi_lst_str, isi_lst_dict, isi_lst_lt, isi_tup_int, isi_tup_bool, isi_tup_list, isi_tup_tuple, isi_tup_str, isi_tup_dict, isi_tup_lt,  at0, at1, at2, at3, set0, set1, set2, setD_l, fillIO, putIO, ioN, permO, wpE_n, wpE_c, rst_n, rst_c, isFl, List.map_cons, List.map_nil, List.cons_append, List.nil_append, List.append_nil, List.replicate_succ, List.replicate_zero, Nat.reduceSub, Nat.reduceAdd, List.getElem?_cons_zero, List.getElem?_cons_succ, List.getD_cons_zero, List.getD_cons_succ, List.set_cons_zero, List.set_cons_succ, List.length_cons, List.length_nil, List.map_append])
  refine lc_cut (T := T) (fun x hx => ?_) ?_
  · (try simp only [RP_varm, RP_holem, RP_c, RP_1, RP_2, RP_3, RP_f, RP_nil, RP_cons, RP_if, RP_and, RP_or, RP_not, RP_B, RP_qt, RP_perm, RP_pn, RP_ps, RP_sl, RP_call, RP_src2, SrcP_l, SrcP_t, SrcP_pl, SrcP_row, SrcP_tab, RP_r1, RP_r2, RP_en2, EnP_l, EnP_row, EnP_tab, LsP_l, LsP_pl, RP_lc, RP_yes, RP_pop, RP_lr, RP_fl, RP_dct1, RP_asL,  SP_nx, SP_seq, SP_drop, SP_ret, SP_set, SP_if, SP_sub, SP_sub2, SP_app, SP_app2, SP_tgt, SP_par, SP_parO, SP_str, SP_uT, SP_uN, SP_uC, SP_uS, SP_subK, SP_for, FP_fn, OP_gT, OP_gC, OP_gE, OP_some, OP_map, OP_add, OP_sub, OP_mul, OP_fdiv, OP_fmod, OP_pow, OP_neg, OP_lt, OP_le, OP_gt, OP_ge, OP_eqi, OP_nei, OP_bits, OP_int, OP_intb, OP_tup, OP_lst, OP_lenl, OP_lent, OP_lenf, OP_abs, OP_max2, OP_min2, OP_gcd, OP_ixl, OP_ixt, OP_ixf, OP_cat, OP_rep, OP_subb, OP_gN, OP_eqs, OP_eq00, OP_ne00, OP_dct1, OP_nepl, OP_eqpl, OP_isLp, OP_pop0, OP_apppl, OP_lenpl, OP_lentab, OP_inpl, OP_ninpl, OP_indk, OP_nindk, OP_setK, BQ_b, BP_t, BP_f, BP_d, BP_n, BP_eq, ↓reduceIte, Option.map_some, is_non_np, is_non_ng, is_non_tp, is_non_tg, is_non_fp, is_non_fg, is_bl_np, is_bl_ng, is_bl_tp, is_bl_tg, is_bl_fp, is_bl_fg, is_int_np, is_int_ng, is_int_tp, is_int_tg, is_int_fp, is_int_fg, is_str_np, is_str_ng, is_str_tp, is_str_tg, is_str_fp, is_str_fg, is_lst_np, is_lst_ng, is_lst_tp, is_lst_tg, is_lst_fp, is_lst_fg, is_tup_np, is_tup_ng, is_tup_tp, is_tup_tg, is_tup_fp, is_tup_fg, isi_non_int, isi_non_bool, isi_non_list, isi_non_tuple, isi_non_str, isi_non_dict, isi_non_lt, isi_bl_int, isi_bl_bool, isi_bl_list, isi_bl_tuple, isi_bl_str, isi_bl_dict, isi_bl_lt, isi_int_int, isi_int_bool, isi_int_list, isi_int_tuple, isi_int_str, isi_int_dict, isi_int_lt, isi_str_int, isi_str_bool, isi_str_list, isi_str_tuple, isi_str_str, isi_str_dict, isi_str_lt, isi_lst_int, isi_lst_bool, isi_lst_list, isi_lst_tuple, isi_lst_str, isi_lst_dict, isi_lst_lt, isi_tup_int, isi_tup_bool, isi_tup_list, isi_tup_tuple, isi_tup_str, isi_tup_dict, isi_tup_lt,  at0, at1, at2, at3, set0, set1, set2, setD_l, fillIO, putIO, ioN, permO, wpE_n, wpE_c, rst_n, rst_c, isFl, List.map_cons, List.map_nil, List.cons_append, List.nil_append, List.append_nil, List.replicate_succ, List.replicate_zero, Nat.reduceSub, Nat.reduceAdd, List.getElem?_cons_zero, List.getElem?_cons_succ, List.getD_cons_zero, List.getD_cons_succ, List.set_cons_zero, List.set_cons_succ, List.length_cons, List.length_nil, List.map_append])
    refine RP_lcG (fun j => .int (ent T x j)) (fun j hj => ?_) ?_
    · (try simp only [RP_varm, RP_holem, RP_c, RP_1, RP_2, RP_3, RP_f, RP_nil, RP_cons, RP_if, RP_and, RP_or, RP_not, RP_B, RP_qt, RP_perm, RP_pn, RP_ps, RP_sl, RP_call, RP_src2, SrcP_l, SrcP_t, SrcP_pl, SrcP_row, SrcP_tab, RP_r1, RP_r2, RP_en2, EnP_l, EnP_row, EnP_tab, LsP_l, LsP_pl, RP_lc, RP_yes, RP_pop, RP_lr, RP_fl, RP_dct1, RP_asL,  SP_nx, SP_seq, SP_drop, SP_ret, SP_set, SP_if, SP_sub, SP_sub2, SP_app, SP_app2, SP_tgt, SP_par, SP_parO, SP_str, SP_uT, SP_uN, SP_uC, SP_uS, SP_subK, SP_for, FP_fn, OP_gT, OP_gC, OP_gE, OP_some, OP_map, OP_add, OP_sub, OP_mul, OP_fdiv, OP_fmod, OP_pow, OP_neg, OP_lt, OP_le, OP_gt, OP_ge, OP_eqi, OP_nei, OP_bits, OP_int, OP_intb, OP_tup, OP_lst, OP_lenl, OP_lent, OP_lenf, OP_abs, OP_max2, OP_min2, OP_gcd, OP_ixl, OP_ixt, OP_ixf, OP_cat, OP_rep, OP_subb, OP_gN, OP_eqs, OP_eq00, OP_ne00, OP_dct1, OP_nepl, OP_eqpl, OP_isLp, OP_pop0, OP_apppl, OP_lenpl, OP_lentab, OP_inpl, OP_ninpl, OP_indk, OP_nindk, OP_setK, BQ_b, BP_t, BP_f, BP_d, BP_n, BP_eq, ↓reduceIte, Option.map_some, is_non_np, is_non_ng, is_non_tp, is_non_tg, is_non_fp, is_non_fg, is_bl_np, is_bl_ng, is_bl_tp, is_bl_tg, is_bl_fp, is_bl_fg, is_int_np, is_int_ng, is_int_tp, is_int_tg, is_int_fp, is_int_fg, is_str_np, is_str_ng, is_str_tp, is_str_tg, is_str_fp, is_str_fg, is_lst_np, is_lst_ng, is_lst_tp, is_lst_tg, is_lst_fp, is_lst_fg, is_tup_np, is_tup_ng, is_tup_tp, is_tup_tg, is_tup_fp, is_tup_fg, isi_non_int, isi_non_bool, isi_non_list, isi_non_tuple, isi_non_str, isi_non_dict, isi_non_lt, isi_bl_int, isi_bl_bool, isi_bl_list, isi_bl_tuple, isi_bl_str, isi_bl_dict, isi_bl_lt, isi_int_int, isi_int_bool, isi_int_list, isi_int_tuple, isi_int_str, isi_int_dict, isi_int_lt, isi_str_int, isi_str_bool, isi_str_list, isi_str_tuple, isi_str_str, isi_str_dict, isi_str_lt, isi_lst_int, isi_lst_bool, isi_lst_list, isi_lst_tuple, isi_lst_str, isi_lst_dict, isi_lst_lt, isi_tup_int, isi_tup_bool, isi_tup_list, isi_tup_tuple, isi_tup_str, isi_tup_dict, isi_tup_lt,  at0, at1, at2, at3, set0, set1, set2, setD_l, fillIO, putIO, ioN, permO, wpE_n, wpE_c, rst_n, rst_c, isFl, List.map_cons, List.map_nil, List.cons_append, List.nil_append, List.append_nil, List.replicate_succ, List.replicate_zero, Nat.reduceSub, Nat.reduceAdd, List.getElem?_cons_zero, List.getElem?_cons_succ, List.getD_cons_zero, List.getD_cons_succ, List.set_cons_zero, List.set_cons_succ, List.length_cons, List.length_nil, List.map_append])
      rw [OP_entS h (hl x hx) (hl j hj)]
      (first | exact trivial | (simp; done) | (simp_all; done))
    · refine ⟨by rw [List.length_map]; show _ ≤ 1000000; omega, ?_, ?_⟩
      · unfold rowD
        rw [List.map_map]
        rfl
      · rfl
  · exact ⟨by unfold cutT; rw [List.length_map, List.length_map]; show _ ≤ 1000000; omega, q _⟩
theorem sp_cut {l : List Nat} (h : Tab n T) (hr : Ris n l) (h1 : 1 < l.length) (h2 : l.length < n) (q : ∀ e, Q (tabD (cutT T l)) e) : FP (m_cut [tabD T, plD l]) Q := by
  have hn := h.n16
  unfold m_cut b_cut
  (try simp only [RP_varm, RP_holem, RP_c, RP_1, RP_2, RP_3, RP_f, RP_nil, RP_cons, RP_if, RP_and, RP_or, RP_not, RP_B, RP_qt, RP_perm, RP_pn, RP_ps, RP_sl, RP_call, RP_src2, SrcP_l, SrcP_t, SrcP_pl, SrcP_row, SrcP_tab, RP_r1, RP_r2, RP_en2, EnP_l, EnP_row, EnP_tab, LsP_l, LsP_pl, RP_lc, RP_yes, RP_pop, RP_lr, RP_fl, RP_dct1, RP_asL,  SP_nx, SP_seq, SP_drop, SP_ret, SP_set, SP_if, SP_sub, SP_sub2, SP_app, SP_app2, SP_tgt, SP_par, SP_parO, SP_str, SP_uT, SP_uN, SP_uC, SP_uS, SP_subK, SP_for, FP_fn, OP_gT, OP_gC, OP_gE, OP_some, OP_map, OP_add, OP_sub, OP_mul, OP_fdiv, OP_fmod, OP_pow, OP_neg, OP_lt, OP_le, OP_gt, OP_ge, OP_eqi, OP_nei, OP_bits, OP_int, OP_intb, OP_tup, OP_lst, OP_lenl, OP_lent, OP_lenf, OP_abs, OP_max2, OP_min2, OP_gcd, OP_ixl, OP_ixt, OP_ixf, OP_cat, OP_rep, OP_subb, OP_gN, OP_eqs, OP_eq00, OP_ne00, OP_dct1, OP_nepl, OP_eqpl, OP_isLp, OP_pop0, OP_apppl, OP_lenpl, OP_lentab, OP_inpl, OP_ninpl, OP_indk, OP_nindk, OP_setK, BQ_b, BP_t, BP_f, BP_d, BP_n, BP_eq, ↓reduceIte, Option.map_some, is_non_np, is_non_ng, is_non_tp, is_non_tg, is_non_fp, is_non_fg, is_bl_np, is_bl_ng, is_bl_tp, is_bl_tg, is_bl_fp, is_bl_fg, is_int_np, is_int_ng, is_int_tp, is_int_tg, is_int_fp, is_int_fg, is_str_np, is_str_ng, is_str_tp, is_str_tg, is_str_fp, is_str_fg, is_lst_np, is_lst_ng, is_lst_tp, is_lst_tg, is_lst_fp, is_lst_fg, is_tup_np, is_tup_ng, is_tup_tp, is_tup_tg, is_tup_fp, is_tup_fg, isi_non_int, isi_non_bool, isi_non_list, isi_non_tuple, isi_non_str, isi_non_dict, isi_non_lt, isi_bl_int, isi_bl_bool, isi_bl_list, isi_bl_tuple, isi_bl_str, isi_bl_dict, isi_bl_lt, isi_int_int, isi_int_bool, isi_int_list, isi_int_tuple, isi_int_str, isi_int_dict, isi_int_lt, isi_str_int, isi_str_bool, isi_str_list, isi_str_tuple, isi_str_str, isi_str_dict, isi_str_lt, isi_lst_int, isi_lst_bool, isi_lst_list, isi_lst_tuple, isi_lst_str, isi_lst_dict, isi_lst_lt, isi_tup_int, isi_tup_bool, isi_tup_list, isi_tup_tuple, isi_tup_str, isi_tup_dict, isi_tup_lt,  at0, at1, at2, at3, set0, set1, set2, setD_l, fillIO, putIO, ioN, permO, wpE_n, wpE_c, rst_n, rst_c, isFl, List.map_cons, List.map_nil, List.cons_append, List.nil_append, List.append_nil, List.replicate_succ, List.replicate_zero, Nat.reduceSub, Nat.reduceAdd, List.getElem?_cons_zero, List.getElem?_cons_succ, List.getD_cons_zero, List.getD_cons_succ, List.set_cons_zero, List.set_cons_succ, List.length_cons, List.length_nil, List.map_append])
  refine sp_chk h fun e => ?_
  (try simp only [RP_varm, RP_holem, RP_c, RP_1, RP_2, RP_3, RP_f, RP_nil, RP_cons, RP_if, RP_and, RP_or, RP_not, RP_B, RP_qt, RP_perm, RP_pn, RP_ps, RP_sl, RP_call, RP_src2, SrcP_l, SrcP_t, SrcP_pl, SrcP_row, SrcP_tab, RP_r1, RP_r2, RP_en2, EnP_l, EnP_row, EnP_tab, LsP_l, LsP_pl, RP_lc, RP_yes, RP_pop, RP_lr, RP_fl, RP_dct1, RP_asL,  SP_nx, SP_seq, SP_drop, SP_ret, SP_set, SP_if, SP_sub, SP_sub2, SP_app, SP_app2, SP_tgt, SP_par, SP_parO, SP_str, SP_uT, SP_uN, SP_uC, SP_uS, SP_subK, SP_for, FP_fn, OP_gT, OP_gC, OP_gE, OP_some, OP_map, OP_add, OP_sub, OP_mul, OP_fdiv, OP_fmod, OP_pow, OP_neg, OP_lt, OP_le, OP_gt, OP_ge, OP_eqi, OP_nei, OP_bits, OP_int, OP_intb, OP_tup, OP_lst, OP_lenl, OP_lent, OP_lenf, OP_abs, OP_max2, OP_min2, OP_gcd, OP_ixl, OP_ixt, OP_ixf, OP_cat, OP_rep, OP_subb, OP_gN, OP_eqs, OP_eq00, OP_ne00, OP_dct1, OP_nepl, OP_eqpl, OP_isLp, OP_pop0, OP_apppl, OP_lenpl, OP_lentab, OP_inpl, OP_ninpl, OP_indk, OP_nindk, OP_setK, BQ_b, BP_t, BP_f, BP_d, BP_n, BP_eq, ↓reduceIte, Option.map_some, is_non_np, is_non_ng, is_non_tp, is_non_tg, is_non_fp, is_non_fg, is_bl_np, is_bl_ng, is_bl_tp, is_bl_tg, is_bl_fp, is_bl_fg, is_int_np, is_int_ng, is_int_tp, is_int_tg, is_int_fp, is_int_fg, is_str_np, is_str_ng, is_str_tp, is_str_tg, is_str_fp, is_str_fg, is_lst_np, is_lst_ng, is_lst_tp, is_lst_tg, is_lst_fp, is_lst_fg, is_tup_np, is_tup_ng, is_tup_tp, is_tup_tg, is_tup_fp, is_tup_fg, isi_non_int, isi_non_bool, isi_non_list, isi_non_tuple, isi_non_str, isi_non_dict, isi_non_lt, isi_bl_int, isi_bl_bool, isi_bl_list, isi_bl_tuple, isi_bl_str, isi_bl_dict, isi_bl_lt, isi_int_int, isi_int_bool, isi_int_list, isi_int_tuple, isi_int_str, isi_int_dict, isi_int_lt, isi_str_int, isi_str_bool, isi_str_list, isi_str_tuple, isi_str_str, isi_str_dict, isi_str_lt, isi_lst_int, isi_lst_bool, isi_lst_list, isi_lst_tuple, isi_lst_str, isi_lst_dict, isi_lst_lt, isi_tup_int, isi_tup_bool, isi_tup_list, isi_tup_tuple, isi_tup_str, isi_tup_dict, isi_tup_lt,  at0, at1, at2, at3, set0, set1, set2, setD_l, fillIO, putIO, ioN, permO, wpE_n, wpE_c, rst_n, rst_c, isFl, List.map_cons, List.map_nil, List.cons_append, List.nil_append, List.append_nil, List.replicate_succ, List.replicate_zero, Nat.reduceSub, Nat.reduceAdd, List.getElem?_cons_zero, List.getElem?_cons_succ, List.getD_cons_zero, List.getD_cons_succ, List.set_cons_zero, List.set_cons_succ, List.length_cons, List.length_nil, List.map_append])
  rw [h.len]
  refine sp_chkLot hr (by omega) h2 (by omega) fun e => ?_
  (try simp only [RP_varm, RP_holem, RP_c, RP_1, RP_2, RP_3, RP_f, RP_nil, RP_cons, RP_if, RP_and, RP_or, RP_not, RP_B, RP_qt, RP_perm, RP_pn, RP_ps, RP_sl, RP_call, RP_src2, SrcP_l, SrcP_t, SrcP_pl, SrcP_row, SrcP_tab, RP_r1, RP_r2, RP_en2, EnP_l, EnP_row, EnP_tab, LsP_l, LsP_pl, RP_lc, RP_yes, RP_pop, RP_lr, RP_fl, RP_dct1, RP_asL,  SP_nx, SP_seq, SP_drop, SP_ret, SP_set, SP_if, SP_sub, SP_sub2, SP_app, SP_app2, SP_tgt, SP_par, SP_parO, SP_str, SP_uT, SP_uN, SP_uC, SP_uS, SP_subK, SP_for, FP_fn, OP_gT, OP_gC, OP_gE, OP_some, OP_map, OP_add, OP_sub, OP_mul, OP_fdiv, OP_fmod, OP_pow, OP_neg, OP_lt, OP_le, OP_gt, OP_ge, OP_eqi, OP_nei, OP_bits, OP_int, OP_intb, OP_tup, OP_lst, OP_lenl, OP_lent, OP_lenf, OP_abs, OP_max2, OP_min2, OP_gcd, OP_ixl, OP_ixt, OP_ixf, OP_cat, OP_rep, OP_subb, OP_gN, OP_eqs, OP_eq00, OP_ne00, OP_dct1, OP_nepl, OP_eqpl, OP_isLp, OP_pop0, OP_apppl, OP_lenpl, OP_lentab, OP_inpl, OP_ninpl, OP_indk, OP_nindk, OP_setK, BQ_b, BP_t, BP_f, BP_d, BP_n, BP_eq, ↓reduceIte, Option.map_some, is_non_np, is_non_ng, is_non_tp, is_non_tg, is_non_fp, is_non_fg, is_bl_np, is_bl_ng, is_bl_tp, is_bl_tg, is_bl_fp, is_bl_fg, is_int_np, is_int_ng, is_int_tp, is_int_tg, is_int_fp, is_int_fg, is_str_np, is_str_ng, is_str_tp, is_str_tg, is_str_fp, is_str_fg, is_lst_np, is_lst_ng, is_lst_tp, is_lst_tg, is_lst_fp, is_lst_fg, is_tup_np, is_tup_ng, is_tup_tp, is_tup_tg, is_tup_fp, is_tup_fg, isi_non_int, isi_non_bool, isi_non_list, isi_non_tuple, isi_non_str, isi_non_dict, isi_non_lt, isi_bl_int, isi_bl_bool, isi_bl_list, isi_bl_tuple, isi_bl_str, isi_bl_dict, isi_bl_lt, isi_int_int, isi_int_bool, isi_int_list, isi_int_tuple, isi_int_str, isi_int_dict, isi_int_lt, isi_str_int, isi_str_bool, isi_str_list, isi_str_tuple, isi_str_str, isi_str_dict, isi_str_lt, isi_lst_int, isi_lst_bool, isi_lst_list, isi_lst_tuple, isi_lst_str, isi_lst_dict, isi_lst_lt, isi_tup_int, isi_tup_bool, isi_tup_list, isi_tup_tuple, isi_tup_str, isi_tup_dict, isi_tup_lt,  at0, at1, at2, at3, set0, set1, set2, setD_l, fillIO, putIO, ioN, permO, wpE_n, wpE_c, rst_n, rst_c, isFl, List.map_cons, List.map_nil, List.cons_append, List.nil_append, List.append_nil, List.replicate_succ, List.replicate_zero, Nat.reduceSub, Nat.reduceAdd, List.getElem?_cons_zero, List.getElem?_cons_succ, List.getD_cons_zero, List.getD_cons_succ, List.set_cons_zero, List.set_cons_succ, List.length_cons, List.length_nil, List.map_append])
  refine ⟨fun z => absurd z (by omega), fun _ => ?_⟩
  refine sp_cutto h.sq hr.1 (by omega) fun e => ?_
  (try simp only [RP_varm, RP_holem, RP_c, RP_1, RP_2, RP_3, RP_f, RP_nil, RP_cons, RP_if, RP_and, RP_or, RP_not, RP_B, RP_qt, RP_perm, RP_pn, RP_ps, RP_sl, RP_call, RP_src2, SrcP_l, SrcP_t, SrcP_pl, SrcP_row, SrcP_tab, RP_r1, RP_r2, RP_en2, EnP_l, EnP_row, EnP_tab, LsP_l, LsP_pl, RP_lc, RP_yes, RP_pop, RP_lr, RP_fl, RP_dct1, RP_asL,  SP_nx, SP_seq, SP_drop, SP_ret, SP_set, SP_if, SP_sub, SP_sub2, SP_app, SP_app2, SP_tgt, SP_par, SP_parO, SP_str, SP_uT, SP_uN, SP_uC, SP_uS, SP_subK, SP_for, FP_fn, OP_gT, OP_gC, OP_gE, OP_some, OP_map, OP_add, OP_sub, OP_mul, OP_fdiv, OP_fmod, OP_pow, OP_neg, OP_lt, OP_le, OP_gt, OP_ge, OP_eqi, OP_nei, OP_bits, OP_int, OP_intb, OP_tup, OP_lst, OP_lenl, OP_lent, OP_lenf, OP_abs, OP_max2, OP_min2, OP_gcd, OP_ixl, OP_ixt, OP_ixf, OP_cat, OP_rep, OP_subb, OP_gN, OP_eqs, OP_eq00, OP_ne00, OP_dct1, OP_nepl, OP_eqpl, OP_isLp, OP_pop0, OP_apppl, OP_lenpl, OP_lentab, OP_inpl, OP_ninpl, OP_indk, OP_nindk, OP_setK, BQ_b, BP_t, BP_f, BP_d, BP_n, BP_eq, ↓reduceIte, Option.map_some, is_non_np, is_non_ng, is_non_tp, is_non_tg, is_non_fp, is_non_fg, is_bl_np, is_bl_ng, is_bl_tp, is_bl_tg, is_bl_fp, is_bl_fg, is_int_np, is_int_ng, is_int_tp, is_int_tg, is_int_fp, is_int_fg, is_str_np, is_str_ng, is_str_tp, is_str_tg, is_str_fp, is_str_fg, is_lst_np, is_lst_ng, is_lst_tp, is_lst_tg, is_lst_fp, is_lst_fg, is_tup_np, is_tup_ng, is_tup_tp, is_tup_tg, is_tup_fp, is_tup_fg, isi_non_int, isi_non_bool, isi_non_list, isi_non_tuple, isi_non_str, isi_non_dict, isi_non_lt, isi_bl_int, isi_bl_bool, isi_bl_list, isi_bl_tuple, isi_bl_str, isi_bl_dict, isi_bl_lt, isi_int_int, isi_int_bool, isi_int_list, isi_int_tuple, isi_int_str, isi_int_dict, isi_int_lt, isi_str_int, isi_str_bool, isi_str_list, isi_str_tuple, isi_str_str, isi_str_dict, isi_str_lt, isi_lst_int, isi_lst_bool, isi_lst_list, isi_lst_tuple, isi_lst_str, isi_lst_dict, isi_lst_lt, isi_tup_int, isi_tup_bool, isi_tup_list, isi_tup_tuple, isi_tup_str, isi_tup_dict, isi_tup_lt,  at0, at1, at2, at3, set0, set1, set2, setD_l, fillIO, putIO, ioN, permO, wpE_n, wpE_c, rst_n, rst_c, isFl, List.map_cons, List.map_nil, List.cons_append, List.nil_append, List.append_nil, List.replicate_succ, List.replicate_zero, Nat.reduceSub, Nat.reduceAdd, List.getElem?_cons_zero, List.getElem?_cons_succ, List.getD_cons_zero, List.getD_cons_succ, List.set_cons_zero, List.set_cons_succ, List.length_cons, List.length_nil, List.map_append])
  exact q _
end
theorem ok_row {k : Nat} {r : List Int} (h : r.length ≤ lim) : okSame (k + 2) (rowD r) := ⟨by rw [List.length_map]; exact h, fun d hd => by
  obtain ⟨x, _, rfl⟩ := List.mem_map.mp hd
  exact trivial⟩
theorem ok_tab {k : Nat} {T : List (List Int)} (h : T.length ≤ lim) (hr : ∀ r ∈ T, r.length ≤ lim) : okSame (k + 3) (tabD T) := ⟨by rw [List.length_map]; exact h, fun d hd => by
  obtain ⟨r, hm, rfl⟩ := List.mem_map.mp hd
  exact ok_row (hr r hm)⟩
theorem ok_str {k : Nat} {x : Str} : okSame (k + 1) (.str x) := trivial
theorem Ris.of {n : Nat} {l : List Nat} (h : ∀ x ∈ l, x < n) (hp : l.Pairwise (· < ·)) : Ris n l := ⟨h, fun i hi => by
  rw [List.getD_eq_getElem?_getD, List.getD_eq_getElem?_getD, List.getElem?_eq_getElem (by omega : i < l.length), List.getElem?_eq_getElem hi]
  exact List.pairwise_iff_getElem.mp hp i (i + 1) (by omega) hi (by omega)⟩
theorem sp_case {ns : List Int} {k : Nat} {Q : D → Sl → Prop} (hk : k ≤ 1) (q : ∀ e, Q (.bl true) e) : FP (m_law_case_right [.fro (ns.map .int), .int (k : Int)]) Q := by
  unfold m_law_case_right b_law_case_right
  rw [FP_fn]
  simp only [List.map_cons, List.map_nil, List.cons_append, List.nil_append, List.append_nil, Nat.reduceSub, List.replicate_succ, List.replicate_zero]
  refine SP_seqI fun N hN => ?_
  (try simp only [RP_varm, RP_holem, RP_c, RP_1, RP_2, RP_3, RP_f, RP_nil, RP_cons, RP_if, RP_and, RP_or, RP_not, RP_B, RP_qt, RP_perm, RP_pn, RP_ps, RP_sl, RP_call, RP_src2, SrcP_l, SrcP_t, SrcP_pl, SrcP_row, SrcP_tab, RP_r1, RP_r2, RP_en2, EnP_l, EnP_row, EnP_tab, LsP_l, LsP_pl, RP_lc, RP_yes, RP_pop, RP_lr, RP_fl, RP_dct1, RP_asL,  SP_nx, SP_seq, SP_drop, SP_ret, SP_set, SP_if, SP_sub, SP_sub2, SP_app, SP_app2, SP_tgt, SP_par, SP_parO, SP_str, SP_uT, SP_uN, SP_uC, SP_uS, SP_subK, SP_for, FP_fn, OP_gT, OP_gC, OP_gE, OP_some, OP_map, OP_add, OP_sub, OP_mul, OP_fdiv, OP_fmod, OP_pow, OP_neg, OP_lt, OP_le, OP_gt, OP_ge, OP_eqi, OP_nei, OP_bits, OP_int, OP_intb, OP_tup, OP_lst, OP_lenl, OP_lent, OP_lenf, OP_abs, OP_max2, OP_min2, OP_gcd, OP_ixl, OP_ixt, OP_ixf, OP_cat, OP_rep, OP_subb, OP_gN, OP_eqs, OP_eq00, OP_ne00, OP_dct1, OP_nepl, OP_eqpl, OP_isLp, OP_pop0, OP_apppl, OP_lenpl, OP_lentab, OP_inpl, OP_ninpl, OP_indk, OP_nindk, OP_setK, BQ_b, BP_t, BP_f, BP_d, BP_n, BP_eq, ↓reduceIte, Option.map_some, is_non_np, is_non_ng, is_non_tp, is_non_tg, is_non_fp, is_non_fg, is_bl_np, is_bl_ng, is_bl_tp, is_bl_tg, is_bl_fp, is_bl_fg, is_int_np, is_int_ng, is_int_tp, is_int_tg, is_int_fp, is_int_fg, is_str_np, is_str_ng, is_str_tp, is_str_tg, is_str_fp, is_str_fg, is_lst_np, is_lst_ng, is_lst_tp, is_lst_tg, is_lst_fp, is_lst_fg, is_tup_np, is_tup_ng, is_tup_tp, is_tup_tg, is_tup_fp, is_tup_fg, isi_non_int, isi_non_bool, isi_non_list, isi_non_tuple, isi_non_str, isi_non_dict, isi_non_lt, isi_bl_int, isi_bl_bool, isi_bl_list, isi_bl_tuple, isi_bl_str, isi_bl_dict, isi_bl_lt, isi_int_int, isi_int_bool, isi_int_list, isi_int_tuple, isi_int_str, isi_int_dict, isi_int_lt, isi_str_int, isi_str_bool, isi_str_list, isi_str_tuple, isi_str_str, isi_str_dict, isi_str_lt, isi_lst_int, isi_lst_bool, isi_lst_list, isi_lst_tuple, isi_lst_str, isi_lst_dict, isi_lst_lt, isi_tup_int, isi_tup_bool, isi_tup_list, isi_tup_tuple, isi_tup_str, isi_tup_dict, isi_tup_lt,  at0, at1, at2, at3, set0, set1, set2, setD_l, fillIO, putIO, ioN, permO, wpE_n, wpE_c, rst_n, rst_c, isFl, List.map_cons, List.map_nil, List.cons_append, List.nil_append, List.append_nil, List.replicate_succ, List.replicate_zero, Nat.reduceSub, Nat.reduceAdd, List.getElem?_cons_zero, List.getElem?_cons_succ, List.getD_cons_zero, List.getD_cons_succ, List.set_cons_zero, List.set_cons_succ, List.length_cons, List.length_nil, List.map_append])
  refine sp_generator (by omega) fun g e hg => ?_
  (try simp only [RP_varm, RP_holem, RP_c, RP_1, RP_2, RP_3, RP_f, RP_nil, RP_cons, RP_if, RP_and, RP_or, RP_not, RP_B, RP_qt, RP_perm, RP_pn, RP_ps, RP_sl, RP_call, RP_src2, SrcP_l, SrcP_t, SrcP_pl, SrcP_row, SrcP_tab, RP_r1, RP_r2, RP_en2, EnP_l, EnP_row, EnP_tab, LsP_l, LsP_pl, RP_lc, RP_yes, RP_pop, RP_lr, RP_fl, RP_dct1, RP_asL,  SP_nx, SP_seq, SP_drop, SP_ret, SP_set, SP_if, SP_sub, SP_sub2, SP_app, SP_app2, SP_tgt, SP_par, SP_parO, SP_str, SP_uT, SP_uN, SP_uC, SP_uS, SP_subK, SP_for, FP_fn, OP_gT, OP_gC, OP_gE, OP_some, OP_map, OP_add, OP_sub, OP_mul, OP_fdiv, OP_fmod, OP_pow, OP_neg, OP_lt, OP_le, OP_gt, OP_ge, OP_eqi, OP_nei, OP_bits, OP_int, OP_intb, OP_tup, OP_lst, OP_lenl, OP_lent, OP_lenf, OP_abs, OP_max2, OP_min2, OP_gcd, OP_ixl, OP_ixt, OP_ixf, OP_cat, OP_rep, OP_subb, OP_gN, OP_eqs, OP_eq00, OP_ne00, OP_dct1, OP_nepl, OP_eqpl, OP_isLp, OP_pop0, OP_apppl, OP_lenpl, OP_lentab, OP_inpl, OP_ninpl, OP_indk, OP_nindk, OP_setK, BQ_b, BP_t, BP_f, BP_d, BP_n, BP_eq, ↓reduceIte, Option.map_some, is_non_np, is_non_ng, is_non_tp, is_non_tg, is_non_fp, is_non_fg, is_bl_np, is_bl_ng, is_bl_tp, is_bl_tg, is_bl_fp, is_bl_fg, is_int_np, is_int_ng, is_int_tp, is_int_tg, is_int_fp, is_int_fg, is_str_np, is_str_ng, is_str_tp, is_str_tg, is_str_fp, is_str_fg, is_lst_np, is_lst_ng, is_lst_tp, is_lst_tg, is_lst_fp, is_lst_fg, is_tup_np, is_tup_ng, is_tup_tp, is_tup_tg, is_tup_fp, is_tup_fg, isi_non_int, isi_non_bool, isi_non_list, isi_non_tuple, isi_non_str, isi_non_dict, isi_non_lt, isi_bl_int, isi_bl_bool, isi_bl_list, isi_bl_tuple, isi_bl_str, isi_bl_dict, isi_bl_lt, isi_int_int, isi_int_bool, isi_int_list, isi_int_tuple, isi_int_str, isi_int_dict, isi_int_lt, isi_str_int, isi_str_bool, isi_str_list, isi_str_tuple, isi_str_str, isi_str_dict, isi_str_lt, isi_lst_int, isi_lst_bool, isi_lst_list, isi_lst_tuple, isi_lst_str, isi_lst_dict, isi_lst_lt, isi_tup_int, isi_tup_bool, isi_tup_list, isi_tup_tuple, isi_tup_str, isi_tup_dict, isi_tup_lt,  at0, at1, at2, at3, set0, set1, set2, setD_l, fillIO, putIO, ioN, permO, wpE_n, wpE_c, rst_n, rst_c, isFl, List.map_cons, List.map_nil, List.cons_append, List.nil_append, List.append_nil, List.replicate_succ, List.replicate_zero, Nat.reduceSub, Nat.reduceAdd, List.getElem?_cons_zero, List.getElem?_cons_succ, List.getD_cons_zero, List.getD_cons_succ, List.set_cons_zero, List.set_cons_succ, List.length_cons, List.length_nil, List.map_append])
  refine hN _ ?_
  clear hN
  -- size
  refine SP_seqI fun N hN => ?_
  (try simp only [RP_varm, RP_holem, RP_c, RP_1, RP_2, RP_3, RP_f, RP_nil, RP_cons, RP_if, RP_and, RP_or, RP_not, RP_B, RP_qt, RP_perm, RP_pn, RP_ps, RP_sl, RP_call, RP_src2, SrcP_l, SrcP_t, SrcP_pl, SrcP_row, SrcP_tab, RP_r1, RP_r2, RP_en2, EnP_l, EnP_row, EnP_tab, LsP_l, LsP_pl, RP_lc, RP_yes, RP_pop, RP_lr, RP_fl, RP_dct1, RP_asL,  SP_nx, SP_seq, SP_drop, SP_ret, SP_set, SP_if, SP_sub, SP_sub2, SP_app, SP_app2, SP_tgt, SP_par, SP_parO, SP_str, SP_uT, SP_uN, SP_uC, SP_uS, SP_subK, SP_for, FP_fn, OP_gT, OP_gC, OP_gE, OP_some, OP_map, OP_add, OP_sub, OP_mul, OP_fdiv, OP_fmod, OP_pow, OP_neg, OP_lt, OP_le, OP_gt, OP_ge, OP_eqi, OP_nei, OP_bits, OP_int, OP_intb, OP_tup, OP_lst, OP_lenl, OP_lent, OP_lenf, OP_abs, OP_max2, OP_min2, OP_gcd, OP_ixl, OP_ixt, OP_ixf, OP_cat, OP_rep, OP_subb, OP_gN, OP_eqs, OP_eq00, OP_ne00, OP_dct1, OP_nepl, OP_eqpl, OP_isLp, OP_pop0, OP_apppl, OP_lenpl, OP_lentab, OP_inpl, OP_ninpl, OP_indk, OP_nindk, OP_setK, BQ_b, BP_t, BP_f, BP_d, BP_n, BP_eq, ↓reduceIte, Option.map_some, is_non_np, is_non_ng, is_non_tp, is_non_tg, is_non_fp, is_non_fg, is_bl_np, is_bl_ng, is_bl_tp, is_bl_tg, is_bl_fp, is_bl_fg, is_int_np, is_int_ng, is_int_tp, is_int_tg, is_int_fp, is_int_fg, is_str_np, is_str_ng, is_str_tp, is_str_tg, is_str_fp, is_str_fg, is_lst_np, is_lst_ng, is_lst_tp, is_lst_tg, is_lst_fp, is_lst_fg, is_tup_np, is_tup_ng, is_tup_tp, is_tup_tg, is_tup_fp, is_tup_fg, isi_non_int, isi_non_bool, isi_non_list, isi_non_tuple, isi_non_str, isi_non_dict, isi_non_lt, isi_bl_int, isi_bl_bool, isi_bl_list, isi_bl_tuple, isi_bl_str, isi_bl_dict, isi_bl_lt, isi_int_int, isi_int_bool, isi_int_list, isi_int_tuple, isi_int_str, isi_int_dict, isi_int_lt, isi_str_int, isi_str_bool, isi_str_list, isi_str_tuple, isi_str_str, isi_str_dict, isi_str_lt, isi_lst_int, isi_lst_bool, isi_lst_list, isi_lst_tuple, isi_lst_str, isi_lst_dict, isi_lst_lt, isi_tup_int, isi_tup_bool, isi_tup_list, isi_tup_tuple, isi_tup_str, isi_tup_dict, isi_tup_lt,  at0, at1, at2, at3, set0, set1, set2, setD_l, fillIO, putIO, ioN, permO, wpE_n, wpE_c, rst_n, rst_c, isFl, List.map_cons, List.map_nil, List.cons_append, List.nil_append, List.append_nil, List.replicate_succ, List.replicate_zero, Nat.reduceSub, Nat.reduceAdd, List.getElem?_cons_zero, List.getElem?_cons_succ, List.getD_cons_zero, List.getD_cons_succ, List.set_cons_zero, List.set_cons_succ, List.length_cons, List.length_nil, List.map_append])
  have hb : ∃ b : Int, atI [D.int 10, D.int 3] (k : Int) = some (.int b) ∧ 0 < b ∧ b ≤ 10 := by
    have : k = 0 ∨ k = 1 := by omega
    rcases this with rfl | rfl
    · exact ⟨10, at0, by decide, by decide⟩
    · exact ⟨3, at1, by decide, by decide⟩
  obtain ⟨b, hb, b0, b1⟩ := hb
  refine ⟨by decide, ?_⟩
  rw [hb, OP_some]
  refine sp_random hg (by decide) b0 (by unfold Bd; exact Nat.lt_of_le_of_lt (show b.natAbs ≤ 2 ^ 4 by omega) (Nat.pow_lt_pow_right (by decide) (by decide))) fun r g1 e r0 r1 hg1 he => ?_
  simp only [he]
  (try simp only [RP_varm, RP_holem, RP_c, RP_1, RP_2, RP_3, RP_f, RP_nil, RP_cons, RP_if, RP_and, RP_or, RP_not, RP_B, RP_qt, RP_perm, RP_pn, RP_ps, RP_sl, RP_call, RP_src2, SrcP_l, SrcP_t, SrcP_pl, SrcP_row, SrcP_tab, RP_r1, RP_r2, RP_en2, EnP_l, EnP_row, EnP_tab, LsP_l, LsP_pl, RP_lc, RP_yes, RP_pop, RP_lr, RP_fl, RP_dct1, RP_asL,  SP_nx, SP_seq, SP_drop, SP_ret, SP_set, SP_if, SP_sub, SP_sub2, SP_app, SP_app2, SP_tgt, SP_par, SP_parO, SP_str, SP_uT, SP_uN, SP_uC, SP_uS, SP_subK, SP_for, FP_fn, OP_gT, OP_gC, OP_gE, OP_some, OP_map, OP_add, OP_sub, OP_mul, OP_fdiv, OP_fmod, OP_pow, OP_neg, OP_lt, OP_le, OP_gt, OP_ge, OP_eqi, OP_nei, OP_bits, OP_int, OP_intb, OP_tup, OP_lst, OP_lenl, OP_lent, OP_lenf, OP_abs, OP_max2, OP_min2, OP_gcd, OP_ixl, OP_ixt, OP_ixf, OP_cat, OP_rep, OP_subb, OP_gN, OP_eqs, OP_eq00, OP_ne00, OP_dct1, OP_nepl, OP_eqpl, OP_isLp, OP_pop0, OP_apppl, OP_lenpl, OP_lentab, OP_inpl, OP_ninpl, OP_indk, OP_nindk, OP_setK, BQ_b, BP_t, BP_f, BP_d, BP_n, BP_eq, ↓reduceIte, Option.map_some, is_non_np, is_non_ng, is_non_tp, is_non_tg, is_non_fp, is_non_fg, is_bl_np, is_bl_ng, is_bl_tp, is_bl_tg, is_bl_fp, is_bl_fg, is_int_np, is_int_ng, is_int_tp, is_int_tg, is_int_fp, is_int_fg, is_str_np, is_str_ng, is_str_tp, is_str_tg, is_str_fp, is_str_fg, is_lst_np, is_lst_ng, is_lst_tp, is_lst_tg, is_lst_fp, is_lst_fg, is_tup_np, is_tup_ng, is_tup_tp, is_tup_tg, is_tup_fp, is_tup_fg, isi_non_int, isi_non_bool, isi_non_list, isi_non_tuple, isi_non_str, isi_non_dict, isi_non_lt, isi_bl_int, isi_bl_bool, isi_bl_list, isi_bl_tuple, isi_bl_str, isi_bl_dict, isi_bl_lt, isi_int_int, isi_int_bool, isi_int_list, isi_int_tuple, isi_int_str, isi_int_dict, isi_int_lt, isi_str_int, isi_str_bool, isi_str_list, isi_str_tuple, isi_str_str, isi_str_dict, isi_str_lt, isi_lst_int, isi_lst_bool, isi_lst_list, isi_lst_tuple, isi_lst_str, isi_lst_dict, isi_lst_lt, isi_tup_int, isi_tup_bool, isi_tup_list, isi_tup_tuple, isi_tup_str, isi_tup_dict, isi_tup_lt,  at0, at1, at2, at3, set0, set1, set2, setD_l, fillIO, putIO, ioN, permO, wpE_n, wpE_c, rst_n, rst_c, isFl, List.map_cons, List.map_nil, List.cons_append, List.nil_append, List.append_nil, List.replicate_succ, List.replicate_zero, Nat.reduceSub, Nat.reduceAdd, List.getElem?_cons_zero, List.getElem?_cons_succ, List.getD_cons_zero, List.getD_cons_succ, List.set_cons_zero, List.set_cons_succ, List.length_cons, List.length_nil, List.map_append])
  obtain ⟨n, hn⟩ : ∃ n : Nat, 3 + r = n := ⟨(3 + r).toNat, by omega⟩
  rw [hn]
  refine hN _ ?_
  have n3 : 3 ≤ n := by omega
  have n12 : n ≤ 12 := by omega
  clear hN he e hb hn r0 r1 r
  -- table
  refine SP_seqI fun N hN => ?_
  (try simp only [RP_varm, RP_holem, RP_c, RP_1, RP_2, RP_3, RP_f, RP_nil, RP_cons, RP_if, RP_and, RP_or, RP_not, RP_B, RP_qt, RP_perm, RP_pn, RP_ps, RP_sl, RP_call, RP_src2, SrcP_l, SrcP_t, SrcP_pl, SrcP_row, SrcP_tab, RP_r1, RP_r2, RP_en2, EnP_l, EnP_row, EnP_tab, LsP_l, LsP_pl, RP_lc, RP_yes, RP_pop, RP_lr, RP_fl, RP_dct1, RP_asL,  SP_nx, SP_seq, SP_drop, SP_ret, SP_set, SP_if, SP_sub, SP_sub2, SP_app, SP_app2, SP_tgt, SP_par, SP_parO, SP_str, SP_uT, SP_uN, SP_uC, SP_uS, SP_subK, SP_for, FP_fn, OP_gT, OP_gC, OP_gE, OP_some, OP_map, OP_add, OP_sub, OP_mul, OP_fdiv, OP_fmod, OP_pow, OP_neg, OP_lt, OP_le, OP_gt, OP_ge, OP_eqi, OP_nei, OP_bits, OP_int, OP_intb, OP_tup, OP_lst, OP_lenl, OP_lent, OP_lenf, OP_abs, OP_max2, OP_min2, OP_gcd, OP_ixl, OP_ixt, OP_ixf, OP_cat, OP_rep, OP_subb, OP_gN, OP_eqs, OP_eq00, OP_ne00, OP_dct1, OP_nepl, OP_eqpl, OP_isLp, OP_pop0, OP_apppl, OP_lenpl, OP_lentab, OP_inpl, OP_ninpl, OP_indk, OP_nindk, OP_setK, BQ_b, BP_t, BP_f, BP_d, BP_n, BP_eq, ↓reduceIte, Option.map_some, is_non_np, is_non_ng, is_non_tp, is_non_tg, is_non_fp, is_non_fg, is_bl_np, is_bl_ng, is_bl_tp, is_bl_tg, is_bl_fp, is_bl_fg, is_int_np, is_int_ng, is_int_tp, is_int_tg, is_int_fp, is_int_fg, is_str_np, is_str_ng, is_str_tp, is_str_tg, is_str_fp, is_str_fg, is_lst_np, is_lst_ng, is_lst_tp, is_lst_tg, is_lst_fp, is_lst_fg, is_tup_np, is_tup_ng, is_tup_tp, is_tup_tg, is_tup_fp, is_tup_fg, isi_non_int, isi_non_bool, isi_non_list, isi_non_tuple, isi_non_str, isi_non_dict, isi_non_lt, isi_bl_int, isi_bl_bool, isi_bl_list, isi_bl_tuple, isi_bl_str, isi_bl_dict, isi_bl_lt, isi_int_int, isi_int_bool, isi_int_list, isi_int_tuple, isi_int_str, isi_int_dict, isi_int_lt, isi_str_int, isi_str_bool, isi_str_list, isi_str_tuple, isi_str_str, isi_str_dict, isi_str_lt, isi_lst_int, isi_lst_bool, isi_lst_list, isi_lst_tuple, isi_lst_str, isi_lst_dict, isi_lst_lt, isi_tup_int, isi_tup_bool, isi_tup_list, isi_tup_tuple, isi_tup_str, isi_tup_dict, isi_tup_lt,  at0, at1, at2, at3, set0, set1, set2, setD_l, fillIO, putIO, ioN, permO, wpE_n, wpE_c, rst_n, rst_c, isFl, List.map_cons, List.map_nil, List.cons_append, List.nil_append, List.append_nil, List.replicate_succ, List.replicate_zero, Nat.reduceSub, Nat.reduceAdd, List.getElem?_cons_zero, List.getElem?_cons_succ, List.getD_cons_zero, List.getD_cons_succ, List.set_cons_zero, List.set_cons_succ, List.length_cons, List.length_nil, List.map_append])
  refine ⟨by decide, sp_pick hg1 (by decide) (by simp) (by simp) fun i d g2 e hi hg2 he => ?_⟩
  have hd : ∃ s : Int, d = .int s ∧ 1 ≤ s ∧ s ≤ 8 := by
    rcases i with _ | _ | _ | _ | i
    · cases hi; exact ⟨_, rfl, by decide, by decide⟩
    · cases hi; exact ⟨_, rfl, by decide, by decide⟩
    · cases hi; exact ⟨_, rfl, by decide, by decide⟩
    · cases hi; exact ⟨_, rfl, by decide, by decide⟩
    · simp at hi
  obtain ⟨s, rfl, s1, s2⟩ := hd
  simp only [he]
  (try simp only [RP_varm, RP_holem, RP_c, RP_1, RP_2, RP_3, RP_f, RP_nil, RP_cons, RP_if, RP_and, RP_or, RP_not, RP_B, RP_qt, RP_perm, RP_pn, RP_ps, RP_sl, RP_call, RP_src2, SrcP_l, SrcP_t, SrcP_pl, SrcP_row, SrcP_tab, RP_r1, RP_r2, RP_en2, EnP_l, EnP_row, EnP_tab, LsP_l, LsP_pl, RP_lc, RP_yes, RP_pop, RP_lr, RP_fl, RP_dct1, RP_asL,  SP_nx, SP_seq, SP_drop, SP_ret, SP_set, SP_if, SP_sub, SP_sub2, SP_app, SP_app2, SP_tgt, SP_par, SP_parO, SP_str, SP_uT, SP_uN, SP_uC, SP_uS, SP_subK, SP_for, FP_fn, OP_gT, OP_gC, OP_gE, OP_some, OP_map, OP_add, OP_sub, OP_mul, OP_fdiv, OP_fmod, OP_pow, OP_neg, OP_lt, OP_le, OP_gt, OP_ge, OP_eqi, OP_nei, OP_bits, OP_int, OP_intb, OP_tup, OP_lst, OP_lenl, OP_lent, OP_lenf, OP_abs, OP_max2, OP_min2, OP_gcd, OP_ixl, OP_ixt, OP_ixf, OP_cat, OP_rep, OP_subb, OP_gN, OP_eqs, OP_eq00, OP_ne00, OP_dct1, OP_nepl, OP_eqpl, OP_isLp, OP_pop0, OP_apppl, OP_lenpl, OP_lentab, OP_inpl, OP_ninpl, OP_indk, OP_nindk, OP_setK, BQ_b, BP_t, BP_f, BP_d, BP_n, BP_eq, ↓reduceIte, Option.map_some, is_non_np, is_non_ng, is_non_tp, is_non_tg, is_non_fp, is_non_fg, is_bl_np, is_bl_ng, is_bl_tp, is_bl_tg, is_bl_fp, is_bl_fg, is_int_np, is_int_ng, is_int_tp, is_int_tg, is_int_fp, is_int_fg, is_str_np, is_str_ng, is_str_tp, is_str_tg, is_str_fp, is_str_fg, is_lst_np, is_lst_ng, is_lst_tp, is_lst_tg, is_lst_fp, is_lst_fg, is_tup_np, is_tup_ng, is_tup_tp, is_tup_tg, is_tup_fp, is_tup_fg, isi_non_int, isi_non_bool, isi_non_list, isi_non_tuple, isi_non_str, isi_non_dict, isi_non_lt, isi_bl_int, isi_bl_bool, isi_bl_list, isi_bl_tuple, isi_bl_str, isi_bl_dict, isi_bl_lt, isi_int_int, isi_int_bool, isi_int_list, isi_int_tuple, isi_int_str, isi_int_dict, isi_int_lt, isi_str_int, isi_str_bool, isi_str_list, isi_str_tuple, isi_str_str, isi_str_dict, isi_str_lt, isi_lst_int, isi_lst_bool, isi_lst_list, isi_lst_tuple, isi_lst_str, isi_lst_dict, isi_lst_lt, isi_tup_int, isi_tup_bool, isi_tup_list, isi_tup_tuple, isi_tup_str, isi_tup_dict, isi_tup_lt,  at0, at1, at2, at3, set0, set1, set2, setD_l, fillIO, putIO, ioN, permO, wpE_n, wpE_c, rst_n, rst_c, isFl, List.map_cons, List.map_nil, List.cons_append, List.nil_append, List.append_nil, List.replicate_succ, List.replicate_zero, Nat.reduceSub, Nat.reduceAdd, List.getElem?_cons_zero, List.getElem?_cons_succ, List.getD_cons_zero, List.getD_cons_succ, List.set_cons_zero, List.set_cons_succ, List.length_cons, List.length_nil, List.map_append])
  have h2 : 2 * n * n ≤ 2 * 12 * 12 := Nat.mul_le_mul (Nat.mul_le_mul_left 2 n12) n12
  refine sp_drawn hg2 (by omega) (by omega) (by decide) (by omega) fun T g3 e' hT hg3 he' => ?_
  simp only [he']
  (try simp only [RP_varm, RP_holem, RP_c, RP_1, RP_2, RP_3, RP_f, RP_nil, RP_cons, RP_if, RP_and, RP_or, RP_not, RP_B, RP_qt, RP_perm, RP_pn, RP_ps, RP_sl, RP_call, RP_src2, SrcP_l, SrcP_t, SrcP_pl, SrcP_row, SrcP_tab, RP_r1, RP_r2, RP_en2, EnP_l, EnP_row, EnP_tab, LsP_l, LsP_pl, RP_lc, RP_yes, RP_pop, RP_lr, RP_fl, RP_dct1, RP_asL,  SP_nx, SP_seq, SP_drop, SP_ret, SP_set, SP_if, SP_sub, SP_sub2, SP_app, SP_app2, SP_tgt, SP_par, SP_parO, SP_str, SP_uT, SP_uN, SP_uC, SP_uS, SP_subK, SP_for, FP_fn, OP_gT, OP_gC, OP_gE, OP_some, OP_map, OP_add, OP_sub, OP_mul, OP_fdiv, OP_fmod, OP_pow, OP_neg, OP_lt, OP_le, OP_gt, OP_ge, OP_eqi, OP_nei, OP_bits, OP_int, OP_intb, OP_tup, OP_lst, OP_lenl, OP_lent, OP_lenf, OP_abs, OP_max2, OP_min2, OP_gcd, OP_ixl, OP_ixt, OP_ixf, OP_cat, OP_rep, OP_subb, OP_gN, OP_eqs, OP_eq00, OP_ne00, OP_dct1, OP_nepl, OP_eqpl, OP_isLp, OP_pop0, OP_apppl, OP_lenpl, OP_lentab, OP_inpl, OP_ninpl, OP_indk, OP_nindk, OP_setK, BQ_b, BP_t, BP_f, BP_d, BP_n, BP_eq, ↓reduceIte, Option.map_some, is_non_np, is_non_ng, is_non_tp, is_non_tg, is_non_fp, is_non_fg, is_bl_np, is_bl_ng, is_bl_tp, is_bl_tg, is_bl_fp, is_bl_fg, is_int_np, is_int_ng, is_int_tp, is_int_tg, is_int_fp, is_int_fg, is_str_np, is_str_ng, is_str_tp, is_str_tg, is_str_fp, is_str_fg, is_lst_np, is_lst_ng, is_lst_tp, is_lst_tg, is_lst_fp, is_lst_fg, is_tup_np, is_tup_ng, is_tup_tp, is_tup_tg, is_tup_fp, is_tup_fg, isi_non_int, isi_non_bool, isi_non_list, isi_non_tuple, isi_non_str, isi_non_dict, isi_non_lt, isi_bl_int, isi_bl_bool, isi_bl_list, isi_bl_tuple, isi_bl_str, isi_bl_dict, isi_bl_lt, isi_int_int, isi_int_bool, isi_int_list, isi_int_tuple, isi_int_str, isi_int_dict, isi_int_lt, isi_str_int, isi_str_bool, isi_str_list, isi_str_tuple, isi_str_str, isi_str_dict, isi_str_lt, isi_lst_int, isi_lst_bool, isi_lst_list, isi_lst_tuple, isi_lst_str, isi_lst_dict, isi_lst_lt, isi_tup_int, isi_tup_bool, isi_tup_list, isi_tup_tuple, isi_tup_str, isi_tup_dict, isi_tup_lt,  at0, at1, at2, at3, set0, set1, set2, setD_l, fillIO, putIO, ioN, permO, wpE_n, wpE_c, rst_n, rst_c, isFl, List.map_cons, List.map_nil, List.cons_append, List.nil_append, List.append_nil, List.replicate_succ, List.replicate_zero, Nat.reduceSub, Nat.reduceAdd, List.getElem?_cons_zero, List.getElem?_cons_succ, List.getD_cons_zero, List.getD_cons_succ, List.set_cons_zero, List.set_cons_succ, List.length_cons, List.length_nil, List.map_append])
  refine hN _ ?_
  clear hN he he' e e' hi
  have tab := hT.tab (by omega) (by omega) (by decide)
  have sq := tab.sq
  -- kept
  refine SP_seqI fun N hN => ?_
  obtain ⟨x, hx⟩ := rep_tab (T := T) (by rw [hT.len]; omega) fun r hr => ⟨by rw [(hT.row r hr).1]; omega, fun x hx => by have := (hT.row r hr).2 x hx; omega⟩
  have hrep : ∀ R : D → Prop, R (.str x) → OP (fRepr [tabD T]) R := fun R h => (OP_rep1 hx).mpr h
  (try simp only [RP_varm, RP_holem, RP_c, RP_1, RP_2, RP_3, RP_f, RP_nil, RP_cons, RP_if, RP_and, RP_or, RP_not, RP_B, RP_qt, RP_perm, RP_pn, RP_ps, RP_sl, RP_call, RP_src2, SrcP_l, SrcP_t, SrcP_pl, SrcP_row, SrcP_tab, RP_r1, RP_r2, RP_en2, EnP_l, EnP_row, EnP_tab, LsP_l, LsP_pl, RP_lc, RP_yes, RP_pop, RP_lr, RP_fl, RP_dct1, RP_asL,  SP_nx, SP_seq, SP_drop, SP_ret, SP_set, SP_if, SP_sub, SP_sub2, SP_app, SP_app2, SP_tgt, SP_par, SP_parO, SP_str, SP_uT, SP_uN, SP_uC, SP_uS, SP_subK, SP_for, FP_fn, OP_gT, OP_gC, OP_gE, OP_some, OP_map, OP_add, OP_sub, OP_mul, OP_fdiv, OP_fmod, OP_pow, OP_neg, OP_lt, OP_le, OP_gt, OP_ge, OP_eqi, OP_nei, OP_bits, OP_int, OP_intb, OP_tup, OP_lst, OP_lenl, OP_lent, OP_lenf, OP_abs, OP_max2, OP_min2, OP_gcd, OP_ixl, OP_ixt, OP_ixf, OP_cat, OP_rep, OP_subb, OP_gN, OP_eqs, OP_eq00, OP_ne00, OP_dct1, OP_nepl, OP_eqpl, OP_isLp, OP_pop0, OP_apppl, OP_lenpl, OP_lentab, OP_inpl, OP_ninpl, OP_indk, OP_nindk, OP_setK, BQ_b, BP_t, BP_f, BP_d, BP_n, BP_eq, ↓reduceIte, Option.map_some, is_non_np, is_non_ng, is_non_tp, is_non_tg, is_non_fp, is_non_fg, is_bl_np, is_bl_ng, is_bl_tp, is_bl_tg, is_bl_fp, is_bl_fg, is_int_np, is_int_ng, is_int_tp, is_int_tg, is_int_fp, is_int_fg, is_str_np, is_str_ng, is_str_tp, is_str_tg, is_str_fp, is_str_fg, is_lst_np, is_lst_ng, is_lst_tp, is_lst_tg, is_lst_fp, is_lst_fg, is_tup_np, is_tup_ng, is_tup_tp, is_tup_tg, is_tup_fp, is_tup_fg, isi_non_int, isi_non_bool, isi_non_list, isi_non_tuple, isi_non_str, isi_non_dict, isi_non_lt, isi_bl_int, isi_bl_bool, isi_bl_list, isi_bl_tuple, isi_bl_str, isi_bl_dict, isi_bl_lt, isi_int_int, isi_int_bool, isi_int_list, isi_int_tuple, isi_int_str, isi_int_dict, isi_int_lt, isi_str_int, isi_str_bool, isi_str_list, isi_str_tuple, isi_str_str, isi_str_dict, isi_str_lt, isi_lst_int, isi_lst_bool, isi_lst_list, isi_lst_tuple, isi_lst_str, isi_lst_dict, isi_lst_lt, isi_tup_int, isi_tup_bool, isi_tup_list, isi_tup_tuple, isi_tup_str, isi_tup_dict, isi_tup_lt,  at0, at1, at2, at3, set0, set1, set2, setD_l, fillIO, putIO, ioN, permO, wpE_n, wpE_c, rst_n, rst_c, isFl, List.map_cons, List.map_nil, List.cons_append, List.nil_append, List.append_nil, List.replicate_succ, List.replicate_zero, Nat.reduceSub, Nat.reduceAdd, List.getElem?_cons_zero, List.getElem?_cons_succ, List.getD_cons_zero, List.getD_cons_succ, List.set_cons_zero, List.set_cons_succ, List.length_cons, List.length_nil, List.map_append])
  refine hrep _ (hN _ ?_)
  clear hN
  -- all pairs
  refine SP_seqI fun N hN => ?_
  (try simp only [RP_varm, RP_holem, RP_c, RP_1, RP_2, RP_3, RP_f, RP_nil, RP_cons, RP_if, RP_and, RP_or, RP_not, RP_B, RP_qt, RP_perm, RP_pn, RP_ps, RP_sl, RP_call, RP_src2, SrcP_l, SrcP_t, SrcP_pl, SrcP_row, SrcP_tab, RP_r1, RP_r2, RP_en2, EnP_l, EnP_row, EnP_tab, LsP_l, LsP_pl, RP_lc, RP_yes, RP_pop, RP_lr, RP_fl, RP_dct1, RP_asL,  SP_nx, SP_seq, SP_drop, SP_ret, SP_set, SP_if, SP_sub, SP_sub2, SP_app, SP_app2, SP_tgt, SP_par, SP_parO, SP_str, SP_uT, SP_uN, SP_uC, SP_uS, SP_subK, SP_for, FP_fn, OP_gT, OP_gC, OP_gE, OP_some, OP_map, OP_add, OP_sub, OP_mul, OP_fdiv, OP_fmod, OP_pow, OP_neg, OP_lt, OP_le, OP_gt, OP_ge, OP_eqi, OP_nei, OP_bits, OP_int, OP_intb, OP_tup, OP_lst, OP_lenl, OP_lent, OP_lenf, OP_abs, OP_max2, OP_min2, OP_gcd, OP_ixl, OP_ixt, OP_ixf, OP_cat, OP_rep, OP_subb, OP_gN, OP_eqs, OP_eq00, OP_ne00, OP_dct1, OP_nepl, OP_eqpl, OP_isLp, OP_pop0, OP_apppl, OP_lenpl, OP_lentab, OP_inpl, OP_ninpl, OP_indk, OP_nindk, OP_setK, BQ_b, BP_t, BP_f, BP_d, BP_n, BP_eq, ↓reduceIte, Option.map_some, is_non_np, is_non_ng, is_non_tp, is_non_tg, is_non_fp, is_non_fg, is_bl_np, is_bl_ng, is_bl_tp, is_bl_tg, is_bl_fp, is_bl_fg, is_int_np, is_int_ng, is_int_tp, is_int_tg, is_int_fp, is_int_fg, is_str_np, is_str_ng, is_str_tp, is_str_tg, is_str_fp, is_str_fg, is_lst_np, is_lst_ng, is_lst_tp, is_lst_tg, is_lst_fp, is_lst_fg, is_tup_np, is_tup_ng, is_tup_tp, is_tup_tg, is_tup_fp, is_tup_fg, isi_non_int, isi_non_bool, isi_non_list, isi_non_tuple, isi_non_str, isi_non_dict, isi_non_lt, isi_bl_int, isi_bl_bool, isi_bl_list, isi_bl_tuple, isi_bl_str, isi_bl_dict, isi_bl_lt, isi_int_int, isi_int_bool, isi_int_list, isi_int_tuple, isi_int_str, isi_int_dict, isi_int_lt, isi_str_int, isi_str_bool, isi_str_list, isi_str_tuple, isi_str_str, isi_str_dict, isi_str_lt, isi_lst_int, isi_lst_bool, isi_lst_list, isi_lst_tuple, isi_lst_str, isi_lst_dict, isi_lst_lt, isi_tup_int, isi_tup_bool, isi_tup_list, isi_tup_tuple, isi_tup_str, isi_tup_dict, isi_tup_lt,  at0, at1, at2, at3, set0, set1, set2, setD_l, fillIO, putIO, ioN, permO, wpE_n, wpE_c, rst_n, rst_c, isFl, List.map_cons, List.map_nil, List.cons_append, List.nil_append, List.append_nil, List.replicate_succ, List.replicate_zero, Nat.reduceSub, Nat.reduceAdd, List.getElem?_cons_zero, List.getElem?_cons_succ, List.getD_cons_zero, List.getD_cons_succ, List.set_cons_zero, List.set_cons_succ, List.length_cons, List.length_nil, List.map_append])
  rw [Int.toNat_natCast]
  refine ⟨rOk_n (by omega), ?_⟩
  refine SP_forR (fun i e => ∃ x6 x7, e = [some (.fro (ns.map .int)), some (.int (k : Int)), some g3, some (.int (n : Int)), some (tabD T), some (.str x), x6, x7, none, none, none, none, none]) ⟨none, none, rfl⟩ ?_ ?_
  · rintro i hi e ⟨x6, x7, rfl⟩
    (try simp only [RP_varm, RP_holem, RP_c, RP_1, RP_2, RP_3, RP_f, RP_nil, RP_cons, RP_if, RP_and, RP_or, RP_not, RP_B, RP_qt, RP_perm, RP_pn, RP_ps, RP_sl, RP_call, RP_src2, SrcP_l, SrcP_t, SrcP_pl, SrcP_row, SrcP_tab, RP_r1, RP_r2, RP_en2, EnP_l, EnP_row, EnP_tab, LsP_l, LsP_pl, RP_lc, RP_yes, RP_pop, RP_lr, RP_fl, RP_dct1, RP_asL,  SP_nx, SP_seq, SP_drop, SP_ret, SP_set, SP_if, SP_sub, SP_sub2, SP_app, SP_app2, SP_tgt, SP_par, SP_parO, SP_str, SP_uT, SP_uN, SP_uC, SP_uS, SP_subK, SP_for, FP_fn, OP_gT, OP_gC, OP_gE, OP_some, OP_map, OP_add, OP_sub, OP_mul, OP_fdiv, OP_fmod, OP_pow, OP_neg, OP_lt, OP_le, OP_gt, OP_ge, OP_eqi, OP_nei, OP_bits, OP_int, OP_intb, OP_tup, OP_lst, OP_lenl, OP_lent, OP_lenf, OP_abs, OP_max2, OP_min2, OP_gcd, OP_ixl, OP_ixt, OP_ixf, OP_cat, OP_rep, OP_subb, OP_gN, OP_eqs, OP_eq00, OP_ne00, OP_dct1, OP_nepl, OP_eqpl, OP_isLp, OP_pop0, OP_apppl, OP_lenpl, OP_lentab, OP_inpl, OP_ninpl, OP_indk, OP_nindk, OP_setK, BQ_b, BP_t, BP_f, BP_d, BP_n, BP_eq, ↓reduceIte, Option.map_some, is_non_np, is_non_ng, is_non_tp, is_non_tg, is_non_fp, is_non_fg, is_bl_np, is_bl_ng, is_bl_tp, is_bl_tg, is_bl_fp, is_bl_fg, is_int_np, is_int_ng, is_int_tp, is_int_tg, is_int_fp, is_int_fg, is_str_np, is_str_ng, is_str_tp, is_str_tg, is_str_fp, is_str_fg, is_lst_np, is_lst_ng, is_lst_tp, is_lst_tg, is_lst_fp, is_lst_fg, is_tup_np, is_tup_ng, is_tup_tp, is_tup_tg, is_tup_fp, is_tup_fg, isi_non_int, isi_non_bool, isi_non_list, isi_non_tuple, isi_non_str, isi_non_dict, isi_non_lt, isi_bl_int, isi_bl_bool, isi_bl_list, isi_bl_tuple, isi_bl_str, isi_bl_dict, isi_bl_lt, isi_int_int, isi_int_bool, isi_int_list, isi_int_tuple, isi_int_str, isi_int_dict, isi_int_lt, isi_str_int, isi_str_bool, isi_str_list, isi_str_tuple, isi_str_str, isi_str_dict, isi_str_lt, isi_lst_int, isi_lst_bool, isi_lst_list, isi_lst_tuple, isi_lst_str, isi_lst_dict, isi_lst_lt, isi_tup_int, isi_tup_bool, isi_tup_list, isi_tup_tuple, isi_tup_str, isi_tup_dict, isi_tup_lt,  at0, at1, at2, at3, set0, set1, set2, setD_l, fillIO, putIO, ioN, permO, wpE_n, wpE_c, rst_n, rst_c, isFl, List.map_cons, List.map_nil, List.cons_append, List.nil_append, List.append_nil, List.replicate_succ, List.replicate_zero, Nat.reduceSub, Nat.reduceAdd, List.getElem?_cons_zero, List.getElem?_cons_succ, List.getD_cons_zero, List.getD_cons_succ, List.set_cons_zero, List.set_cons_succ, List.length_cons, List.length_nil, List.map_append])
    rw [Int.toNat_natCast]
    refine ⟨rOk_n (by omega), ?_⟩
    refine SP_forR (fun j e => ∃ x7, e = [some (.fro (ns.map .int)), some (.int (k : Int)), some g3, some (.int (n : Int)), some (tabD T), some (.str x), some (.int (i : Int)), x7, none, none, none, none, none]) ⟨x7, rfl⟩ ?_ ?_
    · rintro j hj e ⟨x7, rfl⟩
      (try simp only [RP_varm, RP_holem, RP_c, RP_1, RP_2, RP_3, RP_f, RP_nil, RP_cons, RP_if, RP_and, RP_or, RP_not, RP_B, RP_qt, RP_perm, RP_pn, RP_ps, RP_sl, RP_call, RP_src2, SrcP_l, SrcP_t, SrcP_pl, SrcP_row, SrcP_tab, RP_r1, RP_r2, RP_en2, EnP_l, EnP_row, EnP_tab, LsP_l, LsP_pl, RP_lc, RP_yes, RP_pop, RP_lr, RP_fl, RP_dct1, RP_asL,  SP_nx, SP_seq, SP_drop, SP_ret, SP_set, SP_if, SP_sub, SP_sub2, SP_app, SP_app2, SP_tgt, SP_par, SP_parO, SP_str, SP_uT, SP_uN, SP_uC, SP_uS, SP_subK, SP_for, FP_fn, OP_gT, OP_gC, OP_gE, OP_some, OP_map, OP_add, OP_sub, OP_mul, OP_fdiv, OP_fmod, OP_pow, OP_neg, OP_lt, OP_le, OP_gt, OP_ge, OP_eqi, OP_nei, OP_bits, OP_int, OP_intb, OP_tup, OP_lst, OP_lenl, OP_lent, OP_lenf, OP_abs, OP_max2, OP_min2, OP_gcd, OP_ixl, OP_ixt, OP_ixf, OP_cat, OP_rep, OP_subb, OP_gN, OP_eqs, OP_eq00, OP_ne00, OP_dct1, OP_nepl, OP_eqpl, OP_isLp, OP_pop0, OP_apppl, OP_lenpl, OP_lentab, OP_inpl, OP_ninpl, OP_indk, OP_nindk, OP_setK, BQ_b, BP_t, BP_f, BP_d, BP_n, BP_eq, ↓reduceIte, Option.map_some, is_non_np, is_non_ng, is_non_tp, is_non_tg, is_non_fp, is_non_fg, is_bl_np, is_bl_ng, is_bl_tp, is_bl_tg, is_bl_fp, is_bl_fg, is_int_np, is_int_ng, is_int_tp, is_int_tg, is_int_fp, is_int_fg, is_str_np, is_str_ng, is_str_tp, is_str_tg, is_str_fp, is_str_fg, is_lst_np, is_lst_ng, is_lst_tp, is_lst_tg, is_lst_fp, is_lst_fg, is_tup_np, is_tup_ng, is_tup_tp, is_tup_tg, is_tup_fp, is_tup_fg, isi_non_int, isi_non_bool, isi_non_list, isi_non_tuple, isi_non_str, isi_non_dict, isi_non_lt, isi_bl_int, isi_bl_bool, isi_bl_list, isi_bl_tuple, isi_bl_str, isi_bl_dict, isi_bl_lt, isi_int_int, isi_int_bool, isi_int_list, isi_int_tuple, isi_int_str, isi_int_dict, isi_int_lt, isi_str_int, isi_str_bool, isi_str_list, isi_str_tuple, isi_str_str, isi_str_dict, isi_str_lt, isi_lst_int, isi_lst_bool, isi_lst_list, isi_lst_tuple, isi_lst_str, isi_lst_dict, isi_lst_lt, isi_tup_int, isi_tup_bool, isi_tup_list, isi_tup_tuple, isi_tup_str, isi_tup_dict, isi_tup_lt,  at0, at1, at2, at3, set0, set1, set2, setD_l, fillIO, putIO, ioN, permO, wpE_n, wpE_c, rst_n, rst_c, isFl, List.map_cons, List.map_nil, List.cons_append, List.nil_append, List.append_nil, List.replicate_succ, List.replicate_zero, Nat.reduceSub, Nat.reduceAdd, List.getElem?_cons_zero, List.getElem?_cons_succ, List.getD_cons_zero, List.getD_cons_succ, List.set_cons_zero, List.set_cons_succ, List.length_cons, List.length_nil, List.map_append])
      refine ⟨fun _ => ⟨_, rfl⟩, fun hij => ?_⟩
      refine sp_beside tab hi hj (by omega) fun e => ?_
      (try simp only [RP_varm, RP_holem, RP_c, RP_1, RP_2, RP_3, RP_f, RP_nil, RP_cons, RP_if, RP_and, RP_or, RP_not, RP_B, RP_qt, RP_perm, RP_pn, RP_ps, RP_sl, RP_call, RP_src2, SrcP_l, SrcP_t, SrcP_pl, SrcP_row, SrcP_tab, RP_r1, RP_r2, RP_en2, EnP_l, EnP_row, EnP_tab, LsP_l, LsP_pl, RP_lc, RP_yes, RP_pop, RP_lr, RP_fl, RP_dct1, RP_asL,  SP_nx, SP_seq, SP_drop, SP_ret, SP_set, SP_if, SP_sub, SP_sub2, SP_app, SP_app2, SP_tgt, SP_par, SP_parO, SP_str, SP_uT, SP_uN, SP_uC, SP_uS, SP_subK, SP_for, FP_fn, OP_gT, OP_gC, OP_gE, OP_some, OP_map, OP_add, OP_sub, OP_mul, OP_fdiv, OP_fmod, OP_pow, OP_neg, OP_lt, OP_le, OP_gt, OP_ge, OP_eqi, OP_nei, OP_bits, OP_int, OP_intb, OP_tup, OP_lst, OP_lenl, OP_lent, OP_lenf, OP_abs, OP_max2, OP_min2, OP_gcd, OP_ixl, OP_ixt, OP_ixf, OP_cat, OP_rep, OP_subb, OP_gN, OP_eqs, OP_eq00, OP_ne00, OP_dct1, OP_nepl, OP_eqpl, OP_isLp, OP_pop0, OP_apppl, OP_lenpl, OP_lentab, OP_inpl, OP_ninpl, OP_indk, OP_nindk, OP_setK, BQ_b, BP_t, BP_f, BP_d, BP_n, BP_eq, ↓reduceIte, Option.map_some, is_non_np, is_non_ng, is_non_tp, is_non_tg, is_non_fp, is_non_fg, is_bl_np, is_bl_ng, is_bl_tp, is_bl_tg, is_bl_fp, is_bl_fg, is_int_np, is_int_ng, is_int_tp, is_int_tg, is_int_fp, is_int_fg, is_str_np, is_str_ng, is_str_tp, is_str_tg, is_str_fp, is_str_fg, is_lst_np, is_lst_ng, is_lst_tp, is_lst_tg, is_lst_fp, is_lst_fg, is_tup_np, is_tup_ng, is_tup_tp, is_tup_tg, is_tup_fp, is_tup_fg, isi_non_int, isi_non_bool, isi_non_list, isi_non_tuple, isi_non_str, isi_non_dict, isi_non_lt, isi_bl_int, isi_bl_bool, isi_bl_list, isi_bl_tuple, isi_bl_str, isi_bl_dict, isi_bl_lt, isi_int_int, isi_int_bool, isi_int_list, isi_int_tuple, isi_int_str, isi_int_dict, isi_int_lt, isi_str_int, isi_str_bool, isi_str_list, isi_str_tuple, isi_str_str, isi_str_dict, isi_str_lt, isi_lst_int, isi_lst_bool, isi_lst_list, isi_lst_tuple, isi_lst_str, isi_lst_dict, isi_lst_lt, isi_tup_int, isi_tup_bool, isi_tup_list, isi_tup_tuple, isi_tup_str, isi_tup_dict, isi_tup_lt,  at0, at1, at2, at3, set0, set1, set2, setD_l, fillIO, putIO, ioN, permO, wpE_n, wpE_c, rst_n, rst_c, isFl, List.map_cons, List.map_nil, List.cons_append, List.nil_append, List.append_nil, List.replicate_succ, List.replicate_zero, Nat.reduceSub, Nat.reduceAdd, List.getElem?_cons_zero, List.getElem?_cons_succ, List.getD_cons_zero, List.getD_cons_succ, List.set_cons_zero, List.set_cons_succ, List.length_cons, List.length_nil, List.map_append])
      refine sp_word sq hi hj (by omega) fun e => ?_
      (try simp only [RP_varm, RP_holem, RP_c, RP_1, RP_2, RP_3, RP_f, RP_nil, RP_cons, RP_if, RP_and, RP_or, RP_not, RP_B, RP_qt, RP_perm, RP_pn, RP_ps, RP_sl, RP_call, RP_src2, SrcP_l, SrcP_t, SrcP_pl, SrcP_row, SrcP_tab, RP_r1, RP_r2, RP_en2, EnP_l, EnP_row, EnP_tab, LsP_l, LsP_pl, RP_lc, RP_yes, RP_pop, RP_lr, RP_fl, RP_dct1, RP_asL,  SP_nx, SP_seq, SP_drop, SP_ret, SP_set, SP_if, SP_sub, SP_sub2, SP_app, SP_app2, SP_tgt, SP_par, SP_parO, SP_str, SP_uT, SP_uN, SP_uC, SP_uS, SP_subK, SP_for, FP_fn, OP_gT, OP_gC, OP_gE, OP_some, OP_map, OP_add, OP_sub, OP_mul, OP_fdiv, OP_fmod, OP_pow, OP_neg, OP_lt, OP_le, OP_gt, OP_ge, OP_eqi, OP_nei, OP_bits, OP_int, OP_intb, OP_tup, OP_lst, OP_lenl, OP_lent, OP_lenf, OP_abs, OP_max2, OP_min2, OP_gcd, OP_ixl, OP_ixt, OP_ixf, OP_cat, OP_rep, OP_subb, OP_gN, OP_eqs, OP_eq00, OP_ne00, OP_dct1, OP_nepl, OP_eqpl, OP_isLp, OP_pop0, OP_apppl, OP_lenpl, OP_lentab, OP_inpl, OP_ninpl, OP_indk, OP_nindk, OP_setK, BQ_b, BP_t, BP_f, BP_d, BP_n, BP_eq, ↓reduceIte, Option.map_some, is_non_np, is_non_ng, is_non_tp, is_non_tg, is_non_fp, is_non_fg, is_bl_np, is_bl_ng, is_bl_tp, is_bl_tg, is_bl_fp, is_bl_fg, is_int_np, is_int_ng, is_int_tp, is_int_tg, is_int_fp, is_int_fg, is_str_np, is_str_ng, is_str_tp, is_str_tg, is_str_fp, is_str_fg, is_lst_np, is_lst_ng, is_lst_tp, is_lst_tg, is_lst_fp, is_lst_fg, is_tup_np, is_tup_ng, is_tup_tp, is_tup_tg, is_tup_fp, is_tup_fg, isi_non_int, isi_non_bool, isi_non_list, isi_non_tuple, isi_non_str, isi_non_dict, isi_non_lt, isi_bl_int, isi_bl_bool, isi_bl_list, isi_bl_tuple, isi_bl_str, isi_bl_dict, isi_bl_lt, isi_int_int, isi_int_bool, isi_int_list, isi_int_tuple, isi_int_str, isi_int_dict, isi_int_lt, isi_str_int, isi_str_bool, isi_str_list, isi_str_tuple, isi_str_str, isi_str_dict, isi_str_lt, isi_lst_int, isi_lst_bool, isi_lst_list, isi_lst_tuple, isi_lst_str, isi_lst_dict, isi_lst_lt, isi_tup_int, isi_tup_bool, isi_tup_list, isi_tup_tuple, isi_tup_str, isi_tup_dict, isi_tup_lt,  at0, at1, at2, at3, set0, set1, set2, setD_l, fillIO, putIO, ioN, permO, wpE_n, wpE_c, rst_n, rst_c, isFl, List.map_cons, List.map_nil, List.cons_append, List.nil_append, List.append_nil, List.replicate_succ, List.replicate_zero, Nat.reduceSub, Nat.reduceAdd, List.getElem?_cons_zero, List.getElem?_cons_succ, List.getD_cons_zero, List.getD_cons_succ, List.set_cons_zero, List.set_cons_succ, List.length_cons, List.length_nil, List.map_append])
      refine FP_same (n := 40) ok_str rfl fun e => ?_
      (try simp only [RP_varm, RP_holem, RP_c, RP_1, RP_2, RP_3, RP_f, RP_nil, RP_cons, RP_if, RP_and, RP_or, RP_not, RP_B, RP_qt, RP_perm, RP_pn, RP_ps, RP_sl, RP_call, RP_src2, SrcP_l, SrcP_t, SrcP_pl, SrcP_row, SrcP_tab, RP_r1, RP_r2, RP_en2, EnP_l, EnP_row, EnP_tab, LsP_l, LsP_pl, RP_lc, RP_yes, RP_pop, RP_lr, RP_fl, RP_dct1, RP_asL,  SP_nx, SP_seq, SP_drop, SP_ret, SP_set, SP_if, SP_sub, SP_sub2, SP_app, SP_app2, SP_tgt, SP_par, SP_parO, SP_str, SP_uT, SP_uN, SP_uC, SP_uS, SP_subK, SP_for, FP_fn, OP_gT, OP_gC, OP_gE, OP_some, OP_map, OP_add, OP_sub, OP_mul, OP_fdiv, OP_fmod, OP_pow, OP_neg, OP_lt, OP_le, OP_gt, OP_ge, OP_eqi, OP_nei, OP_bits, OP_int, OP_intb, OP_tup, OP_lst, OP_lenl, OP_lent, OP_lenf, OP_abs, OP_max2, OP_min2, OP_gcd, OP_ixl, OP_ixt, OP_ixf, OP_cat, OP_rep, OP_subb, OP_gN, OP_eqs, OP_eq00, OP_ne00, OP_dct1, OP_nepl, OP_eqpl, OP_isLp, OP_pop0, OP_apppl, OP_lenpl, OP_lentab, OP_inpl, OP_ninpl, OP_indk, OP_nindk, OP_setK, BQ_b, BP_t, BP_f, BP_d, BP_n, BP_eq, ↓reduceIte, Option.map_some, is_non_np, is_non_ng, is_non_tp, is_non_tg, is_non_fp, is_non_fg, is_bl_np, is_bl_ng, is_bl_tp, is_bl_tg, is_bl_fp, is_bl_fg, is_int_np, is_int_ng, is_int_tp, is_int_tg, is_int_fp, is_int_fg, is_str_np, is_str_ng, is_str_tp, is_str_tg, is_str_fp, is_str_fg, is_lst_np, is_lst_ng, is_lst_tp, is_lst_tg, is_lst_fp, is_lst_fg, is_tup_np, is_tup_ng, is_tup_tp, is_tup_tg, is_tup_fp, is_tup_fg, isi_non_int, isi_non_bool, isi_non_list, isi_non_tuple, isi_non_str, isi_non_dict, isi_non_lt, isi_bl_int, isi_bl_bool, isi_bl_list, isi_bl_tuple, isi_bl_str, isi_bl_dict, isi_bl_lt, isi_int_int, isi_int_bool, isi_int_list, isi_int_tuple, isi_int_str, isi_int_dict, isi_int_lt, isi_str_int, isi_str_bool, isi_str_list, isi_str_tuple, isi_str_str, isi_str_dict, isi_str_lt, isi_lst_int, isi_lst_bool, isi_lst_list, isi_lst_tuple, isi_lst_str, isi_lst_dict, isi_lst_lt, isi_tup_int, isi_tup_bool, isi_tup_list, isi_tup_tuple, isi_tup_str, isi_tup_dict, isi_tup_lt,  at0, at1, at2, at3, set0, set1, set2, setD_l, fillIO, putIO, ioN, permO, wpE_n, wpE_c, rst_n, rst_c, isFl, List.map_cons, List.map_nil, List.cons_append, List.nil_append, List.append_nil, List.replicate_succ, List.replicate_zero, Nat.reduceSub, Nat.reduceAdd, List.getElem?_cons_zero, List.getElem?_cons_succ, List.getD_cons_zero, List.getD_cons_succ, List.set_cons_zero, List.set_cons_succ, List.length_cons, List.length_nil, List.map_append])
      exact ⟨_, rfl⟩
    · rintro e ⟨x7, rfl⟩
      exact ⟨_, _, rfl⟩
  · rintro e ⟨x6, x7, rfl⟩
    refine hN _ ?_
    clear hN
    -- by name
    refine SP_seqI fun N hN => ?_
    (try simp only [RP_varm, RP_holem, RP_c, RP_1, RP_2, RP_3, RP_f, RP_nil, RP_cons, RP_if, RP_and, RP_or, RP_not, RP_B, RP_qt, RP_perm, RP_pn, RP_ps, RP_sl, RP_call, RP_src2, SrcP_l, SrcP_t, SrcP_pl, SrcP_row, SrcP_tab, RP_r1, RP_r2, RP_en2, EnP_l, EnP_row, EnP_tab, LsP_l, LsP_pl, RP_lc, RP_yes, RP_pop, RP_lr, RP_fl, RP_dct1, RP_asL,  SP_nx, SP_seq, SP_drop, SP_ret, SP_set, SP_if, SP_sub, SP_sub2, SP_app, SP_app2, SP_tgt, SP_par, SP_parO, SP_str, SP_uT, SP_uN, SP_uC, SP_uS, SP_subK, SP_for, FP_fn, OP_gT, OP_gC, OP_gE, OP_some, OP_map, OP_add, OP_sub, OP_mul, OP_fdiv, OP_fmod, OP_pow, OP_neg, OP_lt, OP_le, OP_gt, OP_ge, OP_eqi, OP_nei, OP_bits, OP_int, OP_intb, OP_tup, OP_lst, OP_lenl, OP_lent, OP_lenf, OP_abs, OP_max2, OP_min2, OP_gcd, OP_ixl, OP_ixt, OP_ixf, OP_cat, OP_rep, OP_subb, OP_gN, OP_eqs, OP_eq00, OP_ne00, OP_dct1, OP_nepl, OP_eqpl, OP_isLp, OP_pop0, OP_apppl, OP_lenpl, OP_lentab, OP_inpl, OP_ninpl, OP_indk, OP_nindk, OP_setK, BQ_b, BP_t, BP_f, BP_d, BP_n, BP_eq, ↓reduceIte, Option.map_some, is_non_np, is_non_ng, is_non_tp, is_non_tg, is_non_fp, is_non_fg, is_bl_np, is_bl_ng, is_bl_tp, is_bl_tg, is_bl_fp, is_bl_fg, is_int_np, is_int_ng, is_int_tp, is_int_tg, is_int_fp, is_int_fg, is_str_np, is_str_ng, is_str_tp, is_str_tg, is_str_fp, is_str_fg, is_lst_np, is_lst_ng, is_lst_tp, is_lst_tg, is_lst_fp, is_lst_fg, is_tup_np, is_tup_ng, is_tup_tp, is_tup_tg, is_tup_fp, is_tup_fg, isi_non_int, isi_non_bool, isi_non_list, isi_non_tuple, isi_non_str, isi_non_dict, isi_non_lt, isi_bl_int, isi_bl_bool, isi_bl_list, isi_bl_tuple, isi_bl_str, isi_bl_dict, isi_bl_lt, isi_int_int, isi_int_bool, isi_int_list, isi_int_tuple, isi_int_str, isi_int_dict, isi_int_lt, isi_str_int, isi_str_bool, isi_str_list, isi_str_tuple, isi_str_str, isi_str_dict, isi_str_lt, isi_lst_int, isi_lst_bool, isi_lst_list, isi_lst_tuple, isi_lst_str, isi_lst_dict, isi_lst_lt, isi_tup_int, isi_tup_bool, isi_tup_list, isi_tup_tuple, isi_tup_str, isi_tup_dict, isi_tup_lt,  at0, at1, at2, at3, set0, set1, set2, setD_l, fillIO, putIO, ioN, permO, wpE_n, wpE_c, rst_n, rst_c, isFl, List.map_cons, List.map_nil, List.cons_append, List.nil_append, List.append_nil, List.replicate_succ, List.replicate_zero, Nat.reduceSub, Nat.reduceAdd, List.getElem?_cons_zero, List.getElem?_cons_succ, List.getD_cons_zero, List.getD_cons_succ, List.set_cons_zero, List.set_cons_succ, List.length_cons, List.length_nil, List.map_append])
    refine sp_beside (a := 0) (b := 1) tab (by omega) (by omega) (by decide) fun e => ?_
    (try simp only [RP_varm, RP_holem, RP_c, RP_1, RP_2, RP_3, RP_f, RP_nil, RP_cons, RP_if, RP_and, RP_or, RP_not, RP_B, RP_qt, RP_perm, RP_pn, RP_ps, RP_sl, RP_call, RP_src2, SrcP_l, SrcP_t, SrcP_pl, SrcP_row, SrcP_tab, RP_r1, RP_r2, RP_en2, EnP_l, EnP_row, EnP_tab, LsP_l, LsP_pl, RP_lc, RP_yes, RP_pop, RP_lr, RP_fl, RP_dct1, RP_asL,  SP_nx, SP_seq, SP_drop, SP_ret, SP_set, SP_if, SP_sub, SP_sub2, SP_app, SP_app2, SP_tgt, SP_par, SP_parO, SP_str, SP_uT, SP_uN, SP_uC, SP_uS, SP_subK, SP_for, FP_fn, OP_gT, OP_gC, OP_gE, OP_some, OP_map, OP_add, OP_sub, OP_mul, OP_fdiv, OP_fmod, OP_pow, OP_neg, OP_lt, OP_le, OP_gt, OP_ge, OP_eqi, OP_nei, OP_bits, OP_int, OP_intb, OP_tup, OP_lst, OP_lenl, OP_lent, OP_lenf, OP_abs, OP_max2, OP_min2, OP_gcd, OP_ixl, OP_ixt, OP_ixf, OP_cat, OP_rep, OP_subb, OP_gN, OP_eqs, OP_eq00, OP_ne00, OP_dct1, OP_nepl, OP_eqpl, OP_isLp, OP_pop0, OP_apppl, OP_lenpl, OP_lentab, OP_inpl, OP_ninpl, OP_indk, OP_nindk, OP_setK, BQ_b, BP_t, BP_f, BP_d, BP_n, BP_eq, ↓reduceIte, Option.map_some, is_non_np, is_non_ng, is_non_tp, is_non_tg, is_non_fp, is_non_fg, is_bl_np, is_bl_ng, is_bl_tp, is_bl_tg, is_bl_fp, is_bl_fg, is_int_np, is_int_ng, is_int_tp, is_int_tg, is_int_fp, is_int_fg, is_str_np, is_str_ng, is_str_tp, is_str_tg, is_str_fp, is_str_fg, is_lst_np, is_lst_ng, is_lst_tp, is_lst_tg, is_lst_fp, is_lst_fg, is_tup_np, is_tup_ng, is_tup_tp, is_tup_tg, is_tup_fp, is_tup_fg, isi_non_int, isi_non_bool, isi_non_list, isi_non_tuple, isi_non_str, isi_non_dict, isi_non_lt, isi_bl_int, isi_bl_bool, isi_bl_list, isi_bl_tuple, isi_bl_str, isi_bl_dict, isi_bl_lt, isi_int_int, isi_int_bool, isi_int_list, isi_int_tuple, isi_int_str, isi_int_dict, isi_int_lt, isi_str_int, isi_str_bool, isi_str_list, isi_str_tuple, isi_str_str, isi_str_dict, isi_str_lt, isi_lst_int, isi_lst_bool, isi_lst_list, isi_lst_tuple, isi_lst_str, isi_lst_dict, isi_lst_lt, isi_tup_int, isi_tup_bool, isi_tup_list, isi_tup_tuple, isi_tup_str, isi_tup_dict, isi_tup_lt,  at0, at1, at2, at3, set0, set1, set2, setD_l, fillIO, putIO, ioN, permO, wpE_n, wpE_c, rst_n, rst_c, isFl, List.map_cons, List.map_nil, List.cons_append, List.nil_append, List.append_nil, List.replicate_succ, List.replicate_zero, Nat.reduceSub, Nat.reduceAdd, List.getElem?_cons_zero, List.getElem?_cons_succ, List.getD_cons_zero, List.getD_cons_succ, List.set_cons_zero, List.set_cons_succ, List.length_cons, List.length_nil, List.map_append])
    refine sp_word (a := 0) (b := 1) sq (by omega) (by omega) (by omega) fun e => ?_
    (try simp only [RP_varm, RP_holem, RP_c, RP_1, RP_2, RP_3, RP_f, RP_nil, RP_cons, RP_if, RP_and, RP_or, RP_not, RP_B, RP_qt, RP_perm, RP_pn, RP_ps, RP_sl, RP_call, RP_src2, SrcP_l, SrcP_t, SrcP_pl, SrcP_row, SrcP_tab, RP_r1, RP_r2, RP_en2, EnP_l, EnP_row, EnP_tab, LsP_l, LsP_pl, RP_lc, RP_yes, RP_pop, RP_lr, RP_fl, RP_dct1, RP_asL,  SP_nx, SP_seq, SP_drop, SP_ret, SP_set, SP_if, SP_sub, SP_sub2, SP_app, SP_app2, SP_tgt, SP_par, SP_parO, SP_str, SP_uT, SP_uN, SP_uC, SP_uS, SP_subK, SP_for, FP_fn, OP_gT, OP_gC, OP_gE, OP_some, OP_map, OP_add, OP_sub, OP_mul, OP_fdiv, OP_fmod, OP_pow, OP_neg, OP_lt, OP_le, OP_gt, OP_ge, OP_eqi, OP_nei, OP_bits, OP_int, OP_intb, OP_tup, OP_lst, OP_lenl, OP_lent, OP_lenf, OP_abs, OP_max2, OP_min2, OP_gcd, OP_ixl, OP_ixt, OP_ixf, OP_cat, OP_rep, OP_subb, OP_gN, OP_eqs, OP_eq00, OP_ne00, OP_dct1, OP_nepl, OP_eqpl, OP_isLp, OP_pop0, OP_apppl, OP_lenpl, OP_lentab, OP_inpl, OP_ninpl, OP_indk, OP_nindk, OP_setK, BQ_b, BP_t, BP_f, BP_d, BP_n, BP_eq, ↓reduceIte, Option.map_some, is_non_np, is_non_ng, is_non_tp, is_non_tg, is_non_fp, is_non_fg, is_bl_np, is_bl_ng, is_bl_tp, is_bl_tg, is_bl_fp, is_bl_fg, is_int_np, is_int_ng, is_int_tp, is_int_tg, is_int_fp, is_int_fg, is_str_np, is_str_ng, is_str_tp, is_str_tg, is_str_fp, is_str_fg, is_lst_np, is_lst_ng, is_lst_tp, is_lst_tg, is_lst_fp, is_lst_fg, is_tup_np, is_tup_ng, is_tup_tp, is_tup_tg, is_tup_fp, is_tup_fg, isi_non_int, isi_non_bool, isi_non_list, isi_non_tuple, isi_non_str, isi_non_dict, isi_non_lt, isi_bl_int, isi_bl_bool, isi_bl_list, isi_bl_tuple, isi_bl_str, isi_bl_dict, isi_bl_lt, isi_int_int, isi_int_bool, isi_int_list, isi_int_tuple, isi_int_str, isi_int_dict, isi_int_lt, isi_str_int, isi_str_bool, isi_str_list, isi_str_tuple, isi_str_str, isi_str_dict, isi_str_lt, isi_lst_int, isi_lst_bool, isi_lst_list, isi_lst_tuple, isi_lst_str, isi_lst_dict, isi_lst_lt, isi_tup_int, isi_tup_bool, isi_tup_list, isi_tup_tuple, isi_tup_str, isi_tup_dict, isi_tup_lt,  at0, at1, at2, at3, set0, set1, set2, setD_l, fillIO, putIO, ioN, permO, wpE_n, wpE_c, rst_n, rst_c, isFl, List.map_cons, List.map_nil, List.cons_append, List.nil_append, List.append_nil, List.replicate_succ, List.replicate_zero, Nat.reduceSub, Nat.reduceAdd, List.getElem?_cons_zero, List.getElem?_cons_succ, List.getD_cons_zero, List.getD_cons_succ, List.set_cons_zero, List.set_cons_succ, List.length_cons, List.length_nil, List.map_append])
    refine FP_same (n := 40) ok_str rfl fun e => ?_
    (try simp only [RP_varm, RP_holem, RP_c, RP_1, RP_2, RP_3, RP_f, RP_nil, RP_cons, RP_if, RP_and, RP_or, RP_not, RP_B, RP_qt, RP_perm, RP_pn, RP_ps, RP_sl, RP_call, RP_src2, SrcP_l, SrcP_t, SrcP_pl, SrcP_row, SrcP_tab, RP_r1, RP_r2, RP_en2, EnP_l, EnP_row, EnP_tab, LsP_l, LsP_pl, RP_lc, RP_yes, RP_pop, RP_lr, RP_fl, RP_dct1, RP_asL,  SP_nx, SP_seq, SP_drop, SP_ret, SP_set, SP_if, SP_sub, SP_sub2, SP_app, SP_app2, SP_tgt, SP_par, SP_parO, SP_str, SP_uT, SP_uN, SP_uC, SP_uS, SP_subK, SP_for, FP_fn, OP_gT, OP_gC, OP_gE, OP_some, OP_map, OP_add, OP_sub, OP_mul, OP_fdiv, OP_fmod, OP_pow, OP_neg, OP_lt, OP_le, OP_gt, OP_ge, OP_eqi, OP_nei, OP_bits, OP_int, OP_intb, OP_tup, OP_lst, OP_lenl, OP_lent, OP_lenf, OP_abs, OP_max2, OP_min2, OP_gcd, OP_ixl, OP_ixt, OP_ixf, OP_cat, OP_rep, OP_subb, OP_gN, OP_eqs, OP_eq00, OP_ne00, OP_dct1, OP_nepl, OP_eqpl, OP_isLp, OP_pop0, OP_apppl, OP_lenpl, OP_lentab, OP_inpl, OP_ninpl, OP_indk, OP_nindk, OP_setK, BQ_b, BP_t, BP_f, BP_d, BP_n, BP_eq, ↓reduceIte, Option.map_some, is_non_np, is_non_ng, is_non_tp, is_non_tg, is_non_fp, is_non_fg, is_bl_np, is_bl_ng, is_bl_tp, is_bl_tg, is_bl_fp, is_bl_fg, is_int_np, is_int_ng, is_int_tp, is_int_tg, is_int_fp, is_int_fg, is_str_np, is_str_ng, is_str_tp, is_str_tg, is_str_fp, is_str_fg, is_lst_np, is_lst_ng, is_lst_tp, is_lst_tg, is_lst_fp, is_lst_fg, is_tup_np, is_tup_ng, is_tup_tp, is_tup_tg, is_tup_fp, is_tup_fg, isi_non_int, isi_non_bool, isi_non_list, isi_non_tuple, isi_non_str, isi_non_dict, isi_non_lt, isi_bl_int, isi_bl_bool, isi_bl_list, isi_bl_tuple, isi_bl_str, isi_bl_dict, isi_bl_lt, isi_int_int, isi_int_bool, isi_int_list, isi_int_tuple, isi_int_str, isi_int_dict, isi_int_lt, isi_str_int, isi_str_bool, isi_str_list, isi_str_tuple, isi_str_str, isi_str_dict, isi_str_lt, isi_lst_int, isi_lst_bool, isi_lst_list, isi_lst_tuple, isi_lst_str, isi_lst_dict, isi_lst_lt, isi_tup_int, isi_tup_bool, isi_tup_list, isi_tup_tuple, isi_tup_str, isi_tup_dict, isi_tup_lt,  at0, at1, at2, at3, set0, set1, set2, setD_l, fillIO, putIO, ioN, permO, wpE_n, wpE_c, rst_n, rst_c, isFl, List.map_cons, List.map_nil, List.cons_append, List.nil_append, List.append_nil, List.replicate_succ, List.replicate_zero, Nat.reduceSub, Nat.reduceAdd, List.getElem?_cons_zero, List.getElem?_cons_succ, List.getD_cons_zero, List.getD_cons_succ, List.set_cons_zero, List.set_cons_succ, List.length_cons, List.length_nil, List.map_append])
    refine hN _ ?_
    clear hN
    -- lots
    refine SP_seqI fun N hN => ?_
    (try simp only [RP_varm, RP_holem, RP_c, RP_1, RP_2, RP_3, RP_f, RP_nil, RP_cons, RP_if, RP_and, RP_or, RP_not, RP_B, RP_qt, RP_perm, RP_pn, RP_ps, RP_sl, RP_call, RP_src2, SrcP_l, SrcP_t, SrcP_pl, SrcP_row, SrcP_tab, RP_r1, RP_r2, RP_en2, EnP_l, EnP_row, EnP_tab, LsP_l, LsP_pl, RP_lc, RP_yes, RP_pop, RP_lr, RP_fl, RP_dct1, RP_asL,  SP_nx, SP_seq, SP_drop, SP_ret, SP_set, SP_if, SP_sub, SP_sub2, SP_app, SP_app2, SP_tgt, SP_par, SP_parO, SP_str, SP_uT, SP_uN, SP_uC, SP_uS, SP_subK, SP_for, FP_fn, OP_gT, OP_gC, OP_gE, OP_some, OP_map, OP_add, OP_sub, OP_mul, OP_fdiv, OP_fmod, OP_pow, OP_neg, OP_lt, OP_le, OP_gt, OP_ge, OP_eqi, OP_nei, OP_bits, OP_int, OP_intb, OP_tup, OP_lst, OP_lenl, OP_lent, OP_lenf, OP_abs, OP_max2, OP_min2, OP_gcd, OP_ixl, OP_ixt, OP_ixf, OP_cat, OP_rep, OP_subb, OP_gN, OP_eqs, OP_eq00, OP_ne00, OP_dct1, OP_nepl, OP_eqpl, OP_isLp, OP_pop0, OP_apppl, OP_lenpl, OP_lentab, OP_inpl, OP_ninpl, OP_indk, OP_nindk, OP_setK, BQ_b, BP_t, BP_f, BP_d, BP_n, BP_eq, ↓reduceIte, Option.map_some, is_non_np, is_non_ng, is_non_tp, is_non_tg, is_non_fp, is_non_fg, is_bl_np, is_bl_ng, is_bl_tp, is_bl_tg, is_bl_fp, is_bl_fg, is_int_np, is_int_ng, is_int_tp, is_int_tg, is_int_fp, is_int_fg, is_str_np, is_str_ng, is_str_tp, is_str_tg, is_str_fp, is_str_fg, is_lst_np, is_lst_ng, is_lst_tp, is_lst_tg, is_lst_fp, is_lst_fg, is_tup_np, is_tup_ng, is_tup_tp, is_tup_tg, is_tup_fp, is_tup_fg, isi_non_int, isi_non_bool, isi_non_list, isi_non_tuple, isi_non_str, isi_non_dict, isi_non_lt, isi_bl_int, isi_bl_bool, isi_bl_list, isi_bl_tuple, isi_bl_str, isi_bl_dict, isi_bl_lt, isi_int_int, isi_int_bool, isi_int_list, isi_int_tuple, isi_int_str, isi_int_dict, isi_int_lt, isi_str_int, isi_str_bool, isi_str_list, isi_str_tuple, isi_str_str, isi_str_dict, isi_str_lt, isi_lst_int, isi_lst_bool, isi_lst_list, isi_lst_tuple, isi_lst_str, isi_lst_dict, isi_lst_lt, isi_tup_int, isi_tup_bool, isi_tup_list, isi_tup_tuple, isi_tup_str, isi_tup_dict, isi_tup_lt,  at0, at1, at2, at3, set0, set1, set2, setD_l, fillIO, putIO, ioN, permO, wpE_n, wpE_c, rst_n, rst_c, isFl, List.map_cons, List.map_nil, List.cons_append, List.nil_append, List.append_nil, List.replicate_succ, List.replicate_zero, Nat.reduceSub, Nat.reduceAdd, List.getElem?_cons_zero, List.getElem?_cons_succ, List.getD_cons_zero, List.getD_cons_succ, List.set_cons_zero, List.set_cons_succ, List.length_cons, List.length_nil, List.map_append])
    refine ⟨by decide, ?_⟩
    refine SP_forR (n := 4) (fun t e => ∃ g' x8 x9 x11 x12, GenOk (1000 + 100 * t) g' ∧ e = [some (.fro (ns.map .int)), some (.int (k : Int)), some g', some (.int (n : Int)), some (tabD T), some (.str x), x6, x7, x8, x9, none, x11, x12]) ⟨g3, none, none, none, none, hg3.mono (by omega), rfl⟩ ?_ ?_
    · rintro t ht e ⟨g4, x8, x9, x11, x12, hg4, rfl⟩
      (try simp only [RP_varm, RP_holem, RP_c, RP_1, RP_2, RP_3, RP_f, RP_nil, RP_cons, RP_if, RP_and, RP_or, RP_not, RP_B, RP_qt, RP_perm, RP_pn, RP_ps, RP_sl, RP_call, RP_src2, SrcP_l, SrcP_t, SrcP_pl, SrcP_row, SrcP_tab, RP_r1, RP_r2, RP_en2, EnP_l, EnP_row, EnP_tab, LsP_l, LsP_pl, RP_lc, RP_yes, RP_pop, RP_lr, RP_fl, RP_dct1, RP_asL,  SP_nx, SP_seq, SP_drop, SP_ret, SP_set, SP_if, SP_sub, SP_sub2, SP_app, SP_app2, SP_tgt, SP_par, SP_parO, SP_str, SP_uT, SP_uN, SP_uC, SP_uS, SP_subK, SP_for, FP_fn, OP_gT, OP_gC, OP_gE, OP_some, OP_map, OP_add, OP_sub, OP_mul, OP_fdiv, OP_fmod, OP_pow, OP_neg, OP_lt, OP_le, OP_gt, OP_ge, OP_eqi, OP_nei, OP_bits, OP_int, OP_intb, OP_tup, OP_lst, OP_lenl, OP_lent, OP_lenf, OP_abs, OP_max2, OP_min2, OP_gcd, OP_ixl, OP_ixt, OP_ixf, OP_cat, OP_rep, OP_subb, OP_gN, OP_eqs, OP_eq00, OP_ne00, OP_dct1, OP_nepl, OP_eqpl, OP_isLp, OP_pop0, OP_apppl, OP_lenpl, OP_lentab, OP_inpl, OP_ninpl, OP_indk, OP_nindk, OP_setK, BQ_b, BP_t, BP_f, BP_d, BP_n, BP_eq, ↓reduceIte, Option.map_some, is_non_np, is_non_ng, is_non_tp, is_non_tg, is_non_fp, is_non_fg, is_bl_np, is_bl_ng, is_bl_tp, is_bl_tg, is_bl_fp, is_bl_fg, is_int_np, is_int_ng, is_int_tp, is_int_tg, is_int_fp, is_int_fg, is_str_np, is_str_ng, is_str_tp, is_str_tg, is_str_fp, is_str_fg, is_lst_np, is_lst_ng, is_lst_tp, is_lst_tg, is_lst_fp, is_lst_fg, is_tup_np, is_tup_ng, is_tup_tp, is_tup_tg, is_tup_fp, is_tup_fg, isi_non_int, isi_non_bool, isi_non_list, isi_non_tuple, isi_non_str, isi_non_dict, isi_non_lt, isi_bl_int, isi_bl_bool, isi_bl_list, isi_bl_tuple, isi_bl_str, isi_bl_dict, isi_bl_lt, isi_int_int, isi_int_bool, isi_int_list, isi_int_tuple, isi_int_str, isi_int_dict, isi_int_lt, isi_str_int, isi_str_bool, isi_str_list, isi_str_tuple, isi_str_str, isi_str_dict, isi_str_lt, isi_lst_int, isi_lst_bool, isi_lst_list, isi_lst_tuple, isi_lst_str, isi_lst_dict, isi_lst_lt, isi_tup_int, isi_tup_bool, isi_tup_list, isi_tup_tuple, isi_tup_str, isi_tup_dict, isi_tup_lt,  at0, at1, at2, at3, set0, set1, set2, setD_l, fillIO, putIO, ioN, permO, wpE_n, wpE_c, rst_n, rst_c, isFl, List.map_cons, List.map_nil, List.cons_append, List.nil_append, List.append_nil, List.replicate_succ, List.replicate_zero, Nat.reduceSub, Nat.reduceAdd, List.getElem?_cons_zero, List.getElem?_cons_succ, List.getD_cons_zero, List.getD_cons_succ, List.set_cons_zero, List.set_cons_succ, List.length_cons, List.length_nil, List.map_append])
      rw [Int.toNat_natCast]
      refine ⟨rOk_n (by omega), ?_⟩
      refine RP_lcI (fun j acc e => ∃ g' l, GenOk (1000 + 100 * t + j) g' ∧ acc = (l.map fun k : Nat => D.int (k : Int)) ∧ (∀ x ∈ l, x < j) ∧ l.Pairwise (· < ·) ∧ e = [some (.fro (ns.map .int)), some (.int (k : Int)), some g', some (.int (n : Int)), some (tabD T), some (.str x), x6, x7, some (.int (t : Int)), x9, none, x11, x12])
        ⟨g4, [], hg4, rfl, fun x hx => (by cases hx), .nil, rfl⟩ ?_ ?_
      · rintro j hj acc e ⟨g5, l, hg5, rfl, hl, hp, rfl⟩
        have hj' : j < n := by simpa [rngD] using hj
        rw [rngD_get, OP_gN]
        (try simp only [RP_varm, RP_holem, RP_c, RP_1, RP_2, RP_3, RP_f, RP_nil, RP_cons, RP_if, RP_and, RP_or, RP_not, RP_B, RP_qt, RP_perm, RP_pn, RP_ps, RP_sl, RP_call, RP_src2, SrcP_l, SrcP_t, SrcP_pl, SrcP_row, SrcP_tab, RP_r1, RP_r2, RP_en2, EnP_l, EnP_row, EnP_tab, LsP_l, LsP_pl, RP_lc, RP_yes, RP_pop, RP_lr, RP_fl, RP_dct1, RP_asL,  SP_nx, SP_seq, SP_drop, SP_ret, SP_set, SP_if, SP_sub, SP_sub2, SP_app, SP_app2, SP_tgt, SP_par, SP_parO, SP_str, SP_uT, SP_uN, SP_uC, SP_uS, SP_subK, SP_for, FP_fn, OP_gT, OP_gC, OP_gE, OP_some, OP_map, OP_add, OP_sub, OP_mul, OP_fdiv, OP_fmod, OP_pow, OP_neg, OP_lt, OP_le, OP_gt, OP_ge, OP_eqi, OP_nei, OP_bits, OP_int, OP_intb, OP_tup, OP_lst, OP_lenl, OP_lent, OP_lenf, OP_abs, OP_max2, OP_min2, OP_gcd, OP_ixl, OP_ixt, OP_ixf, OP_cat, OP_rep, OP_subb, OP_gN, OP_eqs, OP_eq00, OP_ne00, OP_dct1, OP_nepl, OP_eqpl, OP_isLp, OP_pop0, OP_apppl, OP_lenpl, OP_lentab, OP_inpl, OP_ninpl, OP_indk, OP_nindk, OP_setK, BQ_b, BP_t, BP_f, BP_d, BP_n, BP_eq, ↓reduceIte, Option.map_some, is_non_np, is_non_ng, is_non_tp, is_non_tg, is_non_fp, is_non_fg, is_bl_np, is_bl_ng, is_bl_tp, is_bl_tg, is_bl_fp, is_bl_fg, is_int_np, is_int_ng, is_int_tp, is_int_tg, is_int_fp, is_int_fg, is_str_np, is_str_ng, is_str_tp, is_str_tg, is_str_fp, is_str_fg, is_lst_np, is_lst_ng, is_lst_tp, is_lst_tg, is_lst_fp, is_lst_fg, is_tup_np, is_tup_ng, is_tup_tp, is_tup_tg, is_tup_fp, is_tup_fg, isi_non_int, isi_non_bool, isi_non_list, isi_non_tuple, isi_non_str, isi_non_dict, isi_non_lt, isi_bl_int, isi_bl_bool, isi_bl_list, isi_bl_tuple, isi_bl_str, isi_bl_dict, isi_bl_lt, isi_int_int, isi_int_bool, isi_int_list, isi_int_tuple, isi_int_str, isi_int_dict, isi_int_lt, isi_str_int, isi_str_bool, isi_str_list, isi_str_tuple, isi_str_str, isi_str_dict, isi_str_lt, isi_lst_int, isi_lst_bool, isi_lst_list, isi_lst_tuple, isi_lst_str, isi_lst_dict, isi_lst_lt, isi_tup_int, isi_tup_bool, isi_tup_list, isi_tup_tuple, isi_tup_str, isi_tup_dict, isi_tup_lt,  at0, at1, at2, at3, set0, set1, set2, setD_l, fillIO, putIO, ioN, permO, wpE_n, wpE_c, rst_n, rst_c, isFl, List.map_cons, List.map_nil, List.cons_append, List.nil_append, List.append_nil, List.replicate_succ, List.replicate_zero, Nat.reduceSub, Nat.reduceAdd, List.getElem?_cons_zero, List.getElem?_cons_succ, List.getD_cons_zero, List.getD_cons_succ, List.set_cons_zero, List.set_cons_succ, List.length_cons, List.length_nil, List.map_append])
        refine sp_random hg5 (by omega) (by decide) (by unfold Bd; exact Nat.lt_of_le_of_lt (show (2 : Int).natAbs ≤ 2 ^ 1 by decide) (Nat.pow_lt_pow_right (by decide) (by decide))) fun v g6 e v0 v1 hg6 he => ?_
        simp only [he]
        (try simp only [RP_varm, RP_holem, RP_c, RP_1, RP_2, RP_3, RP_f, RP_nil, RP_cons, RP_if, RP_and, RP_or, RP_not, RP_B, RP_qt, RP_perm, RP_pn, RP_ps, RP_sl, RP_call, RP_src2, SrcP_l, SrcP_t, SrcP_pl, SrcP_row, SrcP_tab, RP_r1, RP_r2, RP_en2, EnP_l, EnP_row, EnP_tab, LsP_l, LsP_pl, RP_lc, RP_yes, RP_pop, RP_lr, RP_fl, RP_dct1, RP_asL,  SP_nx, SP_seq, SP_drop, SP_ret, SP_set, SP_if, SP_sub, SP_sub2, SP_app, SP_app2, SP_tgt, SP_par, SP_parO, SP_str, SP_uT, SP_uN, SP_uC, SP_uS, SP_subK, SP_for, FP_fn, OP_gT, OP_gC, OP_gE, OP_some, OP_map, OP_add, OP_sub, OP_mul, OP_fdiv, OP_fmod, OP_pow, OP_neg, OP_lt, OP_le, OP_gt, OP_ge, OP_eqi, OP_nei, OP_bits, OP_int, OP_intb, OP_tup, OP_lst, OP_lenl, OP_lent, OP_lenf, OP_abs, OP_max2, OP_min2, OP_gcd, OP_ixl, OP_ixt, OP_ixf, OP_cat, OP_rep, OP_subb, OP_gN, OP_eqs, OP_eq00, OP_ne00, OP_dct1, OP_nepl, OP_eqpl, OP_isLp, OP_pop0, OP_apppl, OP_lenpl, OP_lentab, OP_inpl, OP_ninpl, OP_indk, OP_nindk, OP_setK, BQ_b, BP_t, BP_f, BP_d, BP_n, BP_eq, ↓reduceIte, Option.map_some, is_non_np, is_non_ng, is_non_tp, is_non_tg, is_non_fp, is_non_fg, is_bl_np, is_bl_ng, is_bl_tp, is_bl_tg, is_bl_fp, is_bl_fg, is_int_np, is_int_ng, is_int_tp, is_int_tg, is_int_fp, is_int_fg, is_str_np, is_str_ng, is_str_tp, is_str_tg, is_str_fp, is_str_fg, is_lst_np, is_lst_ng, is_lst_tp, is_lst_tg, is_lst_fp, is_lst_fg, is_tup_np, is_tup_ng, is_tup_tp, is_tup_tg, is_tup_fp, is_tup_fg, isi_non_int, isi_non_bool, isi_non_list, isi_non_tuple, isi_non_str, isi_non_dict, isi_non_lt, isi_bl_int, isi_bl_bool, isi_bl_list, isi_bl_tuple, isi_bl_str, isi_bl_dict, isi_bl_lt, isi_int_int, isi_int_bool, isi_int_list, isi_int_tuple, isi_int_str, isi_int_dict, isi_int_lt, isi_str_int, isi_str_bool, isi_str_list, isi_str_tuple, isi_str_str, isi_str_dict, isi_str_lt, isi_lst_int, isi_lst_bool, isi_lst_list, isi_lst_tuple, isi_lst_str, isi_lst_dict, isi_lst_lt, isi_tup_int, isi_tup_bool, isi_tup_list, isi_tup_tuple, isi_tup_str, isi_tup_dict, isi_tup_lt,  at0, at1, at2, at3, set0, set1, set2, setD_l, fillIO, putIO, ioN, permO, wpE_n, wpE_c, rst_n, rst_c, isFl, List.map_cons, List.map_nil, List.cons_append, List.nil_append, List.append_nil, List.replicate_succ, List.replicate_zero, Nat.reduceSub, Nat.reduceAdd, List.getElem?_cons_zero, List.getElem?_cons_succ, List.getD_cons_zero, List.getD_cons_succ, List.set_cons_zero, List.set_cons_succ, List.length_cons, List.length_nil, List.map_append])
        refine ⟨fun _ => ?_, fun _ => ?_⟩
        · refine ⟨g6, l ++ [j], hg6, by rw [List.map_append]; rfl, fun x hx => ?_, ?_, rfl⟩
          · rcases List.mem_append.mp hx with hx | hx
            · have := hl x hx; omega
            · have : x = j := by simpa using hx
              omega
          · refine List.pairwise_append.mpr ⟨hp, List.pairwise_singleton _ _, fun a ha b hb => ?_⟩
            have : b = j := by simpa using hb
            have := hl a ha
            omega
        · exact ⟨g6, l, hg6, rfl, fun x hx => Nat.lt_succ_of_lt (hl x hx), hp, rfl⟩
      · rintro acc e ⟨g5, l, hg5, rfl, hl, hp, rfl⟩
        have hn' : (rngD 0 n).length = n := by simp [rngD]
        rw [hn'] at hl hg5
        have hR : Ris n l := .of hl hp
        have hll : l.length ≤ n := len_le_of_nodup n (hp.imp fun h => Nat.ne_of_lt h) hl
        rw [List.length_map]
        refine ⟨by show _ ≤ 1000000; omega, ?_⟩
        rw [show D.lst (l.map fun k : Nat => D.int (k : Int)) = plD l from rfl]
        (try simp only [RP_varm, RP_holem, RP_c, RP_1, RP_2, RP_3, RP_f, RP_nil, RP_cons, RP_if, RP_and, RP_or, RP_not, RP_B, RP_qt, RP_perm, RP_pn, RP_ps, RP_sl, RP_call, RP_src2, SrcP_l, SrcP_t, SrcP_pl, SrcP_row, SrcP_tab, RP_r1, RP_r2, RP_en2, EnP_l, EnP_row, EnP_tab, LsP_l, LsP_pl, RP_lc, RP_yes, RP_pop, RP_lr, RP_fl, RP_dct1, RP_asL,  SP_nx, SP_seq, SP_drop, SP_ret, SP_set, SP_if, SP_sub, SP_sub2, SP_app, SP_app2, SP_tgt, SP_par, SP_parO, SP_str, SP_uT, SP_uN, SP_uC, SP_uS, SP_subK, SP_for, FP_fn, OP_gT, OP_gC, OP_gE, OP_some, OP_map, OP_add, OP_sub, OP_mul, OP_fdiv, OP_fmod, OP_pow, OP_neg, OP_lt, OP_le, OP_gt, OP_ge, OP_eqi, OP_nei, OP_bits, OP_int, OP_intb, OP_tup, OP_lst, OP_lenl, OP_lent, OP_lenf, OP_abs, OP_max2, OP_min2, OP_gcd, OP_ixl, OP_ixt, OP_ixf, OP_cat, OP_rep, OP_subb, OP_gN, OP_eqs, OP_eq00, OP_ne00, OP_dct1, OP_nepl, OP_eqpl, OP_isLp, OP_pop0, OP_apppl, OP_lenpl, OP_lentab, OP_inpl, OP_ninpl, OP_indk, OP_nindk, OP_setK, BQ_b, BP_t, BP_f, BP_d, BP_n, BP_eq, ↓reduceIte, Option.map_some, is_non_np, is_non_ng, is_non_tp, is_non_tg, is_non_fp, is_non_fg, is_bl_np, is_bl_ng, is_bl_tp, is_bl_tg, is_bl_fp, is_bl_fg, is_int_np, is_int_ng, is_int_tp, is_int_tg, is_int_fp, is_int_fg, is_str_np, is_str_ng, is_str_tp, is_str_tg, is_str_fp, is_str_fg, is_lst_np, is_lst_ng, is_lst_tp, is_lst_tg, is_lst_fp, is_lst_fg, is_tup_np, is_tup_ng, is_tup_tp, is_tup_tg, is_tup_fp, is_tup_fg, isi_non_int, isi_non_bool, isi_non_list, isi_non_tuple, isi_non_str, isi_non_dict, isi_non_lt, isi_bl_int, isi_bl_bool, isi_bl_list, isi_bl_tuple, isi_bl_str, isi_bl_dict, isi_bl_lt, isi_int_int, isi_int_bool, isi_int_list, isi_int_tuple, isi_int_str, isi_int_dict, isi_int_lt, isi_str_int, isi_str_bool, isi_str_list, isi_str_tuple, isi_str_str, isi_str_dict, isi_str_lt, isi_lst_int, isi_lst_bool, isi_lst_list, isi_lst_tuple, isi_lst_str, isi_lst_dict, isi_lst_lt, isi_tup_int, isi_tup_bool, isi_tup_list, isi_tup_tuple, isi_tup_str, isi_tup_dict, isi_tup_lt,  at0, at1, at2, at3, set0, set1, set2, setD_l, fillIO, putIO, ioN, permO, wpE_n, wpE_c, rst_n, rst_c, isFl, List.map_cons, List.map_nil, List.cons_append, List.nil_append, List.append_nil, List.replicate_succ, List.replicate_zero, Nat.reduceSub, Nat.reduceAdd, List.getElem?_cons_zero, List.getElem?_cons_succ, List.getD_cons_zero, List.getD_cons_succ, List.set_cons_zero, List.set_cons_succ, List.length_cons, List.length_nil, List.map_append])
        refine ⟨fun h1 => ⟨fun h2 => ?_, fun _ => ?_⟩, fun _ => ?_⟩
        · have hl2 : 2 ≤ l.length := by omega
          have hlen : (cutT T l).length = l.length := by unfold cutT; rw [List.length_map]
          have hro : ∀ r ∈ cutT T l, r.length = l.length := by
            intro r hr
            obtain ⟨i, _, rfl⟩ := List.mem_map.mp hr
            rw [List.length_map]
          have hok : okSame 40 (tabD (cutT T l)) := ok_tab (k := 37) (by rw [hlen]; show _ ≤ 1000000; omega) fun r hr => by rw [hro r hr]; show _ ≤ 1000000; omega
          refine lc_cut (T := T) (fun x hx => ?_) ?_
          · (try simp only [RP_varm, RP_holem, RP_c, RP_1, RP_2, RP_3, RP_f, RP_nil, RP_cons, RP_if, RP_and, RP_or, RP_not, RP_B, RP_qt, RP_perm, RP_pn, RP_ps, RP_sl, RP_call, RP_src2, SrcP_l, SrcP_t, SrcP_pl, SrcP_row, SrcP_tab, RP_r1, RP_r2, RP_en2, EnP_l, EnP_row, EnP_tab, LsP_l, LsP_pl, RP_lc, RP_yes, RP_pop, RP_lr, RP_fl, RP_dct1, RP_asL,  SP_nx, SP_seq, SP_drop, SP_ret, SP_set, SP_if, SP_sub, SP_sub2, SP_app, SP_app2, SP_tgt, SP_par, SP_parO, SP_str, SP_uT, SP_uN, SP_uC, SP_uS, SP_subK, SP_for, FP_fn, OP_gT, OP_gC, OP_gE, OP_some, OP_map, OP_add, OP_sub, OP_mul, OP_fdiv, OP_fmod, OP_pow, OP_neg, OP_lt, OP_le, OP_gt, OP_ge, OP_eqi, OP_nei, OP_bits, OP_int, OP_intb, OP_tup, OP_lst, OP_lenl, OP_lent, OP_lenf, OP_abs, OP_max2, OP_min2, OP_gcd, OP_ixl, OP_ixt, OP_ixf, OP_cat, OP_rep, OP_subb, OP_gN, OP_eqs, OP_eq00, OP_ne00, OP_dct1, OP_nepl, OP_eqpl, OP_isLp, OP_pop0, OP_apppl, OP_lenpl, OP_lentab, OP_inpl, OP_ninpl, OP_indk, OP_nindk, OP_setK, BQ_b, BP_t, BP_f, BP_d, BP_n, BP_eq, ↓reduceIte, Option.map_some, is_non_np, is_non_ng, is_non_tp, is_non_tg, is_non_fp, is_non_fg, is_bl_np, is_bl_ng, is_bl_tp, is_bl_tg, is_bl_fp, is_bl_fg, is_int_np, is_int_ng, is_int_tp, is_int_tg, is_int_fp, is_int_fg, is_str_np, is_str_ng, is_str_tp, is_str_tg, is_str_fp, is_str_fg, is_lst_np, is_lst_ng, is_lst_tp, is_lst_tg, is_lst_fp, is_lst_fg, is_tup_np, is_tup_ng, is_tup_tp, is_tup_tg, is_tup_fp, is_tup_fg, isi_non_int, isi_non_bool, isi_non_list, isi_non_tuple, isi_non_str, isi_non_dict, isi_non_lt, isi_bl_int, isi_bl_bool, isi_bl_list, isi_bl_tuple, isi_bl_str, isi_bl_dict, isi_bl_lt, isi_int_int, isi_int_bool, isi_int_list, isi_int_tuple, isi_int_str, isi_int_dict, isi_int_lt, isi_str_int, isi_str_bool, isi_str_list, isi_str_tuple, isi_str_str, isi_str_dict, isi_str_lt, isi_lst_int, isi_lst_bool, isi_lst_list, isi_lst_tuple, isi_lst_str, isi_lst_dict, isi_lst_lt, isi_tup_int, isi_tup_bool, isi_tup_list, isi_tup_tuple, isi_tup_str, isi_tup_dict, isi_tup_lt,  at0, at1, at2, at3, set0, set1, set2, setD_l, fillIO, putIO, ioN, permO, wpE_n, wpE_c, rst_n, rst_c, isFl, List.map_cons, List.map_nil, List.cons_append, List.nil_append, List.append_nil, List.replicate_succ, List.replicate_zero, Nat.reduceSub, Nat.reduceAdd, List.getElem?_cons_zero, List.getElem?_cons_succ, List.getD_cons_zero, List.getD_cons_succ, List.set_cons_zero, List.set_cons_succ, List.length_cons, List.length_nil, List.map_append])
            refine RP_lcG (fun j => .int (ent T x j)) (fun j hj => ?_) ?_
            · (try simp only [RP_varm, RP_holem, RP_c, RP_1, RP_2, RP_3, RP_f, RP_nil, RP_cons, RP_if, RP_and, RP_or, RP_not, RP_B, RP_qt, RP_perm, RP_pn, RP_ps, RP_sl, RP_call, RP_src2, SrcP_l, SrcP_t, SrcP_pl, SrcP_row, SrcP_tab, RP_r1, RP_r2, RP_en2, EnP_l, EnP_row, EnP_tab, LsP_l, LsP_pl, RP_lc, RP_yes, RP_pop, RP_lr, RP_fl, RP_dct1, RP_asL,  SP_nx, SP_seq, SP_drop, SP_ret, SP_set, SP_if, SP_sub, SP_sub2, SP_app, SP_app2, SP_tgt, SP_par, SP_parO, SP_str, SP_uT, SP_uN, SP_uC, SP_uS, SP_subK, SP_for, FP_fn, OP_gT, OP_gC, OP_gE, OP_some, OP_map, OP_add, OP_sub, OP_mul, OP_fdiv, OP_fmod, OP_pow, OP_neg, OP_lt, OP_le, OP_gt, OP_ge, OP_eqi, OP_nei, OP_bits, OP_int, OP_intb, OP_tup, OP_lst, OP_lenl, OP_lent, OP_lenf, OP_abs, OP_max2, OP_min2, OP_gcd, OP_ixl, OP_ixt, OP_ixf, OP_cat, OP_rep, OP_subb, OP_gN, OP_eqs, OP_eq00, OP_ne00, OP_dct1, OP_nepl, OP_eqpl, OP_isLp, OP_pop0, OP_apppl, OP_lenpl, OP_lentab, OP_inpl, OP_ninpl, OP_indk, OP_nindk, OP_setK, BQ_b, BP_t, BP_f, BP_d, BP_n, BP_eq, ↓reduceIte, Option.map_some, is_non_np, is_non_ng, is_non_tp, is_non_tg, is_non_fp, is_non_fg, is_bl_np, is_bl_ng, is_bl_tp, is_bl_tg, is_bl_fp, is_bl_fg, is_int_np, is_int_ng, is_int_tp, is_int_tg, is_int_fp, is_int_fg, is_str_np, is_str_ng, is_str_tp, is_str_tg, is_str_fp, is_str_fg, is_lst_np, is_lst_ng, is_lst_tp, is_lst_tg, is_lst_fp, is_lst_fg, is_tup_np, is_tup_ng, is_tup_tp, is_tup_tg, is_tup_fp, is_tup_fg, isi_non_int, isi_non_bool, isi_non_list, isi_non_tuple, isi_non_str, isi_non_dict, isi_non_lt, isi_bl_int, isi_bl_bool, isi_bl_list, isi_bl_tuple, isi_bl_str, isi_bl_dict, isi_bl_lt, isi_int_int, isi_int_bool, isi_int_list, isi_int_tuple, isi_int_str, isi_int_dict, isi_int_lt, isi_str_int, isi_str_bool, isi_str_list, isi_str_tuple, isi_str_str, isi_str_dict, isi_str_lt, isi_lst_int, isi_lst_bool, isi_lst_list, isi_lst_tuple, isi_lst_str, isi_lst_dict, isi_lst_lt, isi_tup_int, isi_tup_bool, isi_tup_list, isi_tup_tuple, isi_tup_str, isi_tup_dict, isi_tup_lt,  at0, at1, at2, at3, set0, set1, set2, setD_l, fillIO, putIO, ioN, permO, wpE_n, wpE_c, rst_n, rst_c, isFl, List.map_cons, List.map_nil, List.cons_append, List.nil_append, List.append_nil, List.replicate_succ, List.replicate_zero, Nat.reduceSub, Nat.reduceAdd, List.getElem?_cons_zero, List.getElem?_cons_succ, List.getD_cons_zero, List.getD_cons_succ, List.set_cons_zero, List.set_cons_succ, List.length_cons, List.length_nil, List.map_append])
              rw [OP_entS sq (hl x hx) (hl j hj)]
              (first | exact trivial | (simp; done) | (simp_all; done))
            · refine ⟨by rw [List.length_map]; show _ ≤ 1000000; omega, ?_, ?_⟩
              · unfold rowD
                rw [List.map_map]
                rfl
              · rfl
          · refine ⟨by rw [List.length_map, hlen]; show _ ≤ 1000000; omega, ?_⟩
            rw [show D.lst ((cutT T l).map rowD) = tabD (cutT T l) from rfl]
            (try simp only [RP_varm, RP_holem, RP_c, RP_1, RP_2, RP_3, RP_f, RP_nil, RP_cons, RP_if, RP_and, RP_or, RP_not, RP_B, RP_qt, RP_perm, RP_pn, RP_ps, RP_sl, RP_call, RP_src2, SrcP_l, SrcP_t, SrcP_pl, SrcP_row, SrcP_tab, RP_r1, RP_r2, RP_en2, EnP_l, EnP_row, EnP_tab, LsP_l, LsP_pl, RP_lc, RP_yes, RP_pop, RP_lr, RP_fl, RP_dct1, RP_asL,  SP_nx, SP_seq, SP_drop, SP_ret, SP_set, SP_if, SP_sub, SP_sub2, SP_app, SP_app2, SP_tgt, SP_par, SP_parO, SP_str, SP_uT, SP_uN, SP_uC, SP_uS, SP_subK, SP_for, FP_fn, OP_gT, OP_gC, OP_gE, OP_some, OP_map, OP_add, OP_sub, OP_mul, OP_fdiv, OP_fmod, OP_pow, OP_neg, OP_lt, OP_le, OP_gt, OP_ge, OP_eqi, OP_nei, OP_bits, OP_int, OP_intb, OP_tup, OP_lst, OP_lenl, OP_lent, OP_lenf, OP_abs, OP_max2, OP_min2, OP_gcd, OP_ixl, OP_ixt, OP_ixf, OP_cat, OP_rep, OP_subb, OP_gN, OP_eqs, OP_eq00, OP_ne00, OP_dct1, OP_nepl, OP_eqpl, OP_isLp, OP_pop0, OP_apppl, OP_lenpl, OP_lentab, OP_inpl, OP_ninpl, OP_indk, OP_nindk, OP_setK, BQ_b, BP_t, BP_f, BP_d, BP_n, BP_eq, ↓reduceIte, Option.map_some, is_non_np, is_non_ng, is_non_tp, is_non_tg, is_non_fp, is_non_fg, is_bl_np, is_bl_ng, is_bl_tp, is_bl_tg, is_bl_fp, is_bl_fg, is_int_np, is_int_ng, is_int_tp, is_int_tg, is_int_fp, is_int_fg, is_str_np, is_str_ng, is_str_tp, is_str_tg, is_str_fp, is_str_fg, is_lst_np, is_lst_ng, is_lst_tp, is_lst_tg, is_lst_fp, is_lst_fg, is_tup_np, is_tup_ng, is_tup_tp, is_tup_tg, is_tup_fp, is_tup_fg, isi_non_int, isi_non_bool, isi_non_list, isi_non_tuple, isi_non_str, isi_non_dict, isi_non_lt, isi_bl_int, isi_bl_bool, isi_bl_list, isi_bl_tuple, isi_bl_str, isi_bl_dict, isi_bl_lt, isi_int_int, isi_int_bool, isi_int_list, isi_int_tuple, isi_int_str, isi_int_dict, isi_int_lt, isi_str_int, isi_str_bool, isi_str_list, isi_str_tuple, isi_str_str, isi_str_dict, isi_str_lt, isi_lst_int, isi_lst_bool, isi_lst_list, isi_lst_tuple, isi_lst_str, isi_lst_dict, isi_lst_lt, isi_tup_int, isi_tup_bool, isi_tup_list, isi_tup_tuple, isi_tup_str, isi_tup_dict, isi_tup_lt,  at0, at1, at2, at3, set0, set1, set2, setD_l, fillIO, putIO, ioN, permO, wpE_n, wpE_c, rst_n, rst_c, isFl, List.map_cons, List.map_nil, List.cons_append, List.nil_append, List.append_nil, List.replicate_succ, List.replicate_zero, Nat.reduceSub, Nat.reduceAdd, List.getElem?_cons_zero, List.getElem?_cons_succ, List.getD_cons_zero, List.getD_cons_succ, List.set_cons_zero, List.set_cons_succ, List.length_cons, List.length_nil, List.map_append])
            refine sp_cut tab hR (by omega) (by omega) fun e => ?_
            (try simp only [RP_varm, RP_holem, RP_c, RP_1, RP_2, RP_3, RP_f, RP_nil, RP_cons, RP_if, RP_and, RP_or, RP_not, RP_B, RP_qt, RP_perm, RP_pn, RP_ps, RP_sl, RP_call, RP_src2, SrcP_l, SrcP_t, SrcP_pl, SrcP_row, SrcP_tab, RP_r1, RP_r2, RP_en2, EnP_l, EnP_row, EnP_tab, LsP_l, LsP_pl, RP_lc, RP_yes, RP_pop, RP_lr, RP_fl, RP_dct1, RP_asL,  SP_nx, SP_seq, SP_drop, SP_ret, SP_set, SP_if, SP_sub, SP_sub2, SP_app, SP_app2, SP_tgt, SP_par, SP_parO, SP_str, SP_uT, SP_uN, SP_uC, SP_uS, SP_subK, SP_for, FP_fn, OP_gT, OP_gC, OP_gE, OP_some, OP_map, OP_add, OP_sub, OP_mul, OP_fdiv, OP_fmod, OP_pow, OP_neg, OP_lt, OP_le, OP_gt, OP_ge, OP_eqi, OP_nei, OP_bits, OP_int, OP_intb, OP_tup, OP_lst, OP_lenl, OP_lent, OP_lenf, OP_abs, OP_max2, OP_min2, OP_gcd, OP_ixl, OP_ixt, OP_ixf, OP_cat, OP_rep, OP_subb, OP_gN, OP_eqs, OP_eq00, OP_ne00, OP_dct1, OP_nepl, OP_eqpl, OP_isLp, OP_pop0, OP_apppl, OP_lenpl, OP_lentab, OP_inpl, OP_ninpl, OP_indk, OP_nindk, OP_setK, BQ_b, BP_t, BP_f, BP_d, BP_n, BP_eq, ↓reduceIte, Option.map_some, is_non_np, is_non_ng, is_non_tp, is_non_tg, is_non_fp, is_non_fg, is_bl_np, is_bl_ng, is_bl_tp, is_bl_tg, is_bl_fp, is_bl_fg, is_int_np, is_int_ng, is_int_tp, is_int_tg, is_int_fp, is_int_fg, is_str_np, is_str_ng, is_str_tp, is_str_tg, is_str_fp, is_str_fg, is_lst_np, is_lst_ng, is_lst_tp, is_lst_tg, is_lst_fp, is_lst_fg, is_tup_np, is_tup_ng, is_tup_tp, is_tup_tg, is_tup_fp, is_tup_fg, isi_non_int, isi_non_bool, isi_non_list, isi_non_tuple, isi_non_str, isi_non_dict, isi_non_lt, isi_bl_int, isi_bl_bool, isi_bl_list, isi_bl_tuple, isi_bl_str, isi_bl_dict, isi_bl_lt, isi_int_int, isi_int_bool, isi_int_list, isi_int_tuple, isi_int_str, isi_int_dict, isi_int_lt, isi_str_int, isi_str_bool, isi_str_list, isi_str_tuple, isi_str_str, isi_str_dict, isi_str_lt, isi_lst_int, isi_lst_bool, isi_lst_list, isi_lst_tuple, isi_lst_str, isi_lst_dict, isi_lst_lt, isi_tup_int, isi_tup_bool, isi_tup_list, isi_tup_tuple, isi_tup_str, isi_tup_dict, isi_tup_lt,  at0, at1, at2, at3, set0, set1, set2, setD_l, fillIO, putIO, ioN, permO, wpE_n, wpE_c, rst_n, rst_c, isFl, List.map_cons, List.map_nil, List.cons_append, List.nil_append, List.append_nil, List.replicate_succ, List.replicate_zero, Nat.reduceSub, Nat.reduceAdd, List.getElem?_cons_zero, List.getElem?_cons_succ, List.getD_cons_zero, List.getD_cons_succ, List.set_cons_zero, List.set_cons_succ, List.length_cons, List.length_nil, List.map_append])
            refine FP_same hok rfl fun e => ?_
            (try simp only [RP_varm, RP_holem, RP_c, RP_1, RP_2, RP_3, RP_f, RP_nil, RP_cons, RP_if, RP_and, RP_or, RP_not, RP_B, RP_qt, RP_perm, RP_pn, RP_ps, RP_sl, RP_call, RP_src2, SrcP_l, SrcP_t, SrcP_pl, SrcP_row, SrcP_tab, RP_r1, RP_r2, RP_en2, EnP_l, EnP_row, EnP_tab, LsP_l, LsP_pl, RP_lc, RP_yes, RP_pop, RP_lr, RP_fl, RP_dct1, RP_asL,  SP_nx, SP_seq, SP_drop, SP_ret, SP_set, SP_if, SP_sub, SP_sub2, SP_app, SP_app2, SP_tgt, SP_par, SP_parO, SP_str, SP_uT, SP_uN, SP_uC, SP_uS, SP_subK, SP_for, FP_fn, OP_gT, OP_gC, OP_gE, OP_some, OP_map, OP_add, OP_sub, OP_mul, OP_fdiv, OP_fmod, OP_pow, OP_neg, OP_lt, OP_le, OP_gt, OP_ge, OP_eqi, OP_nei, OP_bits, OP_int, OP_intb, OP_tup, OP_lst, OP_lenl, OP_lent, OP_lenf, OP_abs, OP_max2, OP_min2, OP_gcd, OP_ixl, OP_ixt, OP_ixf, OP_cat, OP_rep, OP_subb, OP_gN, OP_eqs, OP_eq00, OP_ne00, OP_dct1, OP_nepl, OP_eqpl, OP_isLp, OP_pop0, OP_apppl, OP_lenpl, OP_lentab, OP_inpl, OP_ninpl, OP_indk, OP_nindk, OP_setK, BQ_b, BP_t, BP_f, BP_d, BP_n, BP_eq, ↓reduceIte, Option.map_some, is_non_np, is_non_ng, is_non_tp, is_non_tg, is_non_fp, is_non_fg, is_bl_np, is_bl_ng, is_bl_tp, is_bl_tg, is_bl_fp, is_bl_fg, is_int_np, is_int_ng, is_int_tp, is_int_tg, is_int_fp, is_int_fg, is_str_np, is_str_ng, is_str_tp, is_str_tg, is_str_fp, is_str_fg, is_lst_np, is_lst_ng, is_lst_tp, is_lst_tg, is_lst_fp, is_lst_fg, is_tup_np, is_tup_ng, is_tup_tp, is_tup_tg, is_tup_fp, is_tup_fg, isi_non_int, isi_non_bool, isi_non_list, isi_non_tuple, isi_non_str, isi_non_dict, isi_non_lt, isi_bl_int, isi_bl_bool, isi_bl_list, isi_bl_tuple, isi_bl_str, isi_bl_dict, isi_bl_lt, isi_int_int, isi_int_bool, isi_int_list, isi_int_tuple, isi_int_str, isi_int_dict, isi_int_lt, isi_str_int, isi_str_bool, isi_str_list, isi_str_tuple, isi_str_str, isi_str_dict, isi_str_lt, isi_lst_int, isi_lst_bool, isi_lst_list, isi_lst_tuple, isi_lst_str, isi_lst_dict, isi_lst_lt, isi_tup_int, isi_tup_bool, isi_tup_list, isi_tup_tuple, isi_tup_str, isi_tup_dict, isi_tup_lt,  at0, at1, at2, at3, set0, set1, set2, setD_l, fillIO, putIO, ioN, permO, wpE_n, wpE_c, rst_n, rst_c, isFl, List.map_cons, List.map_nil, List.cons_append, List.nil_append, List.append_nil, List.replicate_succ, List.replicate_zero, Nat.reduceSub, Nat.reduceAdd, List.getElem?_cons_zero, List.getElem?_cons_succ, List.getD_cons_zero, List.getD_cons_succ, List.set_cons_zero, List.set_cons_succ, List.length_cons, List.length_nil, List.map_append])
            obtain ⟨r, C, hC⟩ : ∃ r C, cutT T l = r :: C := by
              cases e : cutT T l with
              | nil => rw [e] at hlen; simp at hlen; omega
              | cons r C => exact ⟨r, C, rfl⟩
            have row0 : ∀ R : List D × Nat × List D → Prop, OP (rowAt (.int 0) (some (some (tabD (cutT T l))))) R = R ((cutT T l).map rowD, 0, r.map .int) := by
              intro R
              rw [hC]
              show OP ((ixN ((r :: C).map rowD).length 0).bind fun j => match ((r :: C).map rowD)[j]? with | some (.lst m) => some ((r :: C).map rowD, j, m) | _ => none) R = _
              rw [show ixN ((r :: C).map rowD).length 0 = some 0 by unfold ixN; simp]
              rfl
            refine ⟨trivial, trivial, ?_⟩
            rw [row0, row0, OP_appl]
            refine ⟨by rw [List.length_map, hro r (by rw [hC]; exact List.mem_cons_self)]; show _ < 1000000; omega, ?_⟩
            refine sp_cut tab hR (by omega) (by omega) fun e => ?_
            refine FP_same hok rfl fun e => ?_
            (try simp only [RP_varm, RP_holem, RP_c, RP_1, RP_2, RP_3, RP_f, RP_nil, RP_cons, RP_if, RP_and, RP_or, RP_not, RP_B, RP_qt, RP_perm, RP_pn, RP_ps, RP_sl, RP_call, RP_src2, SrcP_l, SrcP_t, SrcP_pl, SrcP_row, SrcP_tab, RP_r1, RP_r2, RP_en2, EnP_l, EnP_row, EnP_tab, LsP_l, LsP_pl, RP_lc, RP_yes, RP_pop, RP_lr, RP_fl, RP_dct1, RP_asL,  SP_nx, SP_seq, SP_drop, SP_ret, SP_set, SP_if, SP_sub, SP_sub2, SP_app, SP_app2, SP_tgt, SP_par, SP_parO, SP_str, SP_uT, SP_uN, SP_uC, SP_uS, SP_subK, SP_for, FP_fn, OP_gT, OP_gC, OP_gE, OP_some, OP_map, OP_add, OP_sub, OP_mul, OP_fdiv, OP_fmod, OP_pow, OP_neg, OP_lt, OP_le, OP_gt, OP_ge, OP_eqi, OP_nei, OP_bits, OP_int, OP_intb, OP_tup, OP_lst, OP_lenl, OP_lent, OP_lenf, OP_abs, OP_max2, OP_min2, OP_gcd, OP_ixl, OP_ixt, OP_ixf, OP_cat, OP_rep, OP_subb, OP_gN, OP_eqs, OP_eq00, OP_ne00, OP_dct1, OP_nepl, OP_eqpl, OP_isLp, OP_pop0, OP_apppl, OP_lenpl, OP_lentab, OP_inpl, OP_ninpl, OP_indk, OP_nindk, OP_setK, BQ_b, BP_t, BP_f, BP_d, BP_n, BP_eq, ↓reduceIte, Option.map_some, is_non_np, is_non_ng, is_non_tp, is_non_tg, is_non_fp, is_non_fg, is_bl_np, is_bl_ng, is_bl_tp, is_bl_tg, is_bl_fp, is_bl_fg, is_int_np, is_int_ng, is_int_tp, is_int_tg, is_int_fp, is_int_fg, is_str_np, is_str_ng, is_str_tp, is_str_tg, is_str_fp, is_str_fg, is_lst_np, is_lst_ng, is_lst_tp, is_lst_tg, is_lst_fp, is_lst_fg, is_tup_np, is_tup_ng, is_tup_tp, is_tup_tg, is_tup_fp, is_tup_fg, isi_non_int, isi_non_bool, isi_non_list, isi_non_tuple, isi_non_str, isi_non_dict, isi_non_lt, isi_bl_int, isi_bl_bool, isi_bl_list, isi_bl_tuple, isi_bl_str, isi_bl_dict, isi_bl_lt, isi_int_int, isi_int_bool, isi_int_list, isi_int_tuple, isi_int_str, isi_int_dict, isi_int_lt, isi_str_int, isi_str_bool, isi_str_list, isi_str_tuple, isi_str_str, isi_str_dict, isi_str_lt, isi_lst_int, isi_lst_bool, isi_lst_list, isi_lst_tuple, isi_lst_str, isi_lst_dict, isi_lst_lt, isi_tup_int, isi_tup_bool, isi_tup_list, isi_tup_tuple, isi_tup_str, isi_tup_dict, isi_tup_lt,  at0, at1, at2, at3, set0, set1, set2, setD_l, fillIO, putIO, ioN, permO, wpE_n, wpE_c, rst_n, rst_c, isFl, List.map_cons, List.map_nil, List.cons_append, List.nil_append, List.append_nil, List.replicate_succ, List.replicate_zero, Nat.reduceSub, Nat.reduceAdd, List.getElem?_cons_zero, List.getElem?_cons_succ, List.getD_cons_zero, List.getD_cons_succ, List.set_cons_zero, List.set_cons_succ, List.length_cons, List.length_nil, List.map_append])
            exact ⟨trivial, g5, _, _, _, _, hg5.mono (by omega), rfl⟩
        · exact ⟨g5, _, _, _, _, hg5.mono (by omega), rfl⟩
        · exact ⟨g5, _, _, _, _, hg5.mono (by omega), rfl⟩
    · rintro e ⟨g4, x8, x9, x11, x12, hg4, rfl⟩
      refine hN _ ?_
      (try simp only [RP_varm, RP_holem, RP_c, RP_1, RP_2, RP_3, RP_f, RP_nil, RP_cons, RP_if, RP_and, RP_or, RP_not, RP_B, RP_qt, RP_perm, RP_pn, RP_ps, RP_sl, RP_call, RP_src2, SrcP_l, SrcP_t, SrcP_pl, SrcP_row, SrcP_tab, RP_r1, RP_r2, RP_en2, EnP_l, EnP_row, EnP_tab, LsP_l, LsP_pl, RP_lc, RP_yes, RP_pop, RP_lr, RP_fl, RP_dct1, RP_asL,  SP_nx, SP_seq, SP_drop, SP_ret, SP_set, SP_if, SP_sub, SP_sub2, SP_app, SP_app2, SP_tgt, SP_par, SP_parO, SP_str, SP_uT, SP_uN, SP_uC, SP_uS, SP_subK, SP_for, FP_fn, OP_gT, OP_gC, OP_gE, OP_some, OP_map, OP_add, OP_sub, OP_mul, OP_fdiv, OP_fmod, OP_pow, OP_neg, OP_lt, OP_le, OP_gt, OP_ge, OP_eqi, OP_nei, OP_bits, OP_int, OP_intb, OP_tup, OP_lst, OP_lenl, OP_lent, OP_lenf, OP_abs, OP_max2, OP_min2, OP_gcd, OP_ixl, OP_ixt, OP_ixf, OP_cat, OP_rep, OP_subb, OP_gN, OP_eqs, OP_eq00, OP_ne00, OP_dct1, OP_nepl, OP_eqpl, OP_isLp, OP_pop0, OP_apppl, OP_lenpl, OP_lentab, OP_inpl, OP_ninpl, OP_indk, OP_nindk, OP_setK, BQ_b, BP_t, BP_f, BP_d, BP_n, BP_eq, ↓reduceIte, Option.map_some, is_non_np, is_non_ng, is_non_tp, is_non_tg, is_non_fp, is_non_fg, is_bl_np, is_bl_ng, is_bl_tp, is_bl_tg, is_bl_fp, is_bl_fg, is_int_np, is_int_ng, is_int_tp, is_int_tg, is_int_fp, is_int_fg, is_str_np, is_str_ng, is_str_tp, is_str_tg, is_str_fp, is_str_fg, is_lst_np, is_lst_ng, is_lst_tp, is_lst_tg, is_lst_fp, is_lst_fg, is_tup_np, is_tup_ng, is_tup_tp, is_tup_tg, is_tup_fp, is_tup_fg, isi_non_int, isi_non_bool, isi_non_list, isi_non_tuple, isi_non_str, isi_non_dict, isi_non_lt, isi_bl_int, isi_bl_bool, isi_bl_list, isi_bl_tuple, isi_bl_str, isi_bl_dict, isi_bl_lt, isi_int_int, isi_int_bool, isi_int_list, isi_int_tuple, isi_int_str, isi_int_dict, isi_int_lt, isi_str_int, isi_str_bool, isi_str_list, isi_str_tuple, isi_str_str, isi_str_dict, isi_str_lt, isi_lst_int, isi_lst_bool, isi_lst_list, isi_lst_tuple, isi_lst_str, isi_lst_dict, isi_lst_lt, isi_tup_int, isi_tup_bool, isi_tup_list, isi_tup_tuple, isi_tup_str, isi_tup_dict, isi_tup_lt,  at0, at1, at2, at3, set0, set1, set2, setD_l, fillIO, putIO, ioN, permO, wpE_n, wpE_c, rst_n, rst_c, isFl, List.map_cons, List.map_nil, List.cons_append, List.nil_append, List.append_nil, List.replicate_succ, List.replicate_zero, Nat.reduceSub, Nat.reduceAdd, List.getElem?_cons_zero, List.getElem?_cons_succ, List.getD_cons_zero, List.getD_cons_succ, List.set_cons_zero, List.set_cons_succ, List.length_cons, List.length_nil, List.map_append])
      refine hrep _ ?_
      (try simp only [RP_varm, RP_holem, RP_c, RP_1, RP_2, RP_3, RP_f, RP_nil, RP_cons, RP_if, RP_and, RP_or, RP_not, RP_B, RP_qt, RP_perm, RP_pn, RP_ps, RP_sl, RP_call, RP_src2, SrcP_l, SrcP_t, SrcP_pl, SrcP_row, SrcP_tab, RP_r1, RP_r2, RP_en2, EnP_l, EnP_row, EnP_tab, LsP_l, LsP_pl, RP_lc, RP_yes, RP_pop, RP_lr, RP_fl, RP_dct1, RP_asL,  SP_nx, SP_seq, SP_drop, SP_ret, SP_set, SP_if, SP_sub, SP_sub2, SP_app, SP_app2, SP_tgt, SP_par, SP_parO, SP_str, SP_uT, SP_uN, SP_uC, SP_uS, SP_subK, SP_for, FP_fn, OP_gT, OP_gC, OP_gE, OP_some, OP_map, OP_add, OP_sub, OP_mul, OP_fdiv, OP_fmod, OP_pow, OP_neg, OP_lt, OP_le, OP_gt, OP_ge, OP_eqi, OP_nei, OP_bits, OP_int, OP_intb, OP_tup, OP_lst, OP_lenl, OP_lent, OP_lenf, OP_abs, OP_max2, OP_min2, OP_gcd, OP_ixl, OP_ixt, OP_ixf, OP_cat, OP_rep, OP_subb, OP_gN, OP_eqs, OP_eq00, OP_ne00, OP_dct1, OP_nepl, OP_eqpl, OP_isLp, OP_pop0, OP_apppl, OP_lenpl, OP_lentab, OP_inpl, OP_ninpl, OP_indk, OP_nindk, OP_setK, BQ_b, BP_t, BP_f, BP_d, BP_n, BP_eq, ↓reduceIte, Option.map_some, is_non_np, is_non_ng, is_non_tp, is_non_tg, is_non_fp, is_non_fg, is_bl_np, is_bl_ng, is_bl_tp, is_bl_tg, is_bl_fp, is_bl_fg, is_int_np, is_int_ng, is_int_tp, is_int_tg, is_int_fp, is_int_fg, is_str_np, is_str_ng, is_str_tp, is_str_tg, is_str_fp, is_str_fg, is_lst_np, is_lst_ng, is_lst_tp, is_lst_tg, is_lst_fp, is_lst_fg, is_tup_np, is_tup_ng, is_tup_tp, is_tup_tg, is_tup_fp, is_tup_fg, isi_non_int, isi_non_bool, isi_non_list, isi_non_tuple, isi_non_str, isi_non_dict, isi_non_lt, isi_bl_int, isi_bl_bool, isi_bl_list, isi_bl_tuple, isi_bl_str, isi_bl_dict, isi_bl_lt, isi_int_int, isi_int_bool, isi_int_list, isi_int_tuple, isi_int_str, isi_int_dict, isi_int_lt, isi_str_int, isi_str_bool, isi_str_list, isi_str_tuple, isi_str_str, isi_str_dict, isi_str_lt, isi_lst_int, isi_lst_bool, isi_lst_list, isi_lst_tuple, isi_lst_str, isi_lst_dict, isi_lst_lt, isi_tup_int, isi_tup_bool, isi_tup_list, isi_tup_tuple, isi_tup_str, isi_tup_dict, isi_tup_lt,  at0, at1, at2, at3, set0, set1, set2, setD_l, fillIO, putIO, ioN, permO, wpE_n, wpE_c, rst_n, rst_c, isFl, List.map_cons, List.map_nil, List.cons_append, List.nil_append, List.append_nil, List.replicate_succ, List.replicate_zero, Nat.reduceSub, Nat.reduceAdd, List.getElem?_cons_zero, List.getElem?_cons_succ, List.getD_cons_zero, List.getD_cons_succ, List.set_cons_zero, List.set_cons_succ, List.length_cons, List.length_nil, List.map_append])
      rw [decide_true]
      exact q _
theorem law_true (ns : List Int) : FP (m_law [.fro (ns.map .int)]) fun d _ => d = .bl true := by
  unfold m_law b_law
  (try simp only [RP_varm, RP_holem, RP_c, RP_1, RP_2, RP_3, RP_f, RP_nil, RP_cons, RP_if, RP_and, RP_or, RP_not, RP_B, RP_qt, RP_perm, RP_pn, RP_ps, RP_sl, RP_call, RP_src2, SrcP_l, SrcP_t, SrcP_pl, SrcP_row, SrcP_tab, RP_r1, RP_r2, RP_en2, EnP_l, EnP_row, EnP_tab, LsP_l, LsP_pl, RP_lc, RP_yes, RP_pop, RP_lr, RP_fl, RP_dct1, RP_asL,  SP_nx, SP_seq, SP_drop, SP_ret, SP_set, SP_if, SP_sub, SP_sub2, SP_app, SP_app2, SP_tgt, SP_par, SP_parO, SP_str, SP_uT, SP_uN, SP_uC, SP_uS, SP_subK, SP_for, FP_fn, OP_gT, OP_gC, OP_gE, OP_some, OP_map, OP_add, OP_sub, OP_mul, OP_fdiv, OP_fmod, OP_pow, OP_neg, OP_lt, OP_le, OP_gt, OP_ge, OP_eqi, OP_nei, OP_bits, OP_int, OP_intb, OP_tup, OP_lst, OP_lenl, OP_lent, OP_lenf, OP_abs, OP_max2, OP_min2, OP_gcd, OP_ixl, OP_ixt, OP_ixf, OP_cat, OP_rep, OP_subb, OP_gN, OP_eqs, OP_eq00, OP_ne00, OP_dct1, OP_nepl, OP_eqpl, OP_isLp, OP_pop0, OP_apppl, OP_lenpl, OP_lentab, OP_inpl, OP_ninpl, OP_indk, OP_nindk, OP_setK, BQ_b, BP_t, BP_f, BP_d, BP_n, BP_eq, ↓reduceIte, Option.map_some, is_non_np, is_non_ng, is_non_tp, is_non_tg, is_non_fp, is_non_fg, is_bl_np, is_bl_ng, is_bl_tp, is_bl_tg, is_bl_fp, is_bl_fg, is_int_np, is_int_ng, is_int_tp, is_int_tg, is_int_fp, is_int_fg, is_str_np, is_str_ng, is_str_tp, is_str_tg, is_str_fp, is_str_fg, is_lst_np, is_lst_ng, is_lst_tp, is_lst_tg, is_lst_fp, is_lst_fg, is_tup_np, is_tup_ng, is_tup_tp, is_tup_tg, is_tup_fp, is_tup_fg, isi_non_int, isi_non_bool, isi_non_list, isi_non_tuple, isi_non_str, isi_non_dict, isi_non_lt, isi_bl_int, isi_bl_bool, isi_bl_list, isi_bl_tuple, isi_bl_str, isi_bl_dict, isi_bl_lt, isi_int_int, isi_int_bool, isi_int_list, isi_int_tuple, isi_int_str, isi_int_dict, isi_int_lt, isi_str_int, isi_str_bool, isi_str_list, isi_str_tuple, isi_str_str, isi_str_dict, isi_str_lt, isi_lst_int, isi_lst_bool, isi_lst_list, isi_lst_tuple, isi_lst_str, isi_lst_dict, isi_lst_lt, isi_tup_int, isi_tup_bool, isi_tup_list, isi_tup_tuple, isi_tup_str, isi_tup_dict, isi_tup_lt,  at0, at1, at2, at3, set0, set1, set2, setD_l, fillIO, putIO, ioN, permO, wpE_n, wpE_c, rst_n, rst_c, isFl, List.map_cons, List.map_nil, List.cons_append, List.nil_append, List.append_nil, List.replicate_succ, List.replicate_zero, Nat.reduceSub, Nat.reduceAdd, List.getElem?_cons_zero, List.getElem?_cons_succ, List.getD_cons_zero, List.getD_cons_succ, List.set_cons_zero, List.set_cons_succ, List.length_cons, List.length_nil, List.map_append])
  refine sp_case (k := 0) (by decide) fun e => ?_
  (try simp only [RP_varm, RP_holem, RP_c, RP_1, RP_2, RP_3, RP_f, RP_nil, RP_cons, RP_if, RP_and, RP_or, RP_not, RP_B, RP_qt, RP_perm, RP_pn, RP_ps, RP_sl, RP_call, RP_src2, SrcP_l, SrcP_t, SrcP_pl, SrcP_row, SrcP_tab, RP_r1, RP_r2, RP_en2, EnP_l, EnP_row, EnP_tab, LsP_l, LsP_pl, RP_lc, RP_yes, RP_pop, RP_lr, RP_fl, RP_dct1, RP_asL,  SP_nx, SP_seq, SP_drop, SP_ret, SP_set, SP_if, SP_sub, SP_sub2, SP_app, SP_app2, SP_tgt, SP_par, SP_parO, SP_str, SP_uT, SP_uN, SP_uC, SP_uS, SP_subK, SP_for, FP_fn, OP_gT, OP_gC, OP_gE, OP_some, OP_map, OP_add, OP_sub, OP_mul, OP_fdiv, OP_fmod, OP_pow, OP_neg, OP_lt, OP_le, OP_gt, OP_ge, OP_eqi, OP_nei, OP_bits, OP_int, OP_intb, OP_tup, OP_lst, OP_lenl, OP_lent, OP_lenf, OP_abs, OP_max2, OP_min2, OP_gcd, OP_ixl, OP_ixt, OP_ixf, OP_cat, OP_rep, OP_subb, OP_gN, OP_eqs, OP_eq00, OP_ne00, OP_dct1, OP_nepl, OP_eqpl, OP_isLp, OP_pop0, OP_apppl, OP_lenpl, OP_lentab, OP_inpl, OP_ninpl, OP_indk, OP_nindk, OP_setK, BQ_b, BP_t, BP_f, BP_d, BP_n, BP_eq, ↓reduceIte, Option.map_some, is_non_np, is_non_ng, is_non_tp, is_non_tg, is_non_fp, is_non_fg, is_bl_np, is_bl_ng, is_bl_tp, is_bl_tg, is_bl_fp, is_bl_fg, is_int_np, is_int_ng, is_int_tp, is_int_tg, is_int_fp, is_int_fg, is_str_np, is_str_ng, is_str_tp, is_str_tg, is_str_fp, is_str_fg, is_lst_np, is_lst_ng, is_lst_tp, is_lst_tg, is_lst_fp, is_lst_fg, is_tup_np, is_tup_ng, is_tup_tp, is_tup_tg, is_tup_fp, is_tup_fg, isi_non_int, isi_non_bool, isi_non_list, isi_non_tuple, isi_non_str, isi_non_dict, isi_non_lt, isi_bl_int, isi_bl_bool, isi_bl_list, isi_bl_tuple, isi_bl_str, isi_bl_dict, isi_bl_lt, isi_int_int, isi_int_bool, isi_int_list, isi_int_tuple, isi_int_str, isi_int_dict, isi_int_lt, isi_str_int, isi_str_bool, isi_str_list, isi_str_tuple, isi_str_str, isi_str_dict, isi_str_lt, isi_lst_int, isi_lst_bool, isi_lst_list, isi_lst_tuple, isi_lst_str, isi_lst_dict, isi_lst_lt, isi_tup_int, isi_tup_bool, isi_tup_list, isi_tup_tuple, isi_tup_str, isi_tup_dict, isi_tup_lt,  at0, at1, at2, at3, set0, set1, set2, setD_l, fillIO, putIO, ioN, permO, wpE_n, wpE_c, rst_n, rst_c, isFl, List.map_cons, List.map_nil, List.cons_append, List.nil_append, List.append_nil, List.replicate_succ, List.replicate_zero, Nat.reduceSub, Nat.reduceAdd, List.getElem?_cons_zero, List.getElem?_cons_succ, List.getD_cons_zero, List.getD_cons_succ, List.set_cons_zero, List.set_cons_succ, List.length_cons, List.length_nil, List.map_append])
  refine sp_case (k := 1) (by decide) fun e => ?_
  (try simp only [RP_varm, RP_holem, RP_c, RP_1, RP_2, RP_3, RP_f, RP_nil, RP_cons, RP_if, RP_and, RP_or, RP_not, RP_B, RP_qt, RP_perm, RP_pn, RP_ps, RP_sl, RP_call, RP_src2, SrcP_l, SrcP_t, SrcP_pl, SrcP_row, SrcP_tab, RP_r1, RP_r2, RP_en2, EnP_l, EnP_row, EnP_tab, LsP_l, LsP_pl, RP_lc, RP_yes, RP_pop, RP_lr, RP_fl, RP_dct1, RP_asL,  SP_nx, SP_seq, SP_drop, SP_ret, SP_set, SP_if, SP_sub, SP_sub2, SP_app, SP_app2, SP_tgt, SP_par, SP_parO, SP_str, SP_uT, SP_uN, SP_uC, SP_uS, SP_subK, SP_for, FP_fn, OP_gT, OP_gC, OP_gE, OP_some, OP_map, OP_add, OP_sub, OP_mul, OP_fdiv, OP_fmod, OP_pow, OP_neg, OP_lt, OP_le, OP_gt, OP_ge, OP_eqi, OP_nei, OP_bits, OP_int, OP_intb, OP_tup, OP_lst, OP_lenl, OP_lent, OP_lenf, OP_abs, OP_max2, OP_min2, OP_gcd, OP_ixl, OP_ixt, OP_ixf, OP_cat, OP_rep, OP_subb, OP_gN, OP_eqs, OP_eq00, OP_ne00, OP_dct1, OP_nepl, OP_eqpl, OP_isLp, OP_pop0, OP_apppl, OP_lenpl, OP_lentab, OP_inpl, OP_ninpl, OP_indk, OP_nindk, OP_setK, BQ_b, BP_t, BP_f, BP_d, BP_n, BP_eq, ↓reduceIte, Option.map_some, is_non_np, is_non_ng, is_non_tp, is_non_tg, is_non_fp, is_non_fg, is_bl_np, is_bl_ng, is_bl_tp, is_bl_tg, is_bl_fp, is_bl_fg, is_int_np, is_int_ng, is_int_tp, is_int_tg, is_int_fp, is_int_fg, is_str_np, is_str_ng, is_str_tp, is_str_tg, is_str_fp, is_str_fg, is_lst_np, is_lst_ng, is_lst_tp, is_lst_tg, is_lst_fp, is_lst_fg, is_tup_np, is_tup_ng, is_tup_tp, is_tup_tg, is_tup_fp, is_tup_fg, isi_non_int, isi_non_bool, isi_non_list, isi_non_tuple, isi_non_str, isi_non_dict, isi_non_lt, isi_bl_int, isi_bl_bool, isi_bl_list, isi_bl_tuple, isi_bl_str, isi_bl_dict, isi_bl_lt, isi_int_int, isi_int_bool, isi_int_list, isi_int_tuple, isi_int_str, isi_int_dict, isi_int_lt, isi_str_int, isi_str_bool, isi_str_list, isi_str_tuple, isi_str_str, isi_str_dict, isi_str_lt, isi_lst_int, isi_lst_bool, isi_lst_list, isi_lst_tuple, isi_lst_str, isi_lst_dict, isi_lst_lt, isi_tup_int, isi_tup_bool, isi_tup_list, isi_tup_tuple, isi_tup_str, isi_tup_dict, isi_tup_lt,  at0, at1, at2, at3, set0, set1, set2, setD_l, fillIO, putIO, ioN, permO, wpE_n, wpE_c, rst_n, rst_c, isFl, List.map_cons, List.map_nil, List.cons_append, List.nil_append, List.append_nil, List.replicate_succ, List.replicate_zero, Nat.reduceSub, Nat.reduceAdd, List.getElem?_cons_zero, List.getElem?_cons_succ, List.getD_cons_zero, List.getD_cons_succ, List.set_cons_zero, List.set_cons_succ, List.length_cons, List.length_nil, List.map_append])
end M3

/-! GLUE -/
set_option Elab.async false
set_option linter.all false
set_option maxRecDepth 100000
set_option maxHeartbeats 4000000
namespace M3
open PySem PySem.Spec PyProof.Rows L2
theorem all_mk {l : PySem.W.OpenLaw} {w : World} {K : PySem.W.Frag} {h : Heap} {mg : Str → Option Value} {fa f0 f1 f2 f3 f4 f5 f6 f7 f8 f9 f10 f11 f12 f13 f14 f15 f16 f17 f18 f19 f20 f21 f22 f23 f24 f25 f26 : Addr} (X : K.In h) (G : h.Ns mainGlobals mg) (hfa : mg "law" = some (.ref fa))
    {od0 od1 od2 od3 od4 od5 od6 od7 od8 od9 od10 od11 od12 od13 od14 od15 od16 od17 od18 od19 od20 od21 od22 od23 od24 od25 od26 an0 an1 an2 an3 an4 an5 an6 an7 an8 an9 an10 an11 an12 an13 an14 an15 an16 an17 an18 an19 an20 an21 an22 an23 an24 an25 an26 : Option Addr} {sl0 sl1 sl2 sl3 sl4 sl5 sl6 sl7 sl8 sl9 sl10 sl11 sl12 sl13 sl14 sl15 sl16 sl17 sl18 sl19 sl20 sl21 sl22 sl23 sl24 sl25 sl26 : Array (Option Value)} {oc0 oc1 oc2 oc3 oc4 oc5 oc6 oc7 oc8 oc9 oc10 oc11 oc12 oc13 oc14 oc15 oc16 oc17 oc18 oc19 oc20 oc21 oc22 oc23 oc24 oc25 oc26 kV0 kV1 kV2 kV3 kV4 kV5 kV6 kV7 kV8 kV9 kV10 kV11 kV12 kV13 kV14 kV15 kV16 kV17 kV18 kV19 kV20 kV21 kV22 kV23 kV24 kV25 kV26 dc0 dc1 dc2 dc3 dc4 dc5 dc6 dc7 dc8 dc9 dc10 dc11 dc12 dc13 dc14 dc15 dc16 dc17 dc18 dc19 dc20 dc21 dc22 dc23 dc24 dc25 dc26 pm0 pm1 pm2 pm3 pm4 pm5 pm6 pm7 pm8 pm9 pm10 pm11 pm12 pm13 pm14 pm15 pm16 pm17 pm18 pm19 pm20 pm21 pm22 pm23 pm24 pm25 pm26 cd0 cd1 cd2 cd3 cd4 cd5 cd6 cd7 cd8 cd9 cd10 cd11 cd12 cd13 cd14 cd15 cd16 cd17 cd18 cd19 cd20 cd21 cd22 cd23 cd24 cd25 cd26 ct0 ct1 ct2 ct3 ct4 ct5 ct6 ct7 ct8 ct9 ct10 ct11 ct12 ct13 ct14 ct15 ct16 ct17 ct18 ct19 ct20 ct21 ct22 ct23 ct24 ct25 ct26 : Value}
    (a0 : PySem.W.nsIn K mainGlobals "is_whole" = some (some (.ref f0))) (l0 : K.lookup f0 = some ⟨oc0, od0, .func (PySem.W.fnOf "is_whole" "is_whole" (defArgs s_is_whole) (defBody s_is_whole) (defScope s_is_whole) .none kV0 dc0 pm0 an0 cd0 ct0), sl0⟩) (c0 : PySem.W.codeIn K cd0 "is_whole" = true) (k0 : PySem.W.keepIn K (.ref f0) = true)
    (a1 : PySem.W.nsIn K mainGlobals "is_count" = some (some (.ref f1))) (l1 : K.lookup f1 = some ⟨oc1, od1, .func (PySem.W.fnOf "is_count" "is_count" (defArgs s_is_count) (defBody s_is_count) (defScope s_is_count) .none kV1 dc1 pm1 an1 cd1 ct1), sl1⟩) (c1 : PySem.W.codeIn K cd1 "is_count" = true) (k1 : PySem.W.keepIn K (.ref f1) = true)
    (a2 : PySem.W.nsIn K mainGlobals "is_below" = some (some (.ref f2))) (l2 : K.lookup f2 = some ⟨oc2, od2, .func (PySem.W.fnOf "is_below" "is_below" (defArgs s_is_below) (defBody s_is_below) (defScope s_is_below) .none kV2 dc2 pm2 an2 cd2 ct2), sl2⟩) (c2 : PySem.W.codeIn K cd2 "is_below" = true) (k2 : PySem.W.keepIn K (.ref f2) = true)
    (a3 : PySem.W.nsIn K mainGlobals "is_size" = some (some (.ref f3))) (l3 : K.lookup f3 = some ⟨oc3, od3, .func (PySem.W.fnOf "is_size" "is_size" (defArgs s_is_size) (defBody s_is_size) (defScope s_is_size) .none kV3 dc3 pm3 an3 cd3 ct3), sl3⟩) (c3 : PySem.W.codeIn K cd3 "is_size" = true) (k3 : PySem.W.keepIn K (.ref f3) = true)
    (a4 : PySem.W.nsIn K mainGlobals "is_row_of" = some (some (.ref f4))) (l4 : K.lookup f4 = some ⟨oc4, od4, .func (PySem.W.fnOf "is_row_of" "is_row_of" (defArgs s_is_row_of) (defBody s_is_row_of) (defScope s_is_row_of) .none kV4 dc4 pm4 an4 cd4 ct4), sl4⟩) (c4 : PySem.W.codeIn K cd4 "is_row_of" = true) (k4 : PySem.W.keepIn K (.ref f4) = true)
    (a5 : PySem.W.nsIn K mainGlobals "is_table" = some (some (.ref f5))) (l5 : K.lookup f5 = some ⟨oc5, od5, .func (PySem.W.fnOf "is_table" "is_table" (defArgs s_is_table) (defBody s_is_table) (defScope s_is_table) .none kV5 dc5 pm5 an5 cd5 ct5), sl5⟩) (c5 : PySem.W.codeIn K cd5 "is_table" = true) (k5 : PySem.W.keepIn K (.ref f5) = true)
    (a6 : PySem.W.nsIn K mainGlobals "are_players_of" = some (some (.ref f6))) (l6 : K.lookup f6 = some ⟨oc6, od6, .func (PySem.W.fnOf "are_players_of" "are_players_of" (defArgs s_are_players_of) (defBody s_are_players_of) (defScope s_are_players_of) .none kV6 dc6 pm6 an6 cd6 ct6), sl6⟩) (c6 : PySem.W.codeIn K cd6 "are_players_of" = true) (k6 : PySem.W.keepIn K (.ref f6) = true)
    (a7 : PySem.W.nsIn K mainGlobals "is_lot_of" = some (some (.ref f7))) (l7 : K.lookup f7 = some ⟨oc7, od7, .func (PySem.W.fnOf "is_lot_of" "is_lot_of" (defArgs s_is_lot_of) (defBody s_is_lot_of) (defScope s_is_lot_of) .none kV7 dc7 pm7 an7 cd7 ct7), sl7⟩) (c7 : PySem.W.codeIn K cd7 "is_lot_of" = true) (k7 : PySem.W.keepIn K (.ref f7) = true)
    (a8 : PySem.W.nsIn K mainGlobals "check_table" = some (some (.ref f8))) (l8 : K.lookup f8 = some ⟨oc8, od8, .func (PySem.W.fnOf "check_table" "check_table" (defArgs s_check_table) (defBody s_check_table) (defScope s_check_table) .none kV8 dc8 pm8 an8 cd8 ct8), sl8⟩) (c8 : PySem.W.codeIn K cd8 "check_table" = true) (k8 : PySem.W.keepIn K (.ref f8) = true)
    (a9 : PySem.W.nsIn K mainGlobals "check_player" = some (some (.ref f9))) (l9 : K.lookup f9 = some ⟨oc9, od9, .func (PySem.W.fnOf "check_player" "check_player" (defArgs s_check_player) (defBody s_check_player) (defScope s_check_player) .none kV9 dc9 pm9 an9 cd9 ct9), sl9⟩) (c9 : PySem.W.codeIn K cd9 "check_player" = true) (k9 : PySem.W.keepIn K (.ref f9) = true)
    (a10 : PySem.W.nsIn K mainGlobals "check_pair" = some (some (.ref f10))) (l10 : K.lookup f10 = some ⟨oc10, od10, .func (PySem.W.fnOf "check_pair" "check_pair" (defArgs s_check_pair) (defBody s_check_pair) (defScope s_check_pair) .none kV10 dc10 pm10 an10 cd10 ct10), sl10⟩) (c10 : PySem.W.codeIn K cd10 "check_pair" = true) (k10 : PySem.W.keepIn K (.ref f10) = true)
    (a11 : PySem.W.nsIn K mainGlobals "check_lot" = some (some (.ref f11))) (l11 : K.lookup f11 = some ⟨oc11, od11, .func (PySem.W.fnOf "check_lot" "check_lot" (defArgs s_check_lot) (defBody s_check_lot) (defScope s_check_lot) .none kV11 dc11 pm11 an11 cd11 ct11), sl11⟩) (c11 : PySem.W.codeIn K cd11 "check_lot" = true) (k11 : PySem.W.keepIn K (.ref f11) = true)
    (a12 : PySem.W.nsIn K mainGlobals "come_to" = some (some (.ref f12))) (l12 : K.lookup f12 = some ⟨oc12, od12, .func (PySem.W.fnOf "come_to" "come_to" (defArgs s_come_to) (defBody s_come_to) (defScope s_come_to) .none kV12 dc12 pm12 an12 cd12 ct12), sl12⟩) (c12 : PySem.W.codeIn K cd12 "come_to" = true) (k12 : PySem.W.keepIn K (.ref f12) = true)
    (a13 : PySem.W.nsIn K mainGlobals "cut_to" = some (some (.ref f13))) (l13 : K.lookup f13 = some ⟨oc13, od13, .func (PySem.W.fnOf "cut_to" "cut_to" (defArgs s_cut_to) (defBody s_cut_to) (defScope s_cut_to) .none kV13 dc13 pm13 an13 cd13 ct13), sl13⟩) (c13 : PySem.W.codeIn K cd13 "cut_to" = true) (k13 : PySem.W.keepIn K (.ref f13) = true)
    (a14 : PySem.W.nsIn K mainGlobals "cut" = some (some (.ref f14))) (l14 : K.lookup f14 = some ⟨oc14, od14, .func (PySem.W.fnOf "cut" "cut" (defArgs s_cut) (defBody s_cut) (defScope s_cut) .none kV14 dc14 pm14 an14 cd14 ct14), sl14⟩) (c14 : PySem.W.codeIn K cd14 "cut" = true) (k14 : PySem.W.keepIn K (.ref f14) = true)
    (a15 : PySem.W.nsIn K mainGlobals "beside" = some (some (.ref f15))) (l15 : K.lookup f15 = some ⟨oc15, od15, .func (PySem.W.fnOf "beside" "beside" (defArgs s_beside) (defBody s_beside) (defScope s_beside) .none kV15 dc15 pm15 an15 cd15 ct15), sl15⟩) (c15 : PySem.W.codeIn K cd15 "beside" = true) (k15 : PySem.W.keepIn K (.ref f15) = true)
    (a16 : PySem.W.nsIn K mainGlobals "_law_hash" = some (some (.ref f16))) (l16 : K.lookup f16 = some ⟨oc16, od16, .func (PySem.W.fnOf "_law_hash" "_law_hash" (defArgs s_law_hash) (defBody s_law_hash) (defScope s_law_hash) .none kV16 dc16 pm16 an16 cd16 ct16), sl16⟩) (c16 : PySem.W.codeIn K cd16 "_law_hash" = true) (k16 : PySem.W.keepIn K (.ref f16) = true)
    (a17 : PySem.W.nsIn K mainGlobals "_law_random" = some (some (.ref f17))) (l17 : K.lookup f17 = some ⟨oc17, od17, .func (PySem.W.fnOf "_law_random" "_law_random" (defArgs s_law_random) (defBody s_law_random) (defScope s_law_random) .none kV17 dc17 pm17 an17 cd17 ct17), sl17⟩) (c17 : PySem.W.codeIn K cd17 "_law_random" = true) (k17 : PySem.W.keepIn K (.ref f17) = true)
    (a18 : PySem.W.nsIn K mainGlobals "_law_cell" = some (some (.ref f18))) (l18 : K.lookup f18 = some ⟨oc18, od18, .func (PySem.W.fnOf "_law_cell" "_law_cell" (defArgs s_law_cell) (defBody s_law_cell) (defScope s_law_cell) .none kV18 dc18 pm18 an18 cd18 ct18), sl18⟩) (c18 : PySem.W.codeIn K cd18 "_law_cell" = true) (k18 : PySem.W.keepIn K (.ref f18) = true)
    (a19 : PySem.W.nsIn K mainGlobals "_law_generator" = some (some (.ref f19))) (l19 : K.lookup f19 = some ⟨oc19, od19, .func (PySem.W.fnOf "_law_generator" "_law_generator" (defArgs s_law_generator) (defBody s_law_generator) (defScope s_law_generator) .none kV19 dc19 pm19 an19 cd19 ct19), sl19⟩) (c19 : PySem.W.codeIn K cd19 "_law_generator" = true) (k19 : PySem.W.keepIn K (.ref f19) = true)
    (a20 : PySem.W.nsIn K mainGlobals "_law_pick" = some (some (.ref f20))) (l20 : K.lookup f20 = some ⟨oc20, od20, .func (PySem.W.fnOf "_law_pick" "_law_pick" (defArgs s_law_pick) (defBody s_law_pick) (defScope s_law_pick) .none kV20 dc20 pm20 an20 cd20 ct20), sl20⟩) (c20 : PySem.W.codeIn K cd20 "_law_pick" = true) (k20 : PySem.W.keepIn K (.ref f20) = true)
    (a21 : PySem.W.nsIn K mainGlobals "_law_same" = some (some (.ref f21))) (l21 : K.lookup f21 = some ⟨oc21, od21, .func (PySem.W.fnOf "_law_same" "_law_same" (defArgs s_law_same) (defBody s_law_same) (defScope s_law_same) .none kV21 dc21 pm21 an21 cd21 ct21), sl21⟩) (c21 : PySem.W.codeIn K cd21 "_law_same" = true) (k21 : PySem.W.keepIn K (.ref f21) = true)
    (a22 : PySem.W.nsIn K mainGlobals "_law_comes" = some (some (.ref f22))) (l22 : K.lookup f22 = some ⟨oc22, od22, .func (PySem.W.fnOf "_law_comes" "_law_comes" (defArgs s_law_comes) (defBody s_law_comes) (defScope s_law_comes) .none kV22 dc22 pm22 an22 cd22 ct22), sl22⟩) (c22 : PySem.W.codeIn K cd22 "_law_comes" = true) (k22 : PySem.W.keepIn K (.ref f22) = true)
    (a23 : PySem.W.nsIn K mainGlobals "_law_drawn_table" = some (some (.ref f23))) (l23 : K.lookup f23 = some ⟨oc23, od23, .func (PySem.W.fnOf "_law_drawn_table" "_law_drawn_table" (defArgs s_law_drawn_table) (defBody s_law_drawn_table) (defScope s_law_drawn_table) .none kV23 dc23 pm23 an23 cd23 ct23), sl23⟩) (c23 : PySem.W.codeIn K cd23 "_law_drawn_table" = true) (k23 : PySem.W.keepIn K (.ref f23) = true)
    (a24 : PySem.W.nsIn K mainGlobals "_law_word" = some (some (.ref f24))) (l24 : K.lookup f24 = some ⟨oc24, od24, .func (PySem.W.fnOf "_law_word" "_law_word" (defArgs s_law_word) (defBody s_law_word) (defScope s_law_word) .none kV24 dc24 pm24 an24 cd24 ct24), sl24⟩) (c24 : PySem.W.codeIn K cd24 "_law_word" = true) (k24 : PySem.W.keepIn K (.ref f24) = true)
    (a25 : PySem.W.nsIn K mainGlobals "_law_case_right" = some (some (.ref f25))) (l25 : K.lookup f25 = some ⟨oc25, od25, .func (PySem.W.fnOf "_law_case_right" "_law_case_right" (defArgs s_law_case_right) (defBody s_law_case_right) (defScope s_law_case_right) .none kV25 dc25 pm25 an25 cd25 ct25), sl25⟩) (c25 : PySem.W.codeIn K cd25 "_law_case_right" = true) (k25 : PySem.W.keepIn K (.ref f25) = true)
    (a26 : PySem.W.nsIn K mainGlobals "law" = some (some (.ref f26))) (l26 : K.lookup f26 = some ⟨oc26, od26, .func (PySem.W.fnOf "law" "law" (defArgs s_law) (defBody s_law) (defScope s_law) .none kV26 dc26 pm26 an26 cd26 ct26), sl26⟩) (c26 : PySem.W.codeIn K cd26 "law" = true) (k26 : PySem.W.keepIn K (.ref f26) = true)
    (z_bool : PySem.W.nsIn K mainGlobals "bool" = some none) (z_dict : PySem.W.nsIn K mainGlobals "dict" = some none) (z_enumerate : PySem.W.nsIn K mainGlobals "enumerate" = some none) (z_int : PySem.W.nsIn K mainGlobals "int" = some none) (z_isinstance : PySem.W.nsIn K mainGlobals "isinstance" = some none) (z_len : PySem.W.nsIn K mainGlobals "len" = some none) (z_list : PySem.W.nsIn K mainGlobals "list" = some none) (z_max : PySem.W.nsIn K mainGlobals "max" = some none) (z_range : PySem.W.nsIn K mainGlobals "range" = some none) (z_repr : PySem.W.nsIn K mainGlobals "repr" = some none) (z_str : PySem.W.nsIn K mainGlobals "str" = some none) (z_sum : PySem.W.nsIn K mainGlobals "sum" = some none) (z_tuple : PySem.W.nsIn K mainGlobals "tuple" = some none) {t_LARGEST : Tok} (z_LARGEST : PySem.W.nsIn K mainGlobals "LARGEST" = some (some (.int 16 t_LARGEST))) {t_MOST_TAKEN : Tok} (z_MOST_TAKEN : PySem.W.nsIn K mainGlobals "MOST_TAKEN" = some (some (.int 1000 t_MOST_TAKEN))) :
    ∃ fd : FuncData, (∀ (s : Shared) (v : Value), BindsTo s fd ⟨[v], []⟩ [("script", v)]) ∧ ∀ base : Heap, K.In base → base.Ns mainGlobals mg → FnG l.prog w K mg base (L2.CX l.prog w) 42 fa fd ["script"] (spM K [] [0] 0 1 m_law) := by
  have e := hfa.symm.trans (PySem.W.mg_of X G a26)
  cases e
  have F0 := fun_mk (st := s_is_whole) l0 c0 k0
  have F1 := fun_mk (st := s_is_count) l1 c1 k1
  have F2 := fun_mk (st := s_is_below) l2 c2 k2
  have F3 := fun_mk (st := s_is_size) l3 c3 k3
  have F4 := fun_mk (st := s_is_row_of) l4 c4 k4
  have F5 := fun_mk (st := s_is_table) l5 c5 k5
  have F6 := fun_mk (st := s_are_players_of) l6 c6 k6
  have F7 := fun_mk (st := s_is_lot_of) l7 c7 k7
  have F8 := fun_mk (st := s_check_table) l8 c8 k8
  have F9 := fun_mk (st := s_check_player) l9 c9 k9
  have F10 := fun_mk (st := s_check_pair) l10 c10 k10
  have F11 := fun_mk (st := s_check_lot) l11 c11 k11
  have F12 := fun_mk (st := s_come_to) l12 c12 k12
  have F13 := fun_mk (st := s_cut_to) l13 c13 k13
  have F14 := fun_mk (st := s_cut) l14 c14 k14
  have F15 := fun_mk (st := s_beside) l15 c15 k15
  have F16 := fun_mk (st := s_law_hash) l16 c16 k16
  have F17 := fun_mk (st := s_law_random) l17 c17 k17
  have F18 := fun_mk (st := s_law_cell) l18 c18 k18
  have F19 := fun_mk (st := s_law_generator) l19 c19 k19
  have F20 := fun_mk (st := s_law_pick) l20 c20 k20
  have F21 := fun_mk (st := s_law_same) l21 c21 k21
  have F22 := fun_mk (st := s_law_comes) l22 c22 k22
  have F23 := fun_mk (st := s_law_drawn_table) l23 c23 k23
  have F24 := fun_mk (st := s_law_word) l24 c24 k24
  have F25 := fun_mk (st := s_law_case_right) l25 c25 k25
  have F26 := fun_mk (st := s_law) l26 c26 k26
  let A : Ad := ⟨f0, PySem.W.fnOf "is_whole" "is_whole" (defArgs s_is_whole) (defBody s_is_whole) (defScope s_is_whole) .none kV0 dc0 pm0 an0 cd0 ct0, f1, PySem.W.fnOf "is_count" "is_count" (defArgs s_is_count) (defBody s_is_count) (defScope s_is_count) .none kV1 dc1 pm1 an1 cd1 ct1, f2, PySem.W.fnOf "is_below" "is_below" (defArgs s_is_below) (defBody s_is_below) (defScope s_is_below) .none kV2 dc2 pm2 an2 cd2 ct2, f3, PySem.W.fnOf "is_size" "is_size" (defArgs s_is_size) (defBody s_is_size) (defScope s_is_size) .none kV3 dc3 pm3 an3 cd3 ct3, f4, PySem.W.fnOf "is_row_of" "is_row_of" (defArgs s_is_row_of) (defBody s_is_row_of) (defScope s_is_row_of) .none kV4 dc4 pm4 an4 cd4 ct4, f5, PySem.W.fnOf "is_table" "is_table" (defArgs s_is_table) (defBody s_is_table) (defScope s_is_table) .none kV5 dc5 pm5 an5 cd5 ct5, f6, PySem.W.fnOf "are_players_of" "are_players_of" (defArgs s_are_players_of) (defBody s_are_players_of) (defScope s_are_players_of) .none kV6 dc6 pm6 an6 cd6 ct6, f7, PySem.W.fnOf "is_lot_of" "is_lot_of" (defArgs s_is_lot_of) (defBody s_is_lot_of) (defScope s_is_lot_of) .none kV7 dc7 pm7 an7 cd7 ct7, f8, PySem.W.fnOf "check_table" "check_table" (defArgs s_check_table) (defBody s_check_table) (defScope s_check_table) .none kV8 dc8 pm8 an8 cd8 ct8, f9, PySem.W.fnOf "check_player" "check_player" (defArgs s_check_player) (defBody s_check_player) (defScope s_check_player) .none kV9 dc9 pm9 an9 cd9 ct9, f10, PySem.W.fnOf "check_pair" "check_pair" (defArgs s_check_pair) (defBody s_check_pair) (defScope s_check_pair) .none kV10 dc10 pm10 an10 cd10 ct10, f11, PySem.W.fnOf "check_lot" "check_lot" (defArgs s_check_lot) (defBody s_check_lot) (defScope s_check_lot) .none kV11 dc11 pm11 an11 cd11 ct11, f12, PySem.W.fnOf "come_to" "come_to" (defArgs s_come_to) (defBody s_come_to) (defScope s_come_to) .none kV12 dc12 pm12 an12 cd12 ct12, f13, PySem.W.fnOf "cut_to" "cut_to" (defArgs s_cut_to) (defBody s_cut_to) (defScope s_cut_to) .none kV13 dc13 pm13 an13 cd13 ct13, f14, PySem.W.fnOf "cut" "cut" (defArgs s_cut) (defBody s_cut) (defScope s_cut) .none kV14 dc14 pm14 an14 cd14 ct14, f15, PySem.W.fnOf "beside" "beside" (defArgs s_beside) (defBody s_beside) (defScope s_beside) .none kV15 dc15 pm15 an15 cd15 ct15, f16, PySem.W.fnOf "_law_hash" "_law_hash" (defArgs s_law_hash) (defBody s_law_hash) (defScope s_law_hash) .none kV16 dc16 pm16 an16 cd16 ct16, f17, PySem.W.fnOf "_law_random" "_law_random" (defArgs s_law_random) (defBody s_law_random) (defScope s_law_random) .none kV17 dc17 pm17 an17 cd17 ct17, f18, PySem.W.fnOf "_law_cell" "_law_cell" (defArgs s_law_cell) (defBody s_law_cell) (defScope s_law_cell) .none kV18 dc18 pm18 an18 cd18 ct18, f19, PySem.W.fnOf "_law_generator" "_law_generator" (defArgs s_law_generator) (defBody s_law_generator) (defScope s_law_generator) .none kV19 dc19 pm19 an19 cd19 ct19, f20, PySem.W.fnOf "_law_pick" "_law_pick" (defArgs s_law_pick) (defBody s_law_pick) (defScope s_law_pick) .none kV20 dc20 pm20 an20 cd20 ct20, f21, PySem.W.fnOf "_law_same" "_law_same" (defArgs s_law_same) (defBody s_law_same) (defScope s_law_same) .none kV21 dc21 pm21 an21 cd21 ct21, f22, PySem.W.fnOf "_law_comes" "_law_comes" (defArgs s_law_comes) (defBody s_law_comes) (defScope s_law_comes) .none kV22 dc22 pm22 an22 cd22 ct22, f23, PySem.W.fnOf "_law_drawn_table" "_law_drawn_table" (defArgs s_law_drawn_table) (defBody s_law_drawn_table) (defScope s_law_drawn_table) .none kV23 dc23 pm23 an23 cd23 ct23, f24, PySem.W.fnOf "_law_word" "_law_word" (defArgs s_law_word) (defBody s_law_word) (defScope s_law_word) .none kV24 dc24 pm24 an24 cd24 ct24, f25, PySem.W.fnOf "_law_case_right" "_law_case_right" (defArgs s_law_case_right) (defBody s_law_case_right) (defScope s_law_case_right) .none kV25 dc25 pm25 an25 cd25 ct25, fa, PySem.W.fnOf "law" "law" (defArgs s_law) (defBody s_law) (defScope s_law) .none kV26 dc26 pm26 an26 cd26 ct26⟩
  have T : GF K mg A := ⟨F0, PySem.W.mg_of X G a0, F0.binds (ps := ["value"]) fun _ _ _ _ _ _ us hl => match us, hl with | [_], _ => rfl,
    F1, PySem.W.mg_of X G a1, F1.binds (ps := ["value"]) fun _ _ _ _ _ _ us hl => match us, hl with | [_], _ => rfl,
    F2, PySem.W.mg_of X G a2, F2.binds (ps := ["value", "bound"]) fun _ _ _ _ _ _ us hl => match us, hl with | [_, _], _ => rfl,
    F3, PySem.W.mg_of X G a3, F3.binds (ps := ["value"]) fun _ _ _ _ _ _ us hl => match us, hl with | [_], _ => rfl,
    F4, PySem.W.mg_of X G a4, F4.binds (ps := ["size", "value"]) fun _ _ _ _ _ _ us hl => match us, hl with | [_, _], _ => rfl,
    F5, PySem.W.mg_of X G a5, F5.binds (ps := ["value"]) fun _ _ _ _ _ _ us hl => match us, hl with | [_], _ => rfl,
    F6, PySem.W.mg_of X G a6, F6.binds (ps := ["size", "value"]) fun _ _ _ _ _ _ us hl => match us, hl with | [_, _], _ => rfl,
    F7, PySem.W.mg_of X G a7, F7.binds (ps := ["size", "value"]) fun _ _ _ _ _ _ us hl => match us, hl with | [_, _], _ => rfl,
    F8, PySem.W.mg_of X G a8, F8.binds (ps := ["table"]) fun _ _ _ _ _ _ us hl => match us, hl with | [_], _ => rfl,
    F9, PySem.W.mg_of X G a9, F9.binds (ps := ["size", "player"]) fun _ _ _ _ _ _ us hl => match us, hl with | [_, _], _ => rfl,
    F10, PySem.W.mg_of X G a10, F10.binds (ps := ["size", "player", "other_player"]) fun _ _ _ _ _ _ us hl => match us, hl with | [_, _, _], _ => rfl,
    F11, PySem.W.mg_of X G a11, F11.binds (ps := ["size", "lot"]) fun _ _ _ _ _ _ us hl => match us, hl with | [_, _], _ => rfl,
    F12, PySem.W.mg_of X G a12, F12.binds (ps := ["table", "start"]) fun _ _ _ _ _ _ us hl => match us, hl with | [_, _], _ => rfl,
    F13, PySem.W.mg_of X G a13, F13.binds (ps := ["table", "lot"]) fun _ _ _ _ _ _ us hl => match us, hl with | [_, _], _ => rfl,
    F14, PySem.W.mg_of X G a14, F14.binds (ps := ["table", "lot"]) fun _ _ _ _ _ _ us hl => match us, hl with | [_, _], _ => rfl,
    F15, PySem.W.mg_of X G a15, F15.binds (ps := ["table", "player", "other_player"]) fun _ _ _ _ _ _ us hl => match us, hl with | [_, _, _], _ => rfl,
    F16, PySem.W.mg_of X G a16, F16.binds (ps := ["seed", "index"]) fun _ _ _ _ _ _ us hl => match us, hl with | [_, _], _ => rfl,
    F17, PySem.W.mg_of X G a17, F17.binds (ps := ["generator", "bound"]) fun _ _ _ _ _ _ us hl => match us, hl with | [_, _], _ => rfl,
    F18, PySem.W.mg_of X G a18, F18.binds (ps := ["script", "index"]) fun _ _ _ _ _ _ us hl => match us, hl with | [_, _], _ => rfl,
    F19, PySem.W.mg_of X G a19, F19.binds (ps := ["script", "index"]) fun _ _ _ _ _ _ us hl => match us, hl with | [_, _], _ => rfl,
    F20, PySem.W.mg_of X G a20, F20.binds (ps := ["generator", "things"]) fun _ _ _ _ _ _ us hl => match us, hl with | [_, _], _ => rfl,
    F21, PySem.W.mg_of X G a21, F21.binds (ps := ["told", "due"]) fun _ _ _ _ _ _ us hl => match us, hl with | [_, _], _ => rfl,
    F22, PySem.W.mg_of X G a22, F22.binds (ps := ["table", "player"]) fun _ _ _ _ _ _ us hl => match us, hl with | [_, _], _ => rfl,
    F23, PySem.W.mg_of X G a23, F23.binds (ps := ["generator", "size", "most", "spare"]) fun _ _ _ _ _ _ us hl => match us, hl with | [_, _, _, _], _ => rfl,
    F24, PySem.W.mg_of X G a24, F24.binds (ps := ["table", "one", "other"]) fun _ _ _ _ _ _ us hl => match us, hl with | [_, _, _], _ => rfl,
    F25, PySem.W.mg_of X G a25, F25.binds (ps := ["script", "index"]) fun _ _ _ _ _ _ us hl => match us, hl with | [_, _], _ => rfl,
    F26, PySem.W.mg_of X G a26, F26.binds (ps := ["script"]) fun _ _ _ _ _ _ us hl => match us, hl with | [_], _ => rfl,
    PySem.W.mg_none_of X G z_bool,
    PySem.W.mg_none_of X G z_dict,
    PySem.W.mg_none_of X G z_enumerate,
    PySem.W.mg_none_of X G z_int,
    PySem.W.mg_none_of X G z_isinstance,
    PySem.W.mg_none_of X G z_len,
    PySem.W.mg_none_of X G z_list,
    PySem.W.mg_none_of X G z_max,
    PySem.W.mg_none_of X G z_range,
    PySem.W.mg_none_of X G z_repr,
    PySem.W.mg_none_of X G z_str,
    PySem.W.mg_none_of X G z_sum,
    PySem.W.mg_none_of X G z_tuple,
    ⟨_, PySem.W.mg_of X G z_LARGEST⟩,
    ⟨_, PySem.W.mg_of X G z_MOST_TAKEN⟩⟩
  exact ⟨_, fun s v => .of_eq rfl, fun base _ _ => ok_law (A := A) T⟩
end M3
open PySem PySem.W PyProof.Rows
set_option maxHeartbeats 0 in
theorem PySem.Challenge.cw_whobetter_k43_beside_and_cut_holds : PySem.Challenge.rw_whobetter_k43_beside_and_cut.Holds := by
  w_on; o_law; k_head; (case hw => w_witness2)
  k_fill
  refine M3.walk_ofG (l := PySem.Challenge.rw_whobetter_k43_beside_and_cut) (n := 63) (k := 42) (x := "script") (CX := fun w => L2.CX PySem.Challenge.rw_whobetter_k43_beside_and_cut.prog w) (sp := fun w => M3.spM _ [] [0] 0 1 M3.m_law) rfl (by decide) rfl ⟨rfl, by decide, by decide⟩ (fun w h Y => PySem.W.kIn_of Y) ?F (fun _ _ a ns hl _ hS => M3.top_sp hS (M3.law_true ns)) (fun _ _ _ _ _ h => by obtain ⟨_, _, _, _, _, _, _, _, _, _, _, _, h⟩ := h; exact h)
  case F =>
    intro w mg fa h KX G hmg
    refine' M3.all_mk KX G hmg ?a0 ?l0 ?c0 ?k0 ?a1 ?l1 ?c1 ?k1 ?a2 ?l2 ?c2 ?k2 ?a3 ?l3 ?c3 ?k3 ?a4 ?l4 ?c4 ?k4 ?a5 ?l5 ?c5 ?k5 ?a6 ?l6 ?c6 ?k6 ?a7 ?l7 ?c7 ?k7 ?a8 ?l8 ?c8 ?k8 ?a9 ?l9 ?c9 ?k9 ?a10 ?l10 ?c10 ?k10 ?a11 ?l11 ?c11 ?k11 ?a12 ?l12 ?c12 ?k12 ?a13 ?l13 ?c13 ?k13 ?a14 ?l14 ?c14 ?k14 ?a15 ?l15 ?c15 ?k15 ?a16 ?l16 ?c16 ?k16 ?a17 ?l17 ?c17 ?k17 ?a18 ?l18 ?c18 ?k18 ?a19 ?l19 ?c19 ?k19 ?a20 ?l20 ?c20 ?k20 ?a21 ?l21 ?c21 ?k21 ?a22 ?l22 ?c22 ?k22 ?a23 ?l23 ?c23 ?k23 ?a24 ?l24 ?c24 ?k24 ?a25 ?l25 ?c25 ?k25 ?a26 ?l26 ?c26 ?k26 ?z_bool ?z_dict ?z_enumerate ?z_int ?z_isinstance ?z_len ?z_list ?z_max ?z_range ?z_repr ?z_str ?z_sum ?z_tuple ?z_LARGEST ?z_MOST_TAKEN
    (case a0 => k_is); (case l0 => k_is); (case c0 => k_is); (case k0 => k_is); (case a1 => k_is); (case l1 => k_is); (case c1 => k_is); (case k1 => k_is); (case a2 => k_is); (case l2 => k_is); (case c2 => k_is); (case k2 => k_is); (case a3 => k_is); (case l3 => k_is); (case c3 => k_is); (case k3 => k_is); (case a4 => k_is); (case l4 => k_is); (case c4 => k_is); (case k4 => k_is); (case a5 => k_is); (case l5 => k_is); (case c5 => k_is); (case k5 => k_is); (case a6 => k_is); (case l6 => k_is); (case c6 => k_is); (case k6 => k_is); (case a7 => k_is); (case l7 => k_is); (case c7 => k_is); (case k7 => k_is); (case a8 => k_is); (case l8 => k_is); (case c8 => k_is); (case k8 => k_is); (case a9 => k_is); (case l9 => k_is); (case c9 => k_is); (case k9 => k_is); (case a10 => k_is); (case l10 => k_is); (case c10 => k_is); (case k10 => k_is); (case a11 => k_is); (case l11 => k_is); (case c11 => k_is); (case k11 => k_is); (case a12 => k_is); (case l12 => k_is); (case c12 => k_is); (case k12 => k_is); (case a13 => k_is); (case l13 => k_is); (case c13 => k_is); (case k13 => k_is); (case a14 => k_is); (case l14 => k_is); (case c14 => k_is); (case k14 => k_is); (case a15 => k_is); (case l15 => k_is); (case c15 => k_is); (case k15 => k_is); (case a16 => k_is); (case l16 => k_is); (case c16 => k_is); (case k16 => k_is); (case a17 => k_is); (case l17 => k_is); (case c17 => k_is); (case k17 => k_is); (case a18 => k_is); (case l18 => k_is); (case c18 => k_is); (case k18 => k_is); (case a19 => k_is); (case l19 => k_is); (case c19 => k_is); (case k19 => k_is); (case a20 => k_is); (case l20 => k_is); (case c20 => k_is); (case k20 => k_is); (case a21 => k_is); (case l21 => k_is); (case c21 => k_is); (case k21 => k_is); (case a22 => k_is); (case l22 => k_is); (case c22 => k_is); (case k22 => k_is); (case a23 => k_is); (case l23 => k_is); (case c23 => k_is); (case k23 => k_is); (case a24 => k_is); (case l24 => k_is); (case c24 => k_is); (case k24 => k_is); (case a25 => k_is); (case l25 => k_is); (case c25 => k_is); (case k25 => k_is); (case a26 => k_is); (case l26 => k_is); (case c26 => k_is); (case k26 => k_is); (case z_bool => k_is); (case z_dict => k_is); (case z_enumerate => k_is); (case z_int => k_is); (case z_isinstance => k_is); (case z_len => k_is); (case z_list => k_is); (case z_max => k_is); (case z_range => k_is); (case z_repr => k_is); (case z_str => k_is); (case z_sum => k_is); (case z_tuple => k_is); (case z_LARGEST => k_is); (case z_MOST_TAKEN => k_is)

